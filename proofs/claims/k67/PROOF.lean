import PyProof.Rows.All
import Wide.All
import OpenK.AllK
import Wide.FinOn
import HandS.ForMost
import HandS.ForExc
import HandS.Flow
import HandS.IsInst
import HandS.CallSlots
import HandS.Walk
import HandS.Lambda
import HandS.Style
import HandS.Deep
import HandS.TupAny
import HandS.TupLe
import HandS.NoneIn
import HandS.Wide
import HandS.Defaults
import HandS.Zip
import KE.GoesEnum
import KE.KExcSuper
import HandS.ExcInit
import HandS.ExcField
import HandS.ExcIs
import HandS.TryOnly
import HandS.Head0
import HandS.Head1
import HandS.Head2
import HandS.HeadEnd
import HandS.HeadHook1
import HandS.HeadHook2
import HandS.Ends
import HandS.TupSets
import HandS.TupMul
import HandS.SetKeys
import HandS.SortInts
import HandS.SetFor
import HandS.Strs
import HandS.EndOwn
import HandS.Conv
import HandS.SetBool
import KE.KDictList
import HandS.DictComp
import HandS.More
import HandS.ReplaceLit
import HandS.Steps
import HandS.RaiseMore
import PyProof.ListStr
import HandS.ReplaceList
import PySem.Challenge.RW_wholestrokes_k67_whole_plain_values_as_t
set_option Elab.async false
set_option linter.all false
set_option maxRecDepth 100000
set_option maxHeartbeats 0
/-! Z: values as plain data, a store of what changes, and the heap that bears both. -/
namespace Z
open PySem L2

/-- a value: tuples and lists that nobody changes by what is in them; what is changed by its number in the store -/
inductive D where
  | non | bl (b : Bool) | int (i : Int) | str (s : Str) | tup (ds : List D) | lst (ds : List D) | scr (ds : List D) | ref (n : Nat) | adr (a : Addr) | ty (n : String)
/-- what may change -/
inductive O where
  | lst (ds : List D) | ins (c : Addr) (fs : List (Str × D)) | dct (kvs : List (Key × D)) | dcT (kvs : List (List Key × D)) | iset (p : Int → Bool) (n : Nat) | tab (P : Addr) (q : Str) | lck (od : Obj) (vs : List (Key × V)) (kvs : List (Key × D))
abbrev Sto := List O
/-- what comes of an expression: a value, an error of an own class with its one value, nothing that is known -/
inductive R (α : Type) where
  | ok (a : α) (S : Sto) | exc (c : Addr) (d : D) (S : Sto) | bad
def R.bind {α β : Type} (r : R α) (f : α → Sto → R β) : R β := match r with
  | .ok a S => f a S
  | .exc c d S => .exc c d S
  | .bad => .bad
@[simp] theorem R.bind_ok {α β : Type} (a : α) (S : Sto) (f : α → Sto → R β) : (R.ok a S).bind f = f a S := rfl
@[simp] theorem R.bind_exc {α β : Type} (c : Addr) (d : D) (S : Sto) (f : α → Sto → R β) : (R.exc c d S : R α).bind f = .exc c d S := rfl
@[simp] theorem R.bind_bad {α β : Type} (f : α → Sto → R β) : (R.bad : R α).bind f = .bad := rfl

abbrev Env := List (Option D)
abbrev DE := Env → Sto → R D
abbrev DA := Env → Sto → R (List D)
abbrev DT := Env → Sto → R Bool

/-! ### the relation -/
/-- no table of code objects -/
def NT (o : HO) : Prop := ∀ ps, o ≠ .tbl ps
/-- nor a code object -/
def NX (o : HO) : Prop := NT o ∧ ∀ c q, o ≠ LamX.CodeO c q
/-- new: but for tables, nothing stands there -/
def Nw (H : Hp) (p : Addr) : Prop := ∀ o, H p = some o → ¬ NT o
theorem nw_none {H : Hp} {p : Addr} (h : H p = none) : Nw H p := fun o e => by
  rw [h] at e
  cases e
section
variable (K : PySem.W.Frag) (m B : List Addr) (H : Hp)
def KT (a : Addr) (xs : List V) : Prop :=
  ∃ (o : Obj) (its : Array Value) (n : Nat), K.lookup a = some o ∧ o.cls = .type "tuple" ∧ o.data = .seq its n ∧ its.size ≤ sizeLine ∧ Vals xs its.toList
def KL (a : Addr) (xs : List V) : Prop :=
  ∃ (o : Obj) (its : Array Value) (n : Nat), K.lookup a = some o ∧ o.cls = .type "list" ∧ o.dict = none ∧ o.data = .seq its n ∧ its.size ≤ sizeLine ∧ Vals xs its.toList
def FT (a : Addr) (xs : List V) : Prop := (a ∉ m ∧ a ∉ B ∧ Rd H a (.tup xs)) ∨ KT K a xs
def FN (m B : List Addr) (H : Hp) (a : Addr) (xs : List V) : Prop := a ∉ m ∧ a ∉ B ∧ H a = some (.lst xs)
def FL (a : Addr) (xs : List V) : Prop := (a ∉ m ∧ a ∉ B ∧ Rd H a (.lst xs)) ∨ KL K a xs
mutual
def RD : D → V → Prop
  | .non, v => v = .non
  | .bl b, v => v = .bl b
  | .int i, v => v = .int i
  | .str s, v => v = .str s
  | .tup ds, v => ∃ a vs, v = .ref a ∧ FT K m B H a vs ∧ RDs ds vs
  | .lst ds, v => ∃ a vs, v = .ref a ∧ FN m B H a vs ∧ RDs ds vs
  | .scr ds, v => ∃ a vs, v = .ref a ∧ FL K m B H a vs ∧ RDs ds vs
  | .ref n, v => ∃ a, v = .ref a ∧ m[n]? = some a
  | .adr a, v => v = .ref a
  | .ty n, v => v = .ty n
def RDs : List D → List V → Prop
  | [], vs => vs = []
  | d :: ds, vs => ∃ x r, vs = x :: r ∧ RD d x ∧ RDs ds r
end
def RFs {κ : Type} : List (κ × D) → List (κ × V) → Prop
  | [], vs => vs = []
  | p :: fs, vs => ∃ x r, vs = (p.1, x) :: r ∧ RD K m B H p.2 x ∧ RFs fs r
def REs : Env → L2.St → Prop
  | [], σ => σ = []
  | o :: ρ, σ => ∃ x r, σ = x :: r ∧ (∀ d, o = some d → ∃ v, x = some v ∧ RD K m B H d v) ∧ REs ρ r
def RO (a : Addr) : O → Prop
  | .lst ds => ∃ vs, H a = some (.lst vs) ∧ RDs K m B H ds vs
  | .ins C fs => ∃ dx vs, H a = some (.ins C dx vs) ∧ RFs K m B H fs vs
  | .dct kvs => ∃ vs, H a = some (.dK vs) ∧ RFs K m B H kvs vs
  | .dcT kvs => ∃ vs, H a = some (.dT vs) ∧ RFs K m B H kvs vs
  | .iset p n => H a = some (.set p n)
  | .lck od vs kvs => H a = some (.frz od (.dK vs)) ∧ RFs K m B H kvs vs
  | .tab P q => a = P ∧ ∃ ps, H P = some (.tbl ps) ∧ TriplesOk ps.toList ∧ ∀ pos cv, codeAmong pos ps.toList = some cv → ∃ c, cv = .ref c ∧ c ∉ m ∧ c ∉ B ∧ H c = some (LamX.CodeO c q)
structure RS (S : Sto) : Prop where
  len : m.length = S.length
  nd : m.Nodup
  dis : ∀ a ∈ m, a ∉ B
  bn : ∀ b ∈ B, ∃ u, H b = some u ∧ NX u
  ob : ∀ (n : Nat) (a : Addr) (o : O), m[n]? = some a → S[n]? = some o → RO K m B H a o
  tb : ∀ (n : Nat) (P : Addr) (q : Str), S[n]? = some (.tab P q) → n = 0
end
/-- what is not in the store stands as it stood; the store may grow by what is new -/
structure Ge (m : List Addr) (H : Hp) (m' : List Addr) (H' : Hp) : Prop where
  pre : ∃ l, m' = m ++ l
  keep : ∀ b o, b ∉ m → H b = some o → NT o → b ∉ m' ∧ H' b = some o
theorem Ge.refl (m : List Addr) (H : Hp) : Ge m H m H := ⟨⟨[], by simp⟩, fun _ _ h e _ => ⟨h, e⟩⟩
theorem Ge.trans {m m1 m2 : List Addr} {H H1 H2 : Hp} (a : Ge m H m1 H1) (b : Ge m1 H1 m2 H2) : Ge m H m2 H2 := by
  obtain ⟨⟨l, e⟩, k⟩ := a
  obtain ⟨⟨l', e'⟩, k'⟩ := b
  refine ⟨⟨l ++ l', by rw [e', e, List.append_assoc]⟩, fun c o h q nt => ?_⟩
  obtain ⟨h1, q1⟩ := k c o h q nt
  exact k' c o h1 q1 nt
/-- what is borne here is borne there -/
structure Tr (m B : List Addr) (H : Hp) (m' B' : List Addr) (H' : Hp) : Prop where
  at_ : ∀ (n : Nat) (a : Addr), m[n]? = some a → m'[n]? = some a
  rd : ∀ (a : Addr) (u : HO), a ∉ m → a ∉ B → H a = some u → NT u → a ∉ m' ∧ a ∉ B' ∧ H' a = some u
theorem Ge.tr {m m' B : List Addr} {H H' : Hp} (g : Ge m H m' H') : Tr m B H m' B H' := by
  refine ⟨fun n a h => ?_, fun a u h1 h2 h3 h4 => ⟨(g.keep a u h1 h3 h4).1, h2, (g.keep a u h1 h3 h4).2⟩⟩
  obtain ⟨⟨l, rfl⟩, _⟩ := g
  rw [List.getElem?_append_left (List.getElem?_eq_some_iff.mp h).1]
  exact h
section
variable {K : PySem.W.Frag} {m m' B B' : List Addr} {H H' : Hp}
theorem Tr.rds {a : Addr} {u : HO} (g : Tr m B H m' B' H') (hn : a ∉ m) (hb : a ∉ B) (r : Rd H a u) (nt : NT u := by exact fun ps e => (by cases e)) : a ∉ m' ∧ a ∉ B' ∧ Rd H' a u := by
  rcases r with r | ⟨o, r⟩
  · have q := g.rd a _ hn hb r nt
    exact ⟨q.1, q.2.1, .inl q.2.2⟩
  · have q := g.rd a _ hn hb r (fun ps e => by cases e)
    exact ⟨q.1, q.2.1, .inr ⟨o, q.2.2⟩⟩
theorem FT.mono {a : Addr} {xs : List V} (g : Tr m B H m' B' H') (h : FT K m B H a xs) : FT K m' B' H' a xs := h.elim (fun q => .inl (g.rds q.1 q.2.1 q.2.2)) .inr
theorem FL.mono {a : Addr} {xs : List V} (g : Tr m B H m' B' H') (h : FL K m B H a xs) : FL K m' B' H' a xs := h.elim (fun q => .inl (g.rds q.1 q.2.1 q.2.2)) .inr
theorem FN.mono {a : Addr} {xs : List V} (g : Tr m B H m' B' H') (h : FN m B H a xs) : FN m' B' H' a xs := g.rd a _ h.1 h.2.1 h.2.2 (fun ps e => by cases e)
theorem FN.fl {a : Addr} {xs : List V} (h : FN m B H a xs) : FL K m B H a xs := .inl ⟨h.1, h.2.1, .inl h.2.2⟩
theorem FT.sq {a : Addr} {xs : List V} (h : FT K m B H a xs) : SqT K H a xs := h.elim (fun q => .inl q.2.2) .inr
theorem FL.sq {a : Addr} {xs : List V} (h : FL K m B H a xs) : SqL K H a xs := h.elim (fun q => .inl q.2.2) .inr
theorem FN.sq {a : Addr} {xs : List V} (h : FN m B H a xs) : SqL K H a xs := .inl (.inl h.2.2)
mutual
theorem RD.mono (g : Tr m B H m' B' H') : ∀ (d : D) (v : V), RD K m B H d v → RD K m' B' H' d v
  | .non, _, h | .bl _, _, h | .int _, _, h | .str _, _, h | .adr _, _, h | .ty _, _, h => by
    unfold RD at h ⊢
    exact h
  | .tup ds, v, h => by
    unfold RD at h ⊢
    obtain ⟨a, vs, e, f, r⟩ := h
    exact ⟨a, vs, e, f.mono g, RDs.mono g ds vs r⟩
  | .lst ds, v, h => by
    unfold RD at h ⊢
    obtain ⟨a, vs, e, f, r⟩ := h
    exact ⟨a, vs, e, f.mono g, RDs.mono g ds vs r⟩
  | .scr ds, v, h => by
    unfold RD at h ⊢
    obtain ⟨a, vs, e, f, r⟩ := h
    exact ⟨a, vs, e, f.mono g, RDs.mono g ds vs r⟩
  | .ref n, v, h => by
    unfold RD at h ⊢
    obtain ⟨a, e, q⟩ := h
    exact ⟨a, e, g.at_ n a q⟩
theorem RDs.mono (g : Tr m B H m' B' H') : ∀ (ds : List D) (vs : List V), RDs K m B H ds vs → RDs K m' B' H' ds vs
  | [], _, h => by
    unfold RDs at h ⊢
    exact h
  | d :: ds, vs, h => by
    unfold RDs at h ⊢
    obtain ⟨x, r, e, h1, h2⟩ := h
    exact ⟨x, r, e, RD.mono g d x h1, RDs.mono g ds r h2⟩
end
theorem RFs.mono {κ : Type} (g : Tr m B H m' B' H') : ∀ (fs : List (κ × D)) (vs : List (κ × V)), RFs K m B H fs vs → RFs K m' B' H' fs vs
  | [], _, h => h
  | p :: fs, vs, ⟨x, r, e, h1, h2⟩ => ⟨x, r, e, RD.mono g _ _ h1, RFs.mono g fs r h2⟩
theorem REs.mono (g : Tr m B H m' B' H') : ∀ (ρ : Env) (σ : L2.St), REs K m B H ρ σ → REs K m' B' H' ρ σ
  | [], _, h => h
  | o :: ρ, σ, ⟨x, r, e, h1, h2⟩ => ⟨x, r, e, fun d q => let ⟨v, e, z⟩ := h1 d q; ⟨v, e, RD.mono g d v z⟩, REs.mono g ρ r h2⟩
theorem RDs.len : ∀ {ds : List D} {vs : List V}, RDs K m B H ds vs → ds.length = vs.length
  | [], _, h => by unfold RDs at h; rw [h]; rfl
  | d :: ds, vs, h => by
    unfold RDs at h
    obtain ⟨x, r, rfl, _, h2⟩ := h
    simp [RDs.len h2]
theorem RDs.get : ∀ {ds : List D} {vs : List V} {i : Nat} {d : D}, RDs K m B H ds vs → ds[i]? = some d → ∃ v, vs[i]? = some v ∧ RD K m B H d v
  | [], _, _, _, _, e => by simp at e
  | d :: ds, vs, 0, _, h, e => by
    unfold RDs at h
    obtain ⟨x, r, rfl, h1, _⟩ := h
    simp at e
    subst e
    exact ⟨x, rfl, h1⟩
  | d :: ds, vs, i + 1, _, h, e => by
    unfold RDs at h
    obtain ⟨x, r, rfl, _, h2⟩ := h
    simp at e
    exact RDs.get (i := i) h2 e
theorem RDs.nil : RDs K m B H [] [] := by unfold RDs; rfl
theorem RDs.cons {d : D} {v : V} {ds : List D} {vs : List V} (h : RD K m B H d v) (t : RDs K m B H ds vs) : RDs K m B H (d :: ds) (v :: vs) := by
  unfold RDs
  exact ⟨v, vs, rfl, h, t⟩
theorem RDs.app : ∀ {ds ds' : List D} {vs vs' : List V}, RDs K m B H ds vs → RDs K m B H ds' vs' → RDs K m B H (ds ++ ds') (vs ++ vs')
  | [], _, _, _, h, t => by unfold RDs at h; rw [h]; exact t
  | d :: ds, _, _, _, h, t => by
    unfold RDs at h
    obtain ⟨x, r, rfl, h1, h2⟩ := h
    exact RDs.cons h1 (RDs.app h2 t)
theorem RDs.set : ∀ {ds : List D} {vs : List V} {d : D} {v : V} (i : Nat), RDs K m B H ds vs → RD K m B H d v → RDs K m B H (ds.set i d) (vs.set i v)
  | [], _, _, _, _, h, _ => by unfold RDs at h; rw [h]; exact RDs.nil
  | d :: ds, vs, _, _, 0, h, t => by
    unfold RDs at h
    obtain ⟨x, r, rfl, _, h2⟩ := h
    exact RDs.cons t h2
  | d :: ds, vs, _, _, i + 1, h, t => by
    unfold RDs at h
    obtain ⟨x, r, rfl, h1, h2⟩ := h
    exact RDs.cons h1 (RDs.set i h2 t)
theorem RDs.drop : ∀ {ds : List D} {vs : List V} (i : Nat), RDs K m B H ds vs → RDs K m B H (ds.drop i) (vs.drop i)
  | _, _, 0, h => h
  | [], _, i + 1, h => by unfold RDs at h; rw [h]; exact RDs.nil
  | d :: ds, vs, i + 1, h => by
    unfold RDs at h
    obtain ⟨x, r, rfl, _, h2⟩ := h
    exact RDs.drop i h2
theorem RDs.take : ∀ {ds : List D} {vs : List V} (i : Nat), RDs K m B H ds vs → RDs K m B H (ds.take i) (vs.take i)
  | _, _, 0, h => by simp [RDs.nil]
  | [], _, i + 1, h => by unfold RDs at h; rw [h]; exact RDs.nil
  | d :: ds, vs, i + 1, h => by
    unfold RDs at h
    obtain ⟨x, r, rfl, h1, h2⟩ := h
    exact RDs.cons h1 (RDs.take i h2)
theorem RDs.rev : ∀ {ds : List D} {vs : List V}, RDs K m B H ds vs → RDs K m B H ds.reverse vs.reverse
  | [], _, h => by unfold RDs at h; rw [h]; exact RDs.nil
  | d :: ds, vs, h => by
    unfold RDs at h
    obtain ⟨x, r, rfl, h1, h2⟩ := h
    rw [List.reverse_cons, List.reverse_cons]
    exact RDs.app (RDs.rev h2) (RDs.cons h1 RDs.nil)
theorem RDs.dropLast {ds : List D} {vs : List V} (h : RDs K m B H ds vs) : RDs K m B H ds.dropLast vs.dropLast := by
  rw [List.dropLast_eq_take, List.dropLast_eq_take, ← h.len]
  exact RDs.take _ h
theorem REs.get : ∀ {ρ : Env} {σ : L2.St} {i : Nat} {d : D}, REs K m B H ρ σ → ρ[i]? = some (some d) → ∃ v, σ[i]? = some (some v) ∧ RD K m B H d v
  | [], _, _, _, _, e => by simp at e
  | o :: ρ, σ, 0, _, ⟨x, r, e, h1, _⟩, q => by
    subst e
    simp at q
    obtain ⟨v, e, z⟩ := h1 _ q
    exact ⟨v, by simp [e], z⟩
  | o :: ρ, σ, i + 1, _, ⟨x, r, e, _, h2⟩, q => by
    subst e
    simp at q
    exact REs.get (i := i) h2 q
theorem REs.set : ∀ {ρ : Env} {σ : L2.St} {d : D} {v : V} (i : Nat), REs K m B H ρ σ → RD K m B H d v → REs K m B H (ρ.set i (some d)) (σ.set i (some v))
  | [], _, _, _, _, h, _ => by
    have h' : _ = _ := h
    rw [h']
    rfl
  | o :: ρ, σ, d, v, 0, ⟨x, r, e, h1, h2⟩, t => by
    subst e
    exact ⟨some v, r, rfl, fun d' q => ⟨v, rfl, by cases q; exact t⟩, h2⟩
  | o :: ρ, σ, d, v, i + 1, ⟨x, r, e, h1, h2⟩, t => by
    subst e
    exact ⟨x, _, rfl, h1, REs.set i h2 t⟩
theorem REs.setN : ∀ {ρ : Env} {σ : L2.St} (i : Nat), REs K m B H ρ σ → REs K m B H (ρ.set i none) (σ.set i none)
  | [], _, _, h => by
    have h' : _ = _ := h
    rw [h']
    rfl
  | o :: ρ, σ, 0, ⟨x, r, e, h1, h2⟩ => by
    subst e
    exact ⟨none, r, rfl, fun d' q => (nomatch q), h2⟩
  | o :: ρ, σ, i + 1, ⟨x, r, e, h1, h2⟩ => by
    subst e
    exact ⟨x, _, rfl, h1, REs.setN i h2⟩
theorem REs.len : ∀ {ρ : Env} {σ : L2.St}, REs K m B H ρ σ → ρ.length = σ.length
  | [], _, h => by
    have h' : _ = _ := h
    rw [h']
    rfl
  | o :: ρ, σ, ⟨x, r, e, _, h2⟩ => by
    subst e
    simp [REs.len h2]
end
def wipeD (ρ : Env) : List Nat → Env
  | [] => ρ
  | v :: vs => (wipeD ρ vs).set v none
theorem REs.wipe {K : PySem.W.Frag} {m B : List Addr} {H : Hp} {ρ : Env} {σ : L2.St} (h : REs K m B H ρ σ) : ∀ vs, REs K m B H (wipeD ρ vs) (L2.wipe σ vs)
  | [] => h
  | v :: vs => REs.setN v (REs.wipe h vs)

/-! ### the store and the heap -/
section
variable {K : PySem.W.Frag} {m m' B B' : List Addr} {H H' : Hp} {S : Sto}
theorem RS.at (r : RS K m B H S) {n : Nat} {o : O} (h : S[n]? = some o) : ∃ a, m[n]? = some a ∧ RO K m B H a o := by
  have hn : n < m.length := by rw [r.len]; exact (List.getElem?_eq_some_iff.mp h).1
  exact ⟨m[n], by simp [hn], r.ob n _ o (by simp [hn]) h⟩
theorem RS.in {n : Nat} {a : Addr} (h : m[n]? = some a) : a ∈ m := List.mem_of_getElem? h
theorem RO.ex {a : Addr} {o : O} (h : RO K m B H a o) : ∃ u, H a = some u := by
  cases o with
  | lst ds => obtain ⟨vs, e, _⟩ := h; exact ⟨_, e⟩
  | ins C fs => obtain ⟨dx, vs, e, _⟩ := h; exact ⟨_, e⟩
  | dct kvs => obtain ⟨vs, e, _⟩ := h; exact ⟨_, e⟩
  | dcT kvs => obtain ⟨vs, e, _⟩ := h; exact ⟨_, e⟩
  | iset p n => exact ⟨_, h⟩
  | lck od vs kvs => obtain ⟨e, _⟩ := h; exact ⟨_, e⟩
  | tab P q => obtain ⟨rfl, ps, e, _⟩ := h; exact ⟨_, e⟩
theorem RS.ex (r : RS K m B H S) {a : Addr} (h : a ∈ m) : ∃ u, H a = some u := by
  obtain ⟨n, hn⟩ := List.mem_iff_getElem?.mp h
  have hl : n < S.length := by rw [← r.len]; exact (List.getElem?_eq_some_iff.mp hn).1
  exact (r.ob n a S[n] hn (by simp [hl])).ex
theorem RS.notin (r : RS K m B H S) {a : Addr} (h : H a = none) : a ∉ m := fun q => by
  obtain ⟨u, e⟩ := r.ex q
  rw [h] at e
  cases e
theorem RS.notB (r : RS K m B H S) {a : Addr} (h : H a = none) : a ∉ B := fun q => by
  obtain ⟨u, e, _⟩ := r.bn a q
  rw [h] at e
  cases e
theorem RO.mono {a : Addr} {o : O} (g : Tr m B H m' B' H') (he : H' a = H a) (h : RO K m B H a o) : RO K m' B' H' a o := by
  cases o with
  | lst ds => obtain ⟨vs, e, q⟩ := h; exact ⟨vs, he.trans e, RDs.mono g _ _ q⟩
  | ins C fs => obtain ⟨dx, vs, e, q⟩ := h; exact ⟨dx, vs, he.trans e, RFs.mono g _ _ q⟩
  | dct kvs => obtain ⟨vs, e, q⟩ := h; exact ⟨vs, he.trans e, RFs.mono g _ _ q⟩
  | dcT kvs => obtain ⟨vs, e, q⟩ := h; exact ⟨vs, he.trans e, RFs.mono g _ _ q⟩
  | iset p n => exact he.trans h
  | lck od vs kvs => obtain ⟨e, q⟩ := h; exact ⟨he.trans e, RFs.mono g _ _ q⟩
  | tab P q =>
    obtain ⟨rfl, ps, e, ok, k⟩ := h
    refine ⟨rfl, ps, he.trans e, ok, fun pos cv hc => ?_⟩
    obtain ⟨c, e1, e2, e3, e4⟩ := k pos cv hc
    exact ⟨c, e1, g.rd c _ e2 e3 e4 LamX.codeO_ne⟩
/-- the heap grew by things that are not put into the store -/
theorem RS.ext (r : RS K m B H S) (h : ∀ b o, H b = some o → H' b = some o) : Ge m H m H' ∧ RS K m B H' S := by
  have g : Ge m H m H' := ⟨⟨[], by simp⟩, fun b o hb e _ => ⟨hb, h b o e⟩⟩
  refine ⟨g, r.len, r.nd, r.dis, fun b hb => ?_, fun n a o h1 h2 => ?_, r.tb⟩
  · obtain ⟨u, e, nx⟩ := r.bn b hb
    exact ⟨u, h b u e, nx⟩
  · have q := r.ob n a o h1 h2
    obtain ⟨u, e⟩ := q.ex
    exact q.mono g.tr (by rw [e]; exact h _ _ e)
theorem new_ext {p : Addr} {u : HO} (hp : H p = none) : ∀ b o, H b = some o → upd H p u b = some o := fun b o e => by rw [upd_ne (ne_of_none e hp)]; exact e
/-- a new thing that is not put into the store -/
theorem RS.new (r : RS K m B H S) {p : Addr} {u : HO} (hp : H p = none) : Ge m H m (upd H p u) ∧ RS K m B (upd H p u) S := r.ext (new_ext hp)
/-- the same, forbidden so far -/
theorem Tr.ban {p : Addr} {u : HO} (hp : H p = none) : Tr m B H m (p :: B) (upd H p u) := ⟨fun _ _ h => h, fun a u h1 h2 h3 _ => ⟨h1, by simp only [List.mem_cons, not_or]; exact ⟨ne_of_none h3 hp, h2⟩, new_ext hp _ _ h3⟩⟩
theorem RS.ban (r : RS K m B H S) {p : Addr} {u : HO} (hp : H p = none) (nx : NX u := by exact ⟨fun ps e => (by cases e), fun c q e => (by unfold LamX.CodeO at e; cases e)⟩) : RS K m (p :: B) (upd H p u) S := by
  refine ⟨r.len, r.nd, fun a ha => ?_, fun b hb => ?_, fun n a o h1 h2 => ?_, r.tb⟩
  · simp only [List.mem_cons, not_or]
    exact ⟨fun e => r.notin hp (by rw [← e]; exact ha), r.dis a ha⟩
  · rcases List.mem_cons.mp hb with rfl | hb
    · exact ⟨u, upd_same, nx⟩
    · obtain ⟨w, e, nw⟩ := r.bn b hb
      exact ⟨w, new_ext hp _ _ e, nw⟩
  · exact (r.ob n a o h1 h2).mono (Tr.ban hp) (upd_ne fun e => r.notin hp (by rw [← e]; exact RS.in h1))
/-- what is forbidden may change -/
theorem Tr.chg {p : Addr} {u : HO} (hp : p ∈ B) : Tr m B H m B (upd H p u) := ⟨fun _ _ h => h, fun a w h1 h2 h3 _ => ⟨h1, h2, by rw [upd_ne fun e => h2 (by rw [e]; exact hp)]; exact h3⟩⟩
theorem RS.chg (r : RS K m B H S) {p : Addr} {u : HO} (hp : p ∈ B) (nx : NX u := by exact ⟨fun ps e => (by cases e), fun c q e => (by unfold LamX.CodeO at e; cases e)⟩) : RS K m B (upd H p u) S := by
  refine ⟨r.len, r.nd, r.dis, fun b hb => ?_, fun n a o h1 h2 => ?_, r.tb⟩
  · by_cases e : b = p
    · exact ⟨u, by rw [e]; exact upd_same, nx⟩
    · rw [upd_ne e]
      exact r.bn b hb
  · exact (r.ob n a o h1 h2).mono (Tr.chg hp) (upd_ne fun e => r.dis a (RS.in h1) (by rw [e]; exact hp))
/-- no longer forbidden: a value | in the store -/
theorem Tr.free {p : Addr} : Tr m (p :: B) H m B H := ⟨fun _ _ h => h, fun a u h1 h2 h3 _ => ⟨h1, fun q => h2 (List.mem_cons_of_mem _ q), h3⟩⟩
theorem RS.free (r : RS K m (p :: B) H S) : RS K m B H S :=
  ⟨r.len, r.nd, fun a ha q => r.dis a ha (List.mem_cons_of_mem _ q), fun b hb => r.bn b (List.mem_cons_of_mem _ hb), fun n a o h1 h2 => (r.ob n a o h1 h2).mono Tr.free rfl, r.tb⟩
theorem Tr.own {p : Addr} : Tr m (p :: B) H (m ++ [p]) B H := ⟨fun n a h => by
    rw [List.getElem?_append_left (List.getElem?_eq_some_iff.mp h).1]
    exact h, fun a u h1 h2 h3 _ => by
    simp only [List.mem_cons, not_or] at h2
    simp only [List.mem_append, List.mem_singleton, not_or]
    exact ⟨⟨h1, h2.1⟩, h2.2, h3⟩⟩
theorem RS.own (r : RS K m (p :: B) H S) {o : O} (hB : p ∉ B) (ho : RO K (m ++ [p]) B H p o) (hO : ∀ P q, o ≠ .tab P q := by exact fun P q e => (by cases e)) : RS K (m ++ [p]) B H (S ++ [o]) := by
  have hp : p ∉ m := fun h => r.dis p h (List.mem_cons_self ..)
  refine ⟨by simp [r.len], ?_, fun a ha => ?_, fun b hb => r.bn b (List.mem_cons_of_mem _ hb), fun n a o' h1 h2 => ?_, fun n P q h => ?_⟩
  · rw [List.nodup_append]
    refine ⟨r.nd, by simp, fun a ha b hb e => ?_⟩
    simp at hb
    subst hb e
    exact hp ha
  · rcases List.mem_append.mp ha with h | h
    · exact fun q => r.dis a h (List.mem_cons_of_mem _ q)
    · simp at h
      subst h
      exact hB
  · by_cases hn : n < m.length
    · rw [List.getElem?_append_left hn] at h1
      rw [List.getElem?_append_left (by rw [← r.len]; exact hn)] at h2
      exact (r.ob n a o' h1 h2).mono Tr.own rfl
    · have e : n = m.length := by
        have := (List.getElem?_eq_some_iff.mp h1).1
        simp at this
        omega
      subst e
      rw [List.getElem?_append_right (Nat.le_refl _)] at h1
      rw [List.getElem?_append_right (by rw [r.len]; exact Nat.le_refl _), r.len] at h2
      simp at h1 h2
      subst h1 h2
      exact ho
  · by_cases hn : n < S.length
    · rw [List.getElem?_append_left hn] at h
      exact r.tb n P q h
    · rw [List.getElem?_append_right (by omega)] at h
      exact absurd (List.mem_singleton.mp (List.mem_of_getElem? h)).symm (hO P q)
theorem Ge.own {p : Addr} (g : Ge m H m' H') (hp : Nw H p) : Ge m H (m' ++ [p]) H' := by
  obtain ⟨⟨l, e⟩, k⟩ := g
  exact ⟨⟨l ++ [p], by rw [e, List.append_assoc]⟩, fun b o hb q nt => ⟨by simp only [List.mem_append, List.mem_singleton, not_or]; exact ⟨(k b o hb q nt).1, fun e => hp o (by rw [← e]; exact q) nt⟩, (k b o hb q nt).2⟩⟩
/-- a thing of the store is changed -/
theorem RS.put (r : RS K m B H S) {n : Nat} {a : Addr} {u : HO} {o : O} (hn : m[n]? = some a) (ho : ∀ H', Ge m H m H' → H' a = some u → RO K m B H' a o) (hO : ∀ P q, o ≠ .tab P q := by exact fun P q e => (by cases e)) : Ge m H m (upd H a u) ∧ RS K m B (upd H a u) (S.set n o) := by
  have g : Ge m H m (upd H a u) := ⟨⟨[], by simp⟩, fun b o hb e _ => ⟨hb, by rw [upd_ne fun z => hb (by rw [z]; exact RS.in hn)]; exact e⟩⟩
  refine ⟨g, by simp [r.len], r.nd, r.dis, fun b hb => ?_, fun k b o' h1 h2 => ?_, fun k P q h => ?_⟩
  · rw [upd_ne fun e => r.dis a (RS.in hn) (by rw [← e]; exact hb)]
    exact r.bn b hb
  · by_cases hk : k = n
    · subst hk
      have hl : k < S.length := by rw [← r.len]; exact (List.getElem?_eq_some_iff.mp h1).1
      rw [List.getElem?_set_self hl] at h2
      rw [hn] at h1
      cases h1
      cases h2
      exact ho _ g upd_same
    · rw [List.getElem?_set_ne (Ne.symm hk)] at h2
      have hab : b ≠ a := fun e => by
        subst e
        obtain ⟨i1, e1⟩ := List.getElem?_eq_some_iff.mp h1
        obtain ⟨i2, e2⟩ := List.getElem?_eq_some_iff.mp hn
        exact hk ((List.getElem_inj r.nd).mp (e1.trans e2.symm))
      exact (r.ob k b o' h1 h2).mono g.tr (upd_ne hab)
  · by_cases hk : k = n
    · subst hk
      by_cases hl : k < S.length
      · rw [List.getElem?_set_self hl] at h
        exact absurd (Option.some.inj h) (hO P q)
      · rw [List.getElem?_eq_none (by simp; omega)] at h
        cases h
    · rw [List.getElem?_set_ne (Ne.symm hk)] at h
      exact r.tb k P q h
end
end Z
namespace Z
open PySem L2

/-! ### readings over plain data -/
/-- what is wanted behind r -/
def Post {α : Type} (K : PySem.W.Frag) (m B : List Addr) (H : Hp) (W : Value → Option Addr → Hp → Prop) (P : α → Sto → List Addr → Hp → Prop) : R α → Prop
  | .ok a S' => ∀ m' H', Ge m H m' H' → RS K m' B H' S' → P a S' m' H'
  | .exc c d S' => ∀ m' H' x v, Ge m H m' H' → RS K m' B H' S' → H' x = some (.xd [("at", v)]) → RD K m' B H' d v → W (.ref c) (some x) H'
  | .bad => False
theorem Post.ge {α : Type} {K : PySem.W.Frag} {m m' B : List Addr} {H H' : Hp} {W : Value → Option Addr → Hp → Prop} {P : α → Sto → List Addr → Hp → Prop} {r : R α} (h : Post K m B H W P r) (g : Ge m H m' H') : Post K m' B H' W P r := by
  cases r with
  | ok a S => exact fun m2 H2 g2 r2 => h m2 H2 (g.trans g2) r2
  | exc c d S => exact fun m2 H2 x v g2 r2 e2 d2 => h m2 H2 x v (g.trans g2) r2 e2 d2
  | bad => exact h
theorem Post.imp {α : Type} {K : PySem.W.Frag} {m B : List Addr} {H : Hp} {W : Value → Option Addr → Hp → Prop} {P P' : α → Sto → List Addr → Hp → Prop} {r : R α} (h : Post K m B H W P r)
    (i : ∀ a S m' H', Ge m H m' H' → RS K m' B H' S → P a S m' H' → P' a S m' H') : Post K m B H W P' r := by
  cases r with
  | ok a S => exact fun m2 H2 g2 r2 => i a S m2 H2 g2 r2 (h m2 H2 g2 r2)
  | exc c d S => exact h
  | bad => exact h
/-- one step behind another -/
theorem Post.bind {α β : Type} {K : PySem.W.Frag} {m B : List Addr} {H : Hp} {W : Value → Option Addr → Hp → Prop} {P : β → Sto → List Addr → Hp → Prop} {r : R α} {f : α → Sto → R β} (h : Post K m B H W P (r.bind f)) :
    Post K m B H W (fun a S m' H' => Post K m' B H' W P (f a S)) r := by
  cases r with
  | ok a S => exact fun m2 H2 g2 r2 => Post.ge (show Post K m B H W P (f a S) from h) g2
  | exc c d S => exact h
  | bad => exact h

/-- the reading of an expression that comes to den; W: what is wanted of an error -/
def tE (W : WX) (K : PySem.W.Frag) (den : DE) : TE := fun σ H Q => ∃ m B ρ S, RS K m B H S ∧ REs K m B H ρ σ ∧ Post K m B H (fun c x H' => W c x σ H') (fun d _ m' H' => ∀ v, RD K m' B H' d v → Q v H') (den ρ S)
def tAr (W : WX) (K : PySem.W.Frag) (den : DA) : TA := fun σ H Q => ∃ m B ρ S, RS K m B H S ∧ REs K m B H ρ σ ∧ Post K m B H (fun c x H' => W c x σ H') (fun ds _ m' H' => ∀ vs, RDs K m' B H' ds vs → Q vs H') (den ρ S)
def tTe (W : WX) (K : PySem.W.Frag) (den : DT) : TT := fun σ H Q => ∃ m B ρ S, RS K m B H S ∧ REs K m B H ρ σ ∧ Post K m B H (fun c x H' => W c x σ H') (fun b _ _ H' => Q b H') (den ρ S)
def ZE (X : Cx) (e : Expr) (den : DE) : Prop := ∀ W, Takes X W → PE X e (tE W X.K den)
def ZA (X : Cx) (es : List Expr) (den : DA) : Prop := ∀ W, Takes X W → PA X es (tAr W X.K den)
def ZT (X : Cx) (e : Expr) (den : DT) : Prop := ∀ W, Takes X W → PT X e (tTe W X.K den)
def ZW (X : Cx) (e : Expr) (den : DT) : Prop := ∀ W, Takes X W → PW X e (tTe W X.K den)
theorem pe_weak {X : Cx} {e : Expr} {t t' : TE} (h : PE X e t) (i : ∀ σ H Q, t' σ H Q → t σ H Q) : PE X e t' := ⟨fun pins s σ H Q I q => h.run pins s σ H Q I (i σ H Q q)⟩
theorem pt_weak {X : Cx} {e : Expr} {t t' : TT} (h : PT X e t) (i : ∀ σ H Q, t' σ H Q → t σ H Q) : PT X e t' := ⟨fun pins s σ H Q I q => h.run pins s σ H Q I (i σ H Q q)⟩
theorem pw_weak {X : Cx} {e : Expr} {t t' : TT} (h : PW X e t) (i : ∀ σ H Q, t' σ H Q → t σ H Q) : PW X e t' := ⟨fun wh pins s σ H Q I q => h.run wh pins s σ H Q I (i σ H Q q)⟩
theorem pa_weak {X : Cx} {e : List Expr} {t t' : TA} (h : PA X e t) (i : ∀ σ H Q, t' σ H Q → t σ H Q) : PA X e t' := ⟨fun p pins s σ H Q I q => h.run p pins s σ H Q I (i σ H Q q)⟩
theorem pss_weak {X : Cx} {e : List Stmt} {t t' : TS} (h : PSs X e t) (i : ∀ D σ H, t' D σ H → t D σ H) : PSs X e t' := ⟨fun pins s σ H D I q => h.run pins s σ H D I (i D σ H q)⟩
theorem ps_weak {X : Cx} {e : Stmt} {t t' : TS} (h : PS X e t) (i : ∀ D σ H, t' D σ H → t D σ H) : PS X e t' := ⟨fun pins s σ H D I q => h.run pins s σ H D I (i D σ H q)⟩
theorem pg_weak {X : Cx} {e : Expr} {t t' : TG} (h : PG X e t) (i : ∀ v σ H Q, t' v σ H Q → t v σ H Q) : PG X e t' := ⟨fun pins s σ H x u Q I r q => h.run pins s σ H x u Q I r (i _ _ _ _ q)⟩
theorem pi_weak {X : Cx} {tg e : Expr} {t t' : TI} (h : PI X tg e t) (i : ∀ σ H Q, t' σ H Q → t σ H Q) : PI X tg e t' := ⟨fun pins s σ H Q I q => h.run pins s σ H Q I (i σ H Q q)⟩
/-- taken apart: what a part's reading is to give -/
theorem tE.take {W : WX} {K : PySem.W.Frag} {da : DE} {f : D → Sto → R D} {σ : L2.St} {H : Hp} {Q Q' : VK} {m B : List Addr} {ρ : Env} {S : Sto} (r : RS K m B H S) (e : REs K m B H ρ σ)
    (h : Post K m B H (fun c x H' => W c x σ H') (fun d _ m' H' => ∀ v, RD K m' B H' d v → Q v H') ((da ρ S).bind f))
    (k : ∀ d S1 m1 H1 v, Ge m H m1 H1 → RS K m1 B H1 S1 → REs K m1 B H1 ρ σ → RD K m1 B H1 d v → Post K m1 B H1 (fun c x H' => W c x σ H') (fun d _ m' H' => ∀ v, RD K m' B H' d v → Q v H') (f d S1) → Q' v H1) : tE W K da σ H Q' :=
  ⟨m, B, ρ, S, r, e, (Post.bind h).imp fun d S1 m1 H1 g1 r1 p v rv => k d S1 m1 H1 v g1 r1 (e.mono g1.tr) rv p⟩
/-- the same, any end -/
theorem take_any {α β : Type} {W : Value → Option Addr → Hp → Prop} {K : PySem.W.Frag} {r : R α} {f : α → Sto → R β} {H : Hp} {m B : List Addr} {P : β → Sto → List Addr → Hp → Prop} {P' : α → Sto → List Addr → Hp → Prop}
    (h : Post K m B H W P (r.bind f)) (k : ∀ a S1 m1 H1, Ge m H m1 H1 → RS K m1 B H1 S1 → Post K m1 B H1 W P (f a S1) → P' a S1 m1 H1) : Post K m B H W P' r :=
  (Post.bind h).imp fun a S1 m1 H1 g1 r1 p => k a S1 m1 H1 g1 r1 p
/-- what is there at once -/
theorem Post.now {α : Type} {K : PySem.W.Frag} {m B : List Addr} {H : Hp} {W : Value → Option Addr → Hp → Prop} {P : α → Sto → List Addr → Hp → Prop} {a : α} {S : Sto} (h : Post K m B H W P (.ok a S)) (r : RS K m B H S) : P a S m H := h m H (.refl m H) r

/-! ### names and constants -/
def eV (i : Nat) : DE := fun ρ S => match ρ[i]? with
  | some (some d) => .ok d S
  | _ => .bad
def eC (d : D) : DE := fun _ S => .ok d S
section
variable {X : Cx} {pos : Pos}
theorem REs.getE {K : PySem.W.Frag} {m B : List Addr} {H : Hp} {ρ : Env} {σ : L2.St} (h : REs K m B H ρ σ) {i : Nat} {d : D} (e : ρ[i]? = some (some d)) : ∃ v, σ[i]? = some (some v) ∧ RD K m B H d v := h.get e
theorem ze_var (i : Nat) {x : Str} (hN : X.N[i]? = some x := by rfl) (hv : Vis X.env.scope x := by first | exact Or.inl rfl | exact Or.inr (Or.inl rfl) | exact Or.inr (Or.inr rfl)) (hd : (x == ("__debug__" : Str)) = false := by decide)
    (hcd : (x == ("__classdict__" : Str)) = false := by decide) : ZE X (.Name x pos) (eV i) := fun W tk => pe_weak (pe_var hN hv hd hcd) fun σ H Q ⟨m, B, ρ, S, r, e, h⟩ => by
  unfold eV at h
  split at h
  · rename_i d hd'
    obtain ⟨v, e1, rv⟩ := e.getE hd'
    exact ⟨v, e1, h.now r v rv⟩
  · exact h.elim
theorem RDi {K : PySem.W.Frag} {m B : List Addr} {H : Hp} (i : Int) : RD K m B H (.int i) (.int i) := by unfold RD; rfl
theorem RDb {K : PySem.W.Frag} {m B : List Addr} {H : Hp} (i : Bool) : RD K m B H (.bl i) (.bl i) := by unfold RD; rfl
theorem RDn {K : PySem.W.Frag} {m B : List Addr} {H : Hp} : RD K m B H .non .non := by unfold RD; rfl
theorem RDst {K : PySem.W.Frag} {m B : List Addr} {H : Hp} (i : Str) : RD K m B H (.str i) (.str i) := by unfold RD; rfl
theorem RDt {K : PySem.W.Frag} {m B : List Addr} {H : Hp} (i : String) : RD K m B H (.ty i) (.ty i) := by unfold RD; rfl
theorem RDa {K : PySem.W.Frag} {m B : List Addr} {H : Hp} (a : Addr) : RD K m B H (.adr a) (.ref a) := by unfold RD; rfl
theorem ze_c {e : Expr} {d : D} {v : V} (h : PE X e (tC v)) (r : ∀ m B H, RD X.K m B H d v) : ZE X e (eC d) := fun W tk => pe_weak h fun σ H Q ⟨m, B, ρ, S, rs, e, h⟩ => h.now rs v (r m B H)
theorem ze_int {i : Int} {j : Nat} : ZE X (.Constant (.int i) j pos) (eC (.int i)) := ze_c pe_int fun _ _ _ => RDi i
theorem ze_bl {b : Bool} {j : Nat} : ZE X (.Constant (.bool b) j pos) (eC (.bl b)) := ze_c pe_bl fun _ _ _ => RDb b
theorem ze_non {j : Nat} : ZE X (.Constant .none j pos) (eC .non) := ze_c pe_non fun _ _ _ => RDn
theorem ze_str {x : Str} {j : Nat} : ZE X (.Constant (.str x) j pos) (eC (.str x)) := ze_c pe_str fun _ _ _ => RDst x
theorem ze_glob {x : Str} {u : Value} {v : V} {d : D} (hm : X.mg x = some u) (r : RelV v u) (r2 : ∀ m B H, RD X.K m B H d v) (hg : Gl X x := by rfl) (hd : (x == ("__debug__" : Str)) = false := by decide) : ZE X (.Name x pos) (eC d) := ze_c (pe_glob hg hm r hd) r2
end

/-! ### one part, two parts -/
def e1 (f : D → Sto → R D) (a : DE) : DE := fun ρ S => (a ρ S).bind f
def e2 (f : D → D → Sto → R D) (a b : DE) : DE := fun ρ S => (a ρ S).bind fun x S1 => (b ρ S1).bind fun y S2 => f x y S2
def OkOp (K : PySem.W.Frag) (r : R2) (f : D → D → Sto → R D) : Prop := ∀ m B H S d e x y (W : Value → Option Addr → Hp → Prop) (Q : VK), RS K m B H S → RD K m B H d x → RD K m B H e y → Post K m B H W (fun d _ m' H' => ∀ v, RD K m' B H' d v → Q v H') (f d e S) → r x y H Q
def OkUn (K : PySem.W.Frag) (r : V → Hp → VK → Prop) (f : D → Sto → R D) : Prop := ∀ m B H S d x (W : Value → Option Addr → Hp → Prop) (Q : VK), RS K m B H S → RD K m B H d x → Post K m B H W (fun d _ m' H' => ∀ v, RD K m' B H' d v → Q v H') (f d S) → r x H Q
section
variable {X : Cx} {pos : Pos} {a b : Expr} {da db : DE}
theorem te_op {K : PySem.W.Frag} {W : WX} {r : R2} {f : D → D → Sto → R D} (h : OkOp K r f) (σ : L2.St) (H : Hp) (Q : VK) : tE W K (e2 f da db) σ H Q → tOp r (tE W K da) (tE W K db) σ H Q := fun ⟨m, B, ρ, S, rs, e, p⟩ =>
  tE.take (f := fun x S1 => (db ρ S1).bind fun y S2 => f x y S2) rs e p fun d S1 m1 H1 v g1 r1 e1 rd p1 => tE.take (f := fun y S2 => f d y S2) r1 e1 p1 fun d' S2 m2 H2 v' g2 r2 e2 rd' p2 => h m2 B H2 S2 d d' v v' _ Q r2 (rd.mono g2.tr) rd' p2
theorem te_un {K : PySem.W.Frag} {W : WX} {r : V → Hp → VK → Prop} {f : D → Sto → R D} (h : OkUn K r f) (σ : L2.St) (H : Hp) (Q : VK) : tE W K (e1 f da) σ H Q → tUn r (tE W K da) σ H Q := fun ⟨m, B, ρ, S, rs, e, p⟩ =>
  tE.take (f := f) rs e p fun d S1 m1 H1 v g1 r1 e1 rd p1 => h m1 B H1 S1 d v _ Q r1 rd p1
theorem ze_op {op : Operator} {r : R2} {f : D → D → Sto → R D} (ho : OpR X (binaryOp op) r) (h : OkOp X.K r f) (ha : ZE X a da) (hb : ZE X b db) : ZE X (.BinOp a op b pos) (e2 f da db) := fun W tk => pe_weak (pe_op ho (ha W tk) (hb W tk)) (te_op h)
theorem ze_cmp {op : CmpOp} {r : R2} {f : D → D → Sto → R D} (ho : OpR X (compareOp op) r) (h : OkOp X.K r f) (ha : ZE X a da) (hb : ZE X b db) (hm : behindInMarks op b = false) : ZE X (.Compare a [op] [b] pos) (e2 f da db) := fun W tk =>
  pe_weak (pe_cmpR ho (ha W tk) (hb W tk) hm) (te_op h)
theorem ze_un {op : UnaryOp} {r : V → Hp → VK → Prop} {f : D → Sto → R D} (ho : UnR X (unaryOp op) r) (h : OkUn X.K r f) (ha : ZE X a da) : ZE X (.UnaryOp op a pos) (e1 f da) := fun W tk => pe_weak (pe_un ho (ha W tk)) (te_un h)
theorem ze_ix {r : R2} {f : D → D → Sto → R D} (ho : IxR X r) (h : OkOp X.K r f) (ha : ZE X a da) (hb : ZE X b db) (hs : PlainIx b := by exact fun _ _ => rfl) : ZE X (.Subscript a b pos) (e2 f da db) := fun W tk => pe_weak (pe_ix ho (ha W tk) (hb W tk) hs) (te_op h)
end
/-! ints -/
def fI (g : Int → Int → D) (c : Int → Int → Bool) : D → D → Sto → R D
  | .int i, .int j, S => if c i j = true then .ok (g i j) S else .bad
  | _, _, _ => .bad
theorem okI {K : PySem.W.Frag} {C : Int → Int → Prop} {g : Int → Int → V} {gd : Int → Int → D} {c : Int → Int → Bool} (hc : ∀ i j, c i j = true → C i j) (hg : ∀ m B H i j, RD K m B H (gd i j) (g i j)) : OkOp K (rI C g) (fI gd c) := by
  intro m B H S d e x y W Q rs rd re p
  cases d <;> try exact p.elim
  rename_i i
  cases e <;> try exact p.elim
  rename_i j
  unfold RD at rd re
  subst rd re
  have p : Post K m B H W _ (if c i j = true then .ok (gd i j) S else .bad) := p
  by_cases h : c i j = true
  · rw [if_pos h] at p
    exact ⟨i, j, rfl, rfl, hc i j h, p.now rs _ (hg m B H i j)⟩
  · rw [if_neg h] at p
    exact p.elim
def fI0 (g : Int → Int → D) : D → D → Sto → R D
  | .int i, .int j, S => .ok (g i j) S
  | _, _, _ => .bad
theorem okI0 {K : PySem.W.Frag} {g : Int → Int → V} {gd : Int → Int → D} (hg : ∀ m B H i j, RD K m B H (gd i j) (g i j)) : OkOp K (rI0 g) (fI0 gd) := by
  intro m B H S d e x y W Q rs rd re p
  cases d <;> try exact p.elim
  rename_i i
  cases e <;> try exact p.elim
  rename_i j
  unfold RD at rd re
  subst rd re
  exact ⟨i, j, rfl, rfl, p.now rs _ (hg m B H i j)⟩
section
variable {X : Cx} {pos : Pos} {a b : Expr} {da db : DE}
def fAdd := fI0 fun i j => .int (i + j)
def fSub := fI0 fun i j => .int (i - j)
def fLt := fI0 fun i j => .bl (decide (i < j))
def fLe := fI0 fun i j => .bl (decide (i ≤ j))
def fGt := fI0 fun i j => .bl (decide (j < i))
def fGe := fI0 fun i j => .bl (decide (j ≤ i))
/-- the remainder by what is above nought -/
def fMod := fI (fun i j => .int (i % j)) fun _ j => decide (0 < j)
theorem ze_add (ha : ZE X a da) (hb : ZE X b db) : ZE X (.BinOp a .Add b pos) (e2 fAdd da db) := ze_op op_add (okI0 fun _ _ _ _ _ => RDi _) ha hb
theorem ze_sub (ha : ZE X a da) (hb : ZE X b db) : ZE X (.BinOp a .Sub b pos) (e2 fSub da db) := ze_op op_sub (okI0 fun _ _ _ _ _ => RDi _) ha hb
theorem ze_mod (ha : ZE X a da) (hb : ZE X b db) : ZE X (.BinOp a .Mod b pos) (e2 fMod da db) := ze_op op_mod (okI (fun _ _ h => of_decide_eq_true h) fun _ _ _ _ _ => RDi _) ha hb
theorem ze_lt (ha : ZE X a da) (hb : ZE X b db) : ZE X (.Compare a [.Lt] [b] pos) (e2 fLt da db) := ze_cmp op_lt (okI0 fun _ _ _ _ _ => RDb _) ha hb (nomark _)
theorem ze_le (ha : ZE X a da) (hb : ZE X b db) : ZE X (.Compare a [.LtE] [b] pos) (e2 fLe da db) := ze_cmp op_le (okI0 fun _ _ _ _ _ => RDb _) ha hb (nomark _)
theorem ze_gt (ha : ZE X a da) (hb : ZE X b db) : ZE X (.Compare a [.Gt] [b] pos) (e2 fGt da db) := ze_cmp op_gt (okI0 fun _ _ _ _ _ => RDb _) ha hb (nomark _)
theorem ze_ge (ha : ZE X a da) (hb : ZE X b db) : ZE X (.Compare a [.GtE] [b] pos) (e2 fGe da db) := ze_cmp op_ge (okI0 fun _ _ _ _ _ => RDb _) ha hb (nomark _)
end
end Z
namespace Z
open PySem L2

/-! ### plain data for == -/
mutual
def toP (S : Sto) : D → Option PyData
  | .non => some .none
  | .bl b => some (.bool b)
  | .int i => some (.int i)
  | .str s => some (.str s)
  | .tup ds => (toPs S ds).map .tuple
  | .lst ds => (toPs S ds).map .list
  | .scr ds => (toPs S ds).map .list
  | .ref n => match S[n]? with
    | some (.lst ds) => (flatPs ds).map .list
    | _ => none
  | _ => none
def toPs (S : Sto) : List D → Option (List PyData)
  | [] => some []
  | d :: ds => (toP S d).bind fun p => (toPs S ds).map fun ps => p :: ps
/-- one level of a list of the store: what is in it holds nothing of the store -/
def flatP : D → Option PyData
  | .non => some .none
  | .bl b => some (.bool b)
  | .int i => some (.int i)
  | .str s => some (.str s)
  | .tup ds => (flatPs ds).map .tuple
  | .lst ds => (flatPs ds).map .list
  | .scr ds => (flatPs ds).map .list
  | _ => none
def flatPs : List D → Option (List PyData)
  | [] => some []
  | d :: ds => (flatP d).bind fun p => (flatPs ds).map fun ps => p :: ps
end
section
variable {K : PySem.W.Frag} {m B : List Addr} {H : Hp} {S : Sto}
mutual
theorem flatP_ok : ∀ {d : D} {v : V} {p : PyData}, RD K m B H d v → flatP d = some p → Dp K H v p
  | .non, _, _, h, e => by unfold RD at h; simp only [flatP] at e; cases e; subst h; exact .non
  | .bl b, _, _, h, e => by unfold RD at h; simp only [flatP] at e; cases e; subst h; exact .bl b
  | .int b, _, _, h, e => by unfold RD at h; simp only [flatP] at e; cases e; subst h; exact .int b
  | .str b, _, _, h, e => by unfold RD at h; simp only [flatP] at e; cases e; subst h; exact .str b
  | .tup ds, _, _, h, e => by
    unfold RD at h
    obtain ⟨a, vs, rfl, f, r⟩ := h
    simp only [flatP, Option.map_eq_some_iff] at e
    obtain ⟨ps, e1, rfl⟩ := e
    exact .tup f.sq (flatPs_ok r e1)
  | .lst ds, _, _, h, e => by
    unfold RD at h
    obtain ⟨a, vs, rfl, f, r⟩ := h
    simp only [flatP, Option.map_eq_some_iff] at e
    obtain ⟨ps, e1, rfl⟩ := e
    exact .lst f.sq (flatPs_ok r e1)
  | .scr ds, _, _, h, e => by
    unfold RD at h
    obtain ⟨a, vs, rfl, f, r⟩ := h
    simp only [flatP, Option.map_eq_some_iff] at e
    obtain ⟨ps, e1, rfl⟩ := e
    exact .lst f.sq (flatPs_ok r e1)
  | .ref n, _, _, h, e => by simp only [flatP] at e; cases e
  | .adr n, _, _, h, e => by simp only [flatP] at e; cases e
  | .ty n, _, _, h, e => by simp only [flatP] at e; cases e
theorem flatPs_ok : ∀ {ds : List D} {vs : List V} {ps : List PyData}, RDs K m B H ds vs → flatPs ds = some ps → DpAll K H vs ps
  | [], _, _, h, e => by unfold RDs at h; simp only [flatPs] at e; cases e; subst h; exact .nil
  | d :: ds, _, _, h, e => by
    unfold RDs at h
    obtain ⟨x, r, rfl, h1, h2⟩ := h
    simp only [flatPs, Option.bind_eq_some_iff, Option.map_eq_some_iff] at e
    obtain ⟨p, e1, ps, e2, rfl⟩ := e
    exact .cons (flatP_ok h1 e1) (flatPs_ok h2 e2)
end
mutual
theorem toP_ok (rs : RS K m B H S) : ∀ {d : D} {v : V} {p : PyData}, RD K m B H d v → toP S d = some p → Dp K H v p
  | .non, _, _, h, e => by unfold RD at h; simp only [toP] at e; cases e; subst h; exact .non
  | .bl b, _, _, h, e => by unfold RD at h; simp only [toP] at e; cases e; subst h; exact .bl b
  | .int b, _, _, h, e => by unfold RD at h; simp only [toP] at e; cases e; subst h; exact .int b
  | .str b, _, _, h, e => by unfold RD at h; simp only [toP] at e; cases e; subst h; exact .str b
  | .tup ds, _, _, h, e => by
    unfold RD at h
    obtain ⟨a, vs, rfl, f, r⟩ := h
    simp only [toP, Option.map_eq_some_iff] at e
    obtain ⟨ps, e1, rfl⟩ := e
    exact .tup f.sq (toPs_ok rs r e1)
  | .lst ds, _, _, h, e => by
    unfold RD at h
    obtain ⟨a, vs, rfl, f, r⟩ := h
    simp only [toP, Option.map_eq_some_iff] at e
    obtain ⟨ps, e1, rfl⟩ := e
    exact .lst f.sq (toPs_ok rs r e1)
  | .scr ds, _, _, h, e => by
    unfold RD at h
    obtain ⟨a, vs, rfl, f, r⟩ := h
    simp only [toP, Option.map_eq_some_iff] at e
    obtain ⟨ps, e1, rfl⟩ := e
    exact .lst f.sq (toPs_ok rs r e1)
  | .ref n, _, _, h, e => by
    unfold RD at h
    obtain ⟨a, rfl, q⟩ := h
    simp only [toP] at e
    split at e
    · rename_i ds hn
      simp only [Option.map_eq_some_iff] at e
      obtain ⟨ps, e1, rfl⟩ := e
      obtain ⟨vs, ea, rv⟩ := rs.ob n a _ q hn
      exact .lst (SqL.of ea) (flatPs_ok rv e1)
    · cases e
  | .adr n, _, _, h, e => by simp only [toP] at e; cases e
  | .ty n, _, _, h, e => by simp only [toP] at e; cases e
theorem toPs_ok (rs : RS K m B H S) : ∀ {ds : List D} {vs : List V} {ps : List PyData}, RDs K m B H ds vs → toPs S ds = some ps → DpAll K H vs ps
  | [], _, _, h, e => by unfold RDs at h; simp only [toPs] at e; cases e; subst h; exact .nil
  | d :: ds, _, _, h, e => by
    unfold RDs at h
    obtain ⟨x, r, rfl, h1, h2⟩ := h
    simp only [toPs, Option.bind_eq_some_iff, Option.map_eq_some_iff] at e
    obtain ⟨p, e1, ps, e2, rfl⟩ := e
    exact .cons (toP_ok rs h1 e1) (toPs_ok rs h2 e2)
end
end
def eqD (S : Sto) (d e : D) : Option Bool := match toP S d, toP S e with
  | some p, some q => if SeqAt.shaped p = true ∧ SeqAt.shaped q = true then some (PyData.eqv p q) else none
  | _, _ => none
def rB (o : Option Bool) (S : Sto) : R D := match o with
  | some b => .ok (.bl b) S
  | none => .bad
def fEq (d e : D) (S : Sto) : R D := rB (eqD S d e) S
def fNe (d e : D) (S : Sto) : R D := rB ((eqD S d e).map (!·)) S
theorem eqD_ok {K : PySem.W.Frag} {m B : List Addr} {H : Hp} {S : Sto} {d e : D} {x y : V} {b : Bool} (rs : RS K m B H S) (rd : RD K m B H d x) (re : RD K m B H e y) (h : eqD S d e = some b) :
    ∃ p q, Dp K H x p ∧ Dp K H y q ∧ SeqAt.shaped p = true ∧ SeqAt.shaped q = true ∧ b = PyData.eqv p q := by
  unfold eqD at h
  split at h
  · rename_i p q hp hq
    split at h
    · rename_i hs
      exact ⟨p, q, toP_ok rs rd hp, toP_ok rs re hq, hs.1, hs.2, (Option.some.inj h).symm⟩
    · cases h
  · cases h
theorem okEq {K : PySem.W.Frag} : OkOp K (rEqD K) fEq := by
  intro m B H S d e x y W Q rs rd re p
  unfold fEq rB at p
  split at p
  · rename_i b hb
    obtain ⟨p1, q1, h1, h2, h3, h4, rfl⟩ := eqD_ok rs rd re hb
    exact ⟨p1, q1, h1, h2, h3, h4, p.now rs _ (RDb _)⟩
  · exact p.elim
theorem okNe {K : PySem.W.Frag} : OkOp K (rNeD K) fNe := by
  intro m B H S d e x y W Q rs rd re p
  unfold fNe rB at p
  split at p
  · rename_i b hb
    simp only [Option.map_eq_some_iff] at hb
    obtain ⟨b', hb', rfl⟩ := hb
    obtain ⟨p1, q1, h1, h2, h3, h4, rfl⟩ := eqD_ok rs rd re hb'
    exact ⟨p1, q1, h1, h2, h3, h4, p.now rs _ (RDb _)⟩
  · exact p.elim
/-- x in a list (or what is written as one) -/
def fIn (d e : D) (S : Sto) : R D := match toP S d, toP S e with
  | some p, some (.list qs) => if SeqAt.shaped p = true ∧ SeqAt.shaped (.list qs) = true then .ok (.bl (qs.any fun z => PyData.eqv z p)) S else .bad
  | _, _ => .bad
def fNotIn (d e : D) (S : Sto) : R D := match toP S d, toP S e with
  | some p, some (.list qs) => if SeqAt.shaped p = true ∧ SeqAt.shaped (.list qs) = true then .ok (.bl (!qs.any fun z => PyData.eqv z p)) S else .bad
  | _, _ => .bad
theorem okIn {K : PySem.W.Frag} : OkOp K (rInD K) fIn := by
  intro m B H S d e x y W Q rs rd re p
  unfold fIn at p
  split at p
  · rename_i p1 qs h1 h2
    split at p
    · rename_i hs
      exact ⟨p1, qs, toP_ok rs rd h1, toP_ok rs re h2, hs.1, hs.2, p.now rs _ (RDb _)⟩
    · exact p.elim
  · exact p.elim
theorem okNotIn {K : PySem.W.Frag} : OkOp K (rNotInD K) fNotIn := by
  intro m B H S d e x y W Q rs rd re p
  unfold fNotIn at p
  split at p
  · rename_i p1 qs h1 h2
    split at p
    · rename_i hs
      exact ⟨p1, qs, toP_ok rs rd h1, toP_ok rs re h2, hs.1, hs.2, p.now rs _ (RDb _)⟩
    · exact p.elim
  · exact p.elim
def fIsN (d : D) (S : Sto) : R D := match d with
  | .non => .ok (.bl true) S
  | _ => .ok (.bl false) S
def fNotN (d : D) (S : Sto) : R D := match d with
  | .non => .ok (.bl false) S
  | _ => .ok (.bl true) S
theorem RD.isN {K : PySem.W.Frag} {m B : List Addr} {H : Hp} : ∀ {d : D} {v : V}, RD K m B H d v → decide (v = .non) = (match d with | .non => true | _ => false)
  | .non, _, h => by unfold RD at h; subst h; rfl
  | .bl _, _, h => by unfold RD at h; subst h; rfl
  | .int _, _, h => by unfold RD at h; subst h; rfl
  | .str _, _, h => by unfold RD at h; subst h; rfl
  | .ty _, _, h => by unfold RD at h; subst h; rfl
  | .adr _, _, h => by unfold RD at h; subst h; rfl
  | .tup _, _, h => by unfold RD at h; obtain ⟨a, vs, rfl, _⟩ := h; rfl
  | .lst _, _, h => by unfold RD at h; obtain ⟨a, vs, rfl, _⟩ := h; rfl
  | .scr _, _, h => by unfold RD at h; obtain ⟨a, vs, rfl, _⟩ := h; rfl
  | .ref _, _, h => by unfold RD at h; obtain ⟨a, rfl, _⟩ := h; rfl
/-- is of two truth values -/
def fIsB : D → D → Sto → R D
  | .bl a, .bl b, S => .ok (.bl (decide (a = b))) S
  | _, _, _ => .bad
theorem okIsB {K : PySem.W.Frag} : OkOp K rIsB fIsB := by
  intro m B H S d e x y W Q rs rd re p
  cases d <;> try exact p.elim
  rename_i i
  cases e <;> try exact p.elim
  rename_i j
  unfold RD at rd re
  subst rd re
  exact ⟨i, j, rfl, rfl, p.now rs _ (RDb _)⟩
section
variable {X : Cx} {pos : Pos} {a b : Expr} {da db : DE}
theorem ze_eq (hu : X.A.units + 64 < cLine) (ha : ZE X a da) (hb : ZE X b db) : ZE X (.Compare a [.Eq] [b] pos) (e2 fEq da db) := ze_cmp (op_eqD hu) okEq ha hb (nomark _)
theorem ze_ne (hu : X.A.units + 64 < cLine) (ha : ZE X a da) (hb : ZE X b db) : ZE X (.Compare a [.NotEq] [b] pos) (e2 fNe da db) := ze_cmp (op_neD hu) okNe ha hb (nomark _)
theorem ze_in (hu : X.A.units + 65 < cLine) (ha : ZE X a da) (hb : ZE X b db) (hm : behindInMarks .In b = false := by rfl) : ZE X (.Compare a [.In] [b] pos) (e2 fIn da db) := ze_cmp (op_inD hu) okIn ha hb hm
theorem ze_notin (hu : X.A.units + 65 < cLine) (ha : ZE X a da) (hb : ZE X b db) (hm : behindInMarks .NotIn b = false := by rfl) : ZE X (.Compare a [.NotIn] [b] pos) (e2 fNotIn da db) := ze_cmp (op_notInD hu) okNotIn ha hb hm
theorem ze_isN {j : Nat} {p2 : Pos} (ha : ZE X a da) : ZE X (.Compare a [.Is] [.Constant .none j p2] pos) (e1 fIsN da) := fun W tk => pe_weak (pe_cmp (pc_isN (ha W tk)) rfl) fun σ H Q ⟨m, B, ρ, S, rs, e, p⟩ =>
  tE.take (f := fIsN) rs e p fun d S1 m1 H1 v g1 r1 e1 rd p1 => by
    rw [rd.isN]
    cases d <;> exact p1.now r1 _ (RDb _)
theorem ze_notN {j : Nat} {p2 : Pos} (ha : ZE X a da) : ZE X (.Compare a [.IsNot] [.Constant .none j p2] pos) (e1 fNotN da) := fun W tk => pe_weak (pe_cmp (pc_notN (ha W tk)) rfl) fun σ H Q ⟨m, B, ρ, S, rs, e, p⟩ =>
  tE.take (f := fNotN) rs e p fun d S1 m1 H1 v g1 r1 e1 rd p1 => by
    rw [rd.isN]
    cases d <;> exact p1.now r1 _ (RDb _)
theorem ze_isB (ha : ZE X a da) (hb : ZE X b db) : ZE X (.Compare a [.Is] [b] pos) (e2 fIsB da db) := ze_cmp op_isBl okIsB ha hb (nomark _)
end

/-! ### truth -/
def tru (S : Sto) : D → Option Bool
  | .non => some false
  | .bl b => some b
  | .int i => some (i != 0)
  | .str s => if s.length ≤ 16777216 then some (s.length != 0) else none
  | .tup ds => some (!ds.isEmpty)
  | .lst ds => some (!ds.isEmpty)
  | .scr ds => some (!ds.isEmpty)
  | .ref n => match S[n]? with
    | some (.lst ds) => some (!ds.isEmpty)
    | _ => none
  | _ => none
theorem RDs.emp {K : PySem.W.Frag} {m B : List Addr} {H : Hp} {ds : List D} {vs : List V} (h : RDs K m B H ds vs) : ds.isEmpty = vs.isEmpty := by
  cases ds with
  | nil => unfold RDs at h; subst h; rfl
  | cons d ds => unfold RDs at h; obtain ⟨x, r, rfl, _⟩ := h; rfl
theorem tru_is {K : PySem.W.Frag} {m B : List Addr} {H : Hp} {S : Sto} (rs : RS K m B H S) : ∀ {d : D} {v : V} {b : Bool}, RD K m B H d v → tru S d = some b → TruV K v H b
  | .non, _, _, h, e => by unfold RD at h; subst h; simp only [tru] at e; cases e; rfl
  | .bl _, _, _, h, e => by unfold RD at h; subst h; simp only [tru] at e; cases e; rfl
  | .int _, _, _, h, e => by unfold RD at h; subst h; simp only [tru] at e; cases e; rfl
  | .str s, _, _, h, e => by
    unfold RD at h
    subst h
    simp only [tru] at e
    split at e
    · rename_i hz
      cases e
      refine ⟨by rw [sizeLine_eq]; exact hz, ?_⟩
      cases hl : s.length with
      | zero => rfl
      | succ n =>
        have h1 : ((n + 1 : Nat) != 0) = true := by simp
        have h2 : (((n + 1 : Nat) : Int) != 0) = true := by
          rw [bne_iff_ne]
          omega
        rw [h1, h2]
    · cases e
  | .tup ds, _, _, h, e => by unfold RD at h; obtain ⟨a, vs, rfl, f, r⟩ := h; simp only [tru] at e; cases e; exact .inr (.inl ⟨vs, f.sq, by rw [r.emp]⟩)
  | .lst ds, _, _, h, e => by unfold RD at h; obtain ⟨a, vs, rfl, f, r⟩ := h; simp only [tru] at e; cases e; exact .inl ⟨vs, f.sq, by rw [r.emp]⟩
  | .scr ds, _, _, h, e => by unfold RD at h; obtain ⟨a, vs, rfl, f, r⟩ := h; simp only [tru] at e; cases e; exact .inl ⟨vs, f.sq, by rw [r.emp]⟩
  | .ref n, _, _, h, e => by
    unfold RD at h
    obtain ⟨a, rfl, q⟩ := h
    simp only [tru] at e
    split at e
    · rename_i ds hn
      cases e
      obtain ⟨vs, ea, rv⟩ := rs.ob n a _ q hn
      exact .inl ⟨vs, SqL.of ea, by rw [rv.emp]⟩
    · cases e
  | .adr _, _, _, _, e => by simp only [tru] at e; cases e
  | .ty _, _, _, _, e => by simp only [tru] at e; cases e
/-- the test by the value -/
def tV (a : DE) : DT := fun ρ S => (a ρ S).bind fun d S1 => match tru S1 d with
  | some b => .ok b S1
  | none => .bad
def tNot (t : DT) : DT := fun ρ S => (t ρ S).bind fun b S1 => .ok (!b) S1
def tAnd (t u : DT) : DT := fun ρ S => (t ρ S).bind fun b S1 => if b = true then u ρ S1 else .ok false S1
def tOr (t u : DT) : DT := fun ρ S => (t ρ S).bind fun b S1 => if b = true then .ok true S1 else u ρ S1
def eAnd (a b : DE) : DE := fun ρ S => (a ρ S).bind fun d S1 => match tru S1 d with
  | some k => if k = true then b ρ S1 else .ok d S1
  | none => .bad
def eOr (a b : DE) : DE := fun ρ S => (a ρ S).bind fun d S1 => match tru S1 d with
  | some k => if k = true then .ok d S1 else b ρ S1
  | none => .bad
def eNot (a : DE) : DE := fun ρ S => (a ρ S).bind fun d S1 => match tru S1 d with
  | some k => .ok (.bl (!k)) S1
  | none => .bad
def eIf (t : DT) (a b : DE) : DE := fun ρ S => (t ρ S).bind fun k S1 => if k = true then a ρ S1 else b ρ S1
section
variable {X : Cx} {pos : Pos} {a b c : Expr} {rest : List Expr} {da db : DE} {ta tb : DT}
theorem tTe.take {β : Type} {W : WX} {K : PySem.W.Frag} {dt : DT} {f : Bool → Sto → R β} {σ : L2.St} {H : Hp} {Q' : Bool → Hp → Prop} {m B : List Addr} {ρ : Env} {S : Sto} {P : β → Sto → List Addr → Hp → Prop} (r : RS K m B H S) (e : REs K m B H ρ σ)
    (h : Post K m B H (fun c x H' => W c x σ H') P ((dt ρ S).bind f))
    (k : ∀ b S1 m1 H1, Ge m H m1 H1 → RS K m1 B H1 S1 → REs K m1 B H1 ρ σ → Post K m1 B H1 (fun c x H' => W c x σ H') P (f b S1) → Q' b H1) : tTe W K dt σ H Q' :=
  ⟨m, B, ρ, S, r, e, (Post.bind h).imp fun d S1 m1 H1 g1 r1 p => k d S1 m1 H1 g1 r1 (e.mono g1.tr) p⟩
theorem tE.takeA {β : Type} {W : WX} {K : PySem.W.Frag} {da : DE} {f : D → Sto → R β} {σ : L2.St} {H : Hp} {Q' : VK} {m B : List Addr} {ρ : Env} {S : Sto} {P : β → Sto → List Addr → Hp → Prop} (r : RS K m B H S) (e : REs K m B H ρ σ)
    (h : Post K m B H (fun c x H' => W c x σ H') P ((da ρ S).bind f))
    (k : ∀ d S1 m1 H1 v, Ge m H m1 H1 → RS K m1 B H1 S1 → REs K m1 B H1 ρ σ → RD K m1 B H1 d v → Post K m1 B H1 (fun c x H' => W c x σ H') P (f d S1) → Q' v H1) : tE W K da σ H Q' :=
  ⟨m, B, ρ, S, r, e, (Post.bind h).imp fun d S1 m1 H1 g1 r1 p v rv => k d S1 m1 H1 v g1 r1 (e.mono g1.tr) rv p⟩
theorem zt_val (ha : ZE X a da) (he : ∀ whole, isTrue a X.env whole = (do let v ← whole; standAt a.pos; holding [v] (truthy v)) := by intro _; rfl) : ZT X a (tV da) := fun W tk => pt_weak (pt_truth (ha W tk) he) fun σ H Q ⟨m, B, ρ, S, rs, e, p⟩ =>
  tE.takeA rs e p fun d S1 m1 H1 v g1 r1 e1 rd p1 => by
    cases h : tru S1 d with
    | none => simp only [h] at p1; exact p1.elim
    | some b => simp only [h] at p1; exact ⟨b, tru_is r1 rd h, p1.now r1⟩
theorem zt_not (ha : ZT X a ta) : ZT X (.UnaryOp .Not a pos) (tNot ta) := fun W tk => pt_weak (pt_not (ha W tk)) fun σ H Q ⟨m, B, ρ, S, rs, e, p⟩ => tTe.take rs e p fun b S1 m1 H1 g1 r1 e1 p1 => p1.now r1
theorem zw_and1 (ha : ZT X a ta) : ZW X (.BoolOp .And [a] pos) ta := fun W tk => pw_and1 (ha W tk)
theorem zw_or1 (ha : ZT X a ta) : ZW X (.BoolOp .Or [a] pos) ta := fun W tk => pw_or1 (ha W tk)
theorem zw_and (ha : ZT X a ta) (hb : ZW X (.BoolOp .And (b :: rest) pos) tb) : ZW X (.BoolOp .And (a :: b :: rest) pos) (tAnd ta tb) := fun W tk => pw_weak (pw_and (ha W tk) (hb W tk)) fun σ H Q ⟨m, B, ρ, S, rs, e, p⟩ => tTe.take rs e p fun b S1 m1 H1 g1 r1 e1 p1 => by
  cases b with
  | true => exact ⟨m1, B, ρ, S1, r1, e1, p1⟩
  | false => exact p1.now r1
theorem zw_or (ha : ZT X a ta) (hb : ZW X (.BoolOp .Or (b :: rest) pos) tb) : ZW X (.BoolOp .Or (a :: b :: rest) pos) (tOr ta tb) := fun W tk => pw_weak (pw_or (ha W tk) (hb W tk)) fun σ H Q ⟨m, B, ρ, S, rs, e, p⟩ => tTe.take rs e p fun b S1 m1 H1 g1 r1 e1 p1 => by
  cases b with
  | true => exact p1.now r1
  | false => exact ⟨m1, B, ρ, S1, r1, e1, p1⟩
theorem zt_w {e : Expr} (h : ZW X e ta) : ZT X e ta := fun W tk => (h W tk).pt
theorem ze_one {op : BoolOp} (ha : ZE X a da) : ZE X (.BoolOp op [a] pos) da := fun W tk => pe_one (ha W tk)
theorem ze_and (ha : ZE X a da) (hb : ZE X (.BoolOp .And (b :: rest) pos) db) : ZE X (.BoolOp .And (a :: b :: rest) pos) (eAnd da db) := fun W tk => pe_weak (pe_andT (ha W tk) (hb W tk)) fun σ H Q ⟨m, B, ρ, S, rs, e, p⟩ =>
  tE.takeA rs e p fun d S1 m1 H1 v g1 r1 e1 rd p1 => by
    cases h : tru S1 d with
    | none => simp only [h] at p1; exact p1.elim
    | some b =>
      simp only [h] at p1
      refine ⟨b, tru_is r1 rd h, ?_⟩
      cases b with
      | true => exact ⟨m1, B, ρ, S1, r1, e1, p1⟩
      | false => exact p1.now r1 v rd
theorem ze_or (ha : ZE X a da) (hb : ZE X (.BoolOp .Or (b :: rest) pos) db) : ZE X (.BoolOp .Or (a :: b :: rest) pos) (eOr da db) := fun W tk => pe_weak (pe_orT (ha W tk) (hb W tk)) fun σ H Q ⟨m, B, ρ, S, rs, e, p⟩ =>
  tE.takeA rs e p fun d S1 m1 H1 v g1 r1 e1 rd p1 => by
    cases h : tru S1 d with
    | none => simp only [h] at p1; exact p1.elim
    | some b =>
      simp only [h] at p1
      refine ⟨b, tru_is r1 rd h, ?_⟩
      cases b with
      | true => exact p1.now r1 v rd
      | false => exact ⟨m1, B, ρ, S1, r1, e1, p1⟩
theorem ze_not (ha : ZE X a da) : ZE X (.UnaryOp .Not a pos) (eNot da) := fun W tk => pe_weak (pe_notT (ha W tk)) fun σ H Q ⟨m, B, ρ, S, rs, e, p⟩ =>
  tE.takeA rs e p fun d S1 m1 H1 v g1 r1 e1 rd p1 => by
    cases h : tru S1 d with
    | none => simp only [h] at p1; exact p1.elim
    | some b => simp only [h] at p1; exact ⟨b, tru_is r1 rd h, p1.now r1 _ (RDb _)⟩
theorem ze_ifx (hc : ZT X c ta) (ha : ZE X a da) (hb : ZE X b db) : ZE X (.IfExp c a b pos) (eIf ta da db) := fun W tk => pe_weak (pe_ifExp (hc W tk) (ha W tk) (hb W tk)) fun σ H Q ⟨m, B, ρ, S, rs, e, p⟩ => tTe.take rs e p fun b S1 m1 H1 g1 r1 e1 p1 => by
  cases b with
  | true => exact ⟨m1, B, ρ, S1, r1, e1, p1⟩
  | false => exact ⟨m1, B, ρ, S1, r1, e1, p1⟩
end
end Z
namespace Z
open PySem L2

/-! ### argument lists, displays -/
def aN : DA := fun _ S => .ok [] S
def aC (a : DE) (r : DA) : DA := fun ρ S => (a ρ S).bind fun d S1 => (r ρ S1).bind fun ds S2 => .ok (d :: ds) S2
def eTup (r : DA) : DE := fun ρ S => (r ρ S).bind fun ds S1 => .ok (.tup ds) S1
/-- how many there are is known -/
def LenA (n : Nat) (r : DA) : Prop := ∀ ρ S, match r ρ S with
  | .ok ds _ => ds.length = n
  | _ => True
/-- what is wanted of a new list: it is not yet in the store, and nothing else holds it -/
def PostL (K : PySem.W.Frag) (m B : List Addr) (H : Hp) (W : Value → Option Addr → Hp → Prop) (Q : VK) : R (List D) → Prop
  | .ok ds S' => ∀ m' H' p vs, Ge m H m' H' → RS K m' (p :: B) H' S' → p ∉ B → Nw H p → H' p = some (.lst vs) → RDs K m' (p :: B) H' ds vs → Q (.ref p) H'
  | .exc c d S' => ∀ m' H' x v, Ge m H m' H' → RS K m' B H' S' → H' x = some (.xd [("at", v)]) → RD K m' B H' d v → W (.ref c) (some x) H'
  | .bad => False
/-- an expression that makes a new list -/
def tL (W : WX) (K : PySem.W.Frag) (den : DA) : TE := fun σ H Q => ∃ m B ρ S, RS K m B H S ∧ REs K m B H ρ σ ∧ PostL K m B H (fun c x H' => W c x σ H') Q (den ρ S)
def ZL (X : Cx) (e : Expr) (den : DA) : Prop := ∀ W, Takes X W → PE X e (tL W X.K den)
/-- .. as a value that nobody changes -/
def eLV (r : DA) : DE := fun ρ S => (r ρ S).bind fun ds S1 => .ok (.lst ds) S1
/-- .. put into the store -/
def eLN (r : DA) : DE := fun ρ S => (r ρ S).bind fun ds S1 => .ok (.ref S1.length) (S1 ++ [.lst ds])
section
variable {X : Cx} {pos : Pos} {a b c : Expr} {es : List Expr} {da db : DE} {r : DA}
theorem tAr.take {β : Type} {W : WX} {K : PySem.W.Frag} {da : DA} {f : List D → Sto → R β} {σ : L2.St} {H : Hp} {Q' : List V → Hp → Prop} {m B : List Addr} {ρ : Env} {S : Sto} {P : β → Sto → List Addr → Hp → Prop} (r : RS K m B H S) (e : REs K m B H ρ σ)
    (h : Post K m B H (fun c x H' => W c x σ H') P ((da ρ S).bind f))
    (k : ∀ d S1 m1 H1 v, Ge m H m1 H1 → RS K m1 B H1 S1 → REs K m1 B H1 ρ σ → RDs K m1 B H1 d v → Post K m1 B H1 (fun c x H' => W c x σ H') P (f d S1) → Q' v H1) : tAr W K da σ H Q' :=
  ⟨m, B, ρ, S, r, e, (Post.bind h).imp fun d S1 m1 H1 g1 r1 p v rv => k d S1 m1 H1 v g1 r1 (e.mono g1.tr) rv p⟩
theorem za_nil : ZA X [] aN := fun W tk => pa_weak pa_nil fun σ H Q ⟨m, B, ρ, S, rs, e, p⟩ => p.now rs [] RDs.nil
theorem za_cons (ha : ZE X a da) (hr : ZA X es r) (hs : starEach (a :: es) X.env = (false, eval a X.env) :: starEach es X.env := by rfl) : ZA X (a :: es) (aC da r) := fun W tk => pa_weak (pa_cons (ha W tk) (hr W tk) hs) fun σ H Q ⟨m, B, ρ, S, rs, e, p⟩ =>
  tE.takeA rs e p fun d S1 m1 H1 v g1 r1 e1 rd p1 => tAr.take r1 e1 p1 fun ds S2 m2 H2 vs g2 r2 e2 rds p2 => p2.now r2 (v :: vs) (RDs.cons (rd.mono g2.tr) rds)
theorem lenA_nil : LenA 0 aN := fun _ _ => rfl
theorem lenA_cons {n : Nat} (h : LenA n r) : LenA (n + 1) (aC da r) := fun ρ S => by
  unfold aC
  cases da ρ S with
  | ok d S1 =>
    simp only [R.bind_ok]
    have := h ρ S1
    cases hr : r ρ S1 with
    | ok ds S2 =>
      rw [hr] at this
      simp only [R.bind_ok, List.length_cons]
      omega
    | exc _ _ _ => trivial
    | bad => trivial
  | exc _ _ _ => trivial
  | bad => trivial
theorem ze_tup {n x1 : Nat} (h : ZA X es r) (hl : LenA n r) (hn : n ≤ 1000 := by decide) : ZE X (.Tuple es x1 pos) (eTup r) := fun W tk => pe_weak (pe_tup (h W tk)) fun σ H Q ⟨m, B, ρ, S, rs, e, p⟩ => by
  have hl := hl ρ S
  unfold eTup at p
  refine ⟨m, B, ρ, S, rs, e, ?_⟩
  cases hr : r ρ S with
  | ok ds S1 =>
    rw [hr] at p hl
    refine fun m1 H1 g1 r1 vs rv => ⟨?_, fun q hq => ?_⟩
    · rw [← rv.len, hl, sizeLine_eq]
      omega
    · obtain ⟨g2, r2⟩ := r1.new (u := .tup vs) hq
      refine (show Post X.K m B H _ _ (R.ok (D.tup ds) S1) from p) m1 _ (g1.trans g2) r2 _ ?_
      unfold RD
      exact ⟨q, vs, rfl, .inl ⟨r1.notin hq, r1.notB hq, .inl upd_same⟩, RDs.mono g2.tr _ _ rv⟩
  | exc c d S1 => rw [hr] at p; exact p
  | bad => rw [hr] at p; exact p
theorem Ge.new_was {m m' : List Addr} {H H' : Hp} {p : Addr} (g : Ge m H m' H') (hm : p ∉ m') (h : H' p = none) : Nw H p := fun o hh nt => by
  have hn : p ∉ m := fun q => hm (by obtain ⟨⟨l, e⟩, _⟩ := g; rw [e]; exact List.mem_append_left _ q)
  have := (g.keep p o hn hh nt).2
  rw [h] at this
  cases this
theorem Ge.new_wasN {m m' : List Addr} {H H' : Hp} {p : Addr} (g : Ge m H m' H') (hm : p ∉ m') (h : Nw H' p) : Nw H p := fun o hh nt => by
  have hn : p ∉ m := fun q => hm (by obtain ⟨⟨l, e⟩, _⟩ := g; rw [e]; exact List.mem_append_left _ q)
  exact h o (g.keep p o hn hh nt).2 nt
theorem RS.out {K : PySem.W.Frag} {m m' B : List Addr} {H H' : Hp} {S : Sto} {p : Addr} (r : RS K m' (p :: B) H' S) (g : Ge m H m' H') : p ∉ m := fun z => r.dis p (by obtain ⟨⟨l, e⟩, _⟩ := g; rw [e]; exact List.mem_append_left _ z) (List.mem_cons_self ..)
theorem zl_lst {n : Nat} (h : ZA X es r) (hl : LenA n r) (hn : n ≤ 1000 := by decide) : ZL X (.List es pos) r := fun W tk => pe_weak (pe_lst (h W tk)) fun σ H Q ⟨m, B, ρ, S, rs, e, p⟩ => by
  have hl := hl ρ S
  refine ⟨m, B, ρ, S, rs, e, ?_⟩
  cases hr : r ρ S with
  | ok ds S1 =>
    rw [hr] at p hl
    refine fun m1 H1 g1 r1 vs rv => ⟨?_, fun q hq => ?_⟩
    · rw [← rv.len, hl, sizeLine_eq]
      omega
    · exact p m1 _ q vs (g1.trans (r1.new hq).1) (r1.ban hq) (r1.notB hq) (g1.new_was (r1.notin hq) hq) upd_same (RDs.mono (Tr.ban hq) _ _ rv)
  | exc c d S1 => rw [hr] at p; exact p
  | bad => rw [hr] at p; exact p
theorem tl_lv {W : WX} {K : PySem.W.Frag} {σ : L2.St} {H : Hp} {Q : VK} (h : tE W K (eLV r) σ H Q) : tL W K r σ H Q := by
  obtain ⟨m, B, ρ, S, rs, e, p⟩ := h
  refine ⟨m, B, ρ, S, rs, e, ?_⟩
  unfold eLV at p
  cases hr : r ρ S with
  | ok ds S1 =>
    rw [hr] at p
    refine fun m1 H2 q vs g1 r2 hB h0 h2 rv => p m1 H2 g1 r2.free _ ?_
    unfold RD
    exact ⟨q, vs, rfl, ⟨fun hm => r2.dis q hm (List.mem_cons_self ..), hB, h2⟩, RDs.mono Tr.free _ _ rv⟩
  | exc c d S1 => rw [hr] at p; exact p
  | bad => rw [hr] at p; exact p
theorem tl_ln {W : WX} {K : PySem.W.Frag} {σ : L2.St} {H : Hp} {Q : VK} (h : tE W K (eLN r) σ H Q) : tL W K r σ H Q := by
  obtain ⟨m, B, ρ, S, rs, e, p⟩ := h
  refine ⟨m, B, ρ, S, rs, e, ?_⟩
  unfold eLN at p
  cases hr : r ρ S with
  | ok ds S1 =>
    rw [hr] at p
    refine fun m1 H2 q vs g1 r2 hB h0 h2 rv => p (m1 ++ [q]) H2 (g1.own h0) (r2.own hB ⟨vs, h2, RDs.mono Tr.own _ _ rv⟩) _ ?_
    unfold RD
    exact ⟨q, rfl, by rw [List.getElem?_append_right (by rw [r2.len]; exact Nat.le_refl _), r2.len]; simp⟩
  | exc c d S1 => rw [hr] at p; exact p
  | bad => rw [hr] at p; exact p
theorem ze_lv (h : ZL X a r) : ZE X a (eLV r) := fun W tk => pe_weak (h W tk) fun σ H Q p => tl_lv p
theorem ze_ln (h : ZL X a r) : ZE X a (eLN r) := fun W tk => pe_weak (h W tk) fun σ H Q p => tl_ln p
end

/-! ### an item by its place -/
def fIx (d e : D) (S : Sto) : R D := match d, e with
  | .tup ds, .int i => match atI ds i with
    | some x => .ok x S
    | none => .bad
  | .lst ds, .int i => match atI ds i with
    | some x => .ok x S
    | none => .bad
  | .scr ds, .int i => match atI ds i with
    | some x => .ok x S
    | none => .bad
  | .ref n, .int i => match S[n]? with
    | some (.lst ds) => match atI ds i with
      | some x => .ok x S
      | none => .bad
    | _ => .bad
  | .str s, .int i => if s.length ≤ 16777216 then match atI s.cps.toList i with
      | some c => .ok (.str ⟨#[c]⟩) S
      | none => .bad else .bad
  | _, _ => .bad
theorem RDs.atI {K : PySem.W.Frag} {m B : List Addr} {H : Hp} {ds : List D} {vs : List V} {i : Int} {d : D} (h : RDs K m B H ds vs) (e : L2.atI ds i = some d) : ∃ v, L2.atI vs i = some v ∧ RD K m B H d v := by
  unfold L2.atI at e ⊢
  rw [← h.len]
  cases hj : ixN ds.length i with
  | none => rw [hj] at e; cases e
  | some j =>
    rw [hj] at e
    exact h.get e
theorem okIx {K : PySem.W.Frag} : OkOp K (rIx K) fIx := by
  intro m B H S d e x y W Q rs rd re p
  cases e with
  | int i =>
    have hy : y = .int i := by unfold RD at re; exact re
    subst hy
    cases d with
    | tup ds =>
      unfold RD at rd
      obtain ⟨a, vs, rfl, f, r⟩ := rd
      simp only [fIx] at p
      cases h : atI ds i with
      | none => rw [h] at p; exact p.elim
      | some z =>
        rw [h] at p
        obtain ⟨v, hv, rv⟩ := r.atI h
        exact .inr (.inl ⟨a, vs, i, v, rfl, rfl, f.sq, hv, p.now rs v rv⟩)
    | lst ds =>
      unfold RD at rd
      obtain ⟨a, vs, rfl, f, r⟩ := rd
      simp only [fIx] at p
      cases h : atI ds i with
      | none => rw [h] at p; exact p.elim
      | some z =>
        rw [h] at p
        obtain ⟨v, hv, rv⟩ := r.atI h
        exact .inl ⟨a, vs, i, v, rfl, rfl, f.sq, hv, p.now rs v rv⟩
    | scr ds =>
      unfold RD at rd
      obtain ⟨a, vs, rfl, f, r⟩ := rd
      simp only [fIx] at p
      cases h : atI ds i with
      | none => rw [h] at p; exact p.elim
      | some z =>
        rw [h] at p
        obtain ⟨v, hv, rv⟩ := r.atI h
        exact .inl ⟨a, vs, i, v, rfl, rfl, f.sq, hv, p.now rs v rv⟩
    | ref n =>
      unfold RD at rd
      obtain ⟨a, rfl, q⟩ := rd
      simp only [fIx] at p
      split at p
      · rename_i ds hn
        obtain ⟨vs, ea, r⟩ := rs.ob n a _ q hn
        cases h : atI ds i with
        | none => rw [h] at p; exact p.elim
        | some z =>
          rw [h] at p
          obtain ⟨v, hv, rv⟩ := r.atI h
          exact .inl ⟨a, vs, i, v, rfl, rfl, SqL.of ea, hv, p.now rs v rv⟩
      · exact p.elim
    | str s =>
      unfold RD at rd
      subst rd
      simp only [fIx] at p
      split at p
      · rename_i hz
        cases h : atI s.cps.toList i with
        | none => rw [h] at p; exact p.elim
        | some z =>
          rw [h] at p
          exact .inr (.inr ⟨s, i, z, rfl, rfl, by rw [sizeLine_eq]; exact hz, h, p.now rs _ (RDst _)⟩)
      · exact p.elim
    | _ => exact p.elim
  | _ => cases d <;> exact p.elim
section
variable {X : Cx} {pos : Pos} {a b : Expr} {da db : DE}
theorem ze_sub_ix (ha : ZE X a da) (hb : ZE X b db) (hs : PlainIx b := by exact fun _ _ => rfl) : ZE X (.Subscript a b pos) (e2 fIx da db) := ze_ix ix_seq okIx ha hb hs
end

/-! ### built-ins, called -/
def eCall (f : List D → Sto → R D) (r : DA) : DE := fun ρ S => (r ρ S).bind f
def OkCall (K : PySem.W.Frag) (r : List V → Hp → VK → Prop) (f : List D → Sto → R D) : Prop := ∀ m B H S ds vs (W : Value → Option Addr → Hp → Prop) (Q : VK), RS K m B H S → RDs K m B H ds vs → Post K m B H W (fun d _ m' H' => ∀ v, RD K m' B H' d v → Q v H') (f ds S) → r vs H Q
section
variable {X : Cx} {pos p0 : Pos} {e : Expr} {es : List Expr} {x : Str} {r : List V → Hp → VK → Prop} {f : List D → Sto → R D} {t : DA}
theorem ze_callB {id : String} (hc : CallR X (.builtin id) r) (h : OkCall X.K r f) (hm : X.mg x = none) (ha : ZA X (e :: es) t) (hg : Gl X x := by rfl) (hv : bootBuiltins x = some (.builtin id) := by decide +kernel) (hn : x ≠ "__name__" := by decide) (hdb : (x == ("__debug__" : Str)) = false := by decide)
    (he : starEach (e :: es) X.env = (false, eval e X.env) :: starEach es X.env := by rfl) (hpl : (backTo pos (starEach es X.env)).any (·.1) = false := by rfl) : ZE X (.Call (.Name x p0) (e :: es) [] pos) (eCall f t) := fun W tk =>
  pe_weak (pe_callB hc hg hm hv (ha W tk) hn hdb he hpl) fun σ H Q ⟨m, B, ρ, S, rs, e, p⟩ => tAr.take rs e p fun ds S1 m1 H1 vs g1 r1 e1 rds p1 => h m1 B H1 S1 ds vs _ Q r1 rds p1
theorem ze_callTy {T : String} (hc : CallR X (.type T) r) (h : OkCall X.K r f) (hm : X.mg x = none) (ha : ZA X (e :: es) t) (hg : Gl X x := by rfl) (hv : bootBuiltins x = some (.type T) := by decide +kernel) (hn : x ≠ "__name__" := by decide) (hdb : (x == ("__debug__" : Str)) = false := by decide)
    (he : starEach (e :: es) X.env = (false, eval e X.env) :: starEach es X.env := by rfl) (hpl : (backTo pos (starEach es X.env)).any (·.1) = false := by rfl) : ZE X (.Call (.Name x p0) (e :: es) [] pos) (eCall f t) := fun W tk =>
  pe_weak (pe_callTy hc hg hm hv (ha W tk) hn hdb he hpl) fun σ H Q ⟨m, B, ρ, S, rs, e, p⟩ => tAr.take rs e p fun ds S1 m1 H1 vs g1 r1 e1 rds p1 => h m1 B H1 S1 ds vs _ Q r1 rds p1
end
theorem RDs.one {K : PySem.W.Frag} {m B : List Addr} {H : Hp} {d : D} {vs : List V} (h : RDs K m B H [d] vs) : ∃ v, vs = [v] ∧ RD K m B H d v := by
  unfold RDs at h
  obtain ⟨x, r, rfl, h1, h2⟩ := h
  unfold RDs at h2
  subst h2
  exact ⟨x, rfl, h1⟩
theorem RDs.two {K : PySem.W.Frag} {m B : List Addr} {H : Hp} {d e : D} {vs : List V} (h : RDs K m B H [d, e] vs) : ∃ v w, vs = [v, w] ∧ RD K m B H d v ∧ RD K m B H e w := by
  unfold RDs at h
  obtain ⟨x, r, rfl, h1, h2⟩ := h
  obtain ⟨w, rfl, h3⟩ := h2.one
  exact ⟨x, w, rfl, h1, h3⟩
/-- the items of a list or a tuple -/
def seqOf (S : Sto) : D → Option (List D)
  | .tup ds => some ds
  | .lst ds => some ds
  | .scr ds => some ds
  | .ref n => match S[n]? with
    | some (.lst ds) => some ds
    | _ => none
  | _ => none
theorem seqOf_ok {K : PySem.W.Frag} {m B : List Addr} {H : Hp} {S : Sto} (rs : RS K m B H S) : ∀ {d : D} {v : V} {ds : List D}, RD K m B H d v → seqOf S d = some ds → ∃ a vs, v = .ref a ∧ (SqL K H a vs ∨ SqT K H a vs) ∧ RDs K m B H ds vs
  | .tup ds, _, _, h, e => by unfold RD at h; obtain ⟨a, vs, rfl, f, r⟩ := h; simp only [seqOf] at e; cases e; exact ⟨a, vs, rfl, .inr f.sq, r⟩
  | .lst ds, _, _, h, e => by unfold RD at h; obtain ⟨a, vs, rfl, f, r⟩ := h; simp only [seqOf] at e; cases e; exact ⟨a, vs, rfl, .inl f.sq, r⟩
  | .scr ds, _, _, h, e => by unfold RD at h; obtain ⟨a, vs, rfl, f, r⟩ := h; simp only [seqOf] at e; cases e; exact ⟨a, vs, rfl, .inl f.sq, r⟩
  | .ref n, _, _, h, e => by
    unfold RD at h
    obtain ⟨a, rfl, q⟩ := h
    simp only [seqOf] at e
    split at e
    · rename_i ds hn
      cases e
      obtain ⟨vs, ea, rv⟩ := rs.ob n a _ q hn
      exact ⟨a, vs, rfl, .inl (SqL.of ea), rv⟩
    · cases e
  | .non, _, _, _, e => by simp only [seqOf] at e; cases e
  | .bl _, _, _, _, e => by simp only [seqOf] at e; cases e
  | .int _, _, _, _, e => by simp only [seqOf] at e; cases e
  | .str _, _, _, _, e => by simp only [seqOf] at e; cases e
  | .adr _, _, _, _, e => by simp only [seqOf] at e; cases e
  | .ty _, _, _, _, e => by simp only [seqOf] at e; cases e
/-- a list, by its items -/
def lstOf (S : Sto) : D → Option (List D)
  | .lst ds => some ds
  | .scr ds => some ds
  | .ref n => match S[n]? with
    | some (.lst ds) => some ds
    | _ => none
  | _ => none
theorem lstOf_ok {K : PySem.W.Frag} {m B : List Addr} {H : Hp} {S : Sto} (rs : RS K m B H S) : ∀ {d : D} {v : V} {ds : List D}, RD K m B H d v → lstOf S d = some ds → ∃ a vs, v = .ref a ∧ SqL K H a vs ∧ RDs K m B H ds vs
  | .lst ds, _, _, h, e => by unfold RD at h; obtain ⟨a, vs, rfl, f, r⟩ := h; simp only [lstOf] at e; cases e; exact ⟨a, vs, rfl, f.sq, r⟩
  | .scr ds, _, _, h, e => by unfold RD at h; obtain ⟨a, vs, rfl, f, r⟩ := h; simp only [lstOf] at e; cases e; exact ⟨a, vs, rfl, f.sq, r⟩
  | .ref n, _, _, h, e => by
    unfold RD at h
    obtain ⟨a, rfl, q⟩ := h
    simp only [lstOf] at e
    split at e
    · rename_i ds hn
      cases e
      obtain ⟨vs, ea, rv⟩ := rs.ob n a _ q hn
      exact ⟨a, vs, rfl, SqL.of ea, rv⟩
    · cases e
  | .tup _, _, _, _, e => by simp only [lstOf] at e; cases e
  | .non, _, _, _, e => by simp only [lstOf] at e; cases e
  | .bl _, _, _, _, e => by simp only [lstOf] at e; cases e
  | .int _, _, _, _, e => by simp only [lstOf] at e; cases e
  | .str _, _, _, _, e => by simp only [lstOf] at e; cases e
  | .adr _, _, _, _, e => by simp only [lstOf] at e; cases e
  | .ty _, _, _, _, e => by simp only [lstOf] at e; cases e
def fLen : List D → Sto → R D
  | [.str s], S => if s.length ≤ 16777216 then .ok (.int s.length) S else .bad
  | [d], S => match seqOf S d with
    | some ds => .ok (.int ds.length) S
    | none => .bad
  | _, _ => .bad
theorem okLen {K : PySem.W.Frag} : OkCall K (fun xs H Q => (∃ z, xs = [.str z] ∧ z.length ≤ sizeLine ∧ Q (.int z.length) H) ∨ ∃ p ys, xs = [.ref p] ∧ (SqL K H p ys ∨ SqT K H p ys) ∧ Q (.int ys.length) H) fLen := by
  intro m B H S ds vs W Q rs rds p
  match ds with
  | [] => exact p.elim
  | d :: e :: r => cases d <;> exact p.elim
  | [d] =>
    obtain ⟨v, rfl, rv⟩ := rds.one
    by_cases hs : ∃ s, d = .str s
    · obtain ⟨s, rfl⟩ := hs
      unfold RD at rv
      subst rv
      have p : Post K m B H W _ (if s.length ≤ 16777216 then R.ok (D.int s.length) S else .bad) := p
      by_cases hz : s.length ≤ 16777216
      · rw [if_pos hz] at p
        exact .inl ⟨s, rfl, by rw [sizeLine_eq]; exact hz, p.now rs _ (RDi _)⟩
      · rw [if_neg hz] at p
        exact p.elim
    · have p : Post K m B H W (fun d _ m' H' => ∀ v, RD K m' B H' d v → Q v H') (match seqOf S d with
        | some ds => R.ok (D.int ds.length) S
        | none => .bad) := by
        cases d <;> first | exact p | exact absurd ⟨_, rfl⟩ hs
      cases h : seqOf S d with
      | none => rw [h] at p; exact p.elim
      | some ds =>
        rw [h] at p
        obtain ⟨a, vs, rfl, sq, r⟩ := seqOf_ok rs rv h
        exact .inr ⟨a, vs, rfl, sq, by rw [← r.len]; exact p.now rs _ (RDi _)⟩
def fAbs : List D → Sto → R D
  | [.int i], S => .ok (.int (if i < 0 then -i else i)) S
  | _, _ => .bad
theorem okAbs {K : PySem.W.Frag} : OkCall K (fun xs H Q => ∃ i, xs = [.int i] ∧ Q (.int (if i < 0 then -i else i)) H) fAbs := by
  intro m B H S ds vs W Q rs rds p
  match ds with
  | [] => exact p.elim
  | d :: e :: r => cases d <;> exact p.elim
  | [d] =>
    obtain ⟨v, rfl, rv⟩ := rds.one
    cases d <;> try exact p.elim
    rename_i i
    unfold RD at rv
    subst rv
    exact ⟨i, rfl, p.now rs _ (RDi _)⟩
def fInt : List D → Sto → R D
  | [.int i], S => .ok (.int i) S
  | [.bl b], S => .ok (.int (if b then 1 else 0)) S
  | _, _ => .bad
theorem okInt {K : PySem.W.Frag} : OkCall K (fun xs H Q => (∃ i, xs = [.int i] ∧ Q (.int i) H) ∨ ∃ k, xs = [.bl k] ∧ Q (.int (if k then 1 else 0)) H) fInt := by
  intro m B H S ds vs W Q rs rds p
  match ds with
  | [] => exact p.elim
  | d :: e :: r => cases d <;> exact p.elim
  | [d] =>
    obtain ⟨v, rfl, rv⟩ := rds.one
    cases d <;> try exact p.elim
    · rename_i i
      unfold RD at rv
      subst rv
      exact .inr ⟨i, rfl, p.now rs _ (RDi _)⟩
    · rename_i i
      unfold RD at rv
      subst rv
      exact .inl ⟨i, rfl, p.now rs _ (RDi _)⟩
/-- tuple(..) of a list | of a tuple -/
def fTuple : List D → Sto → R D
  | [d], S => match seqOf S d with
    | some ds => .ok (.tup ds) S
    | none => .bad
  | _, _ => .bad
theorem okTuple {K : PySem.W.Frag} : OkCall K (fun xs H Q => ∃ p ys, xs = [.ref p] ∧ ((SqL K H p ys ∧ ∀ l, H l = none → Q (.ref l) (upd H l (.tup ys))) ∨ (SqT K H p ys ∧ Q (.ref p) H))) fTuple := by
  intro m B H S ds vs W Q rs rds p
  match ds with
  | [] => exact p.elim
  | d :: e :: r => exact p.elim
  | [d] =>
    obtain ⟨v, rfl, rv⟩ := rds.one
    have p : Post K m B H W _ (match seqOf S d with
        | some ds => R.ok (D.tup ds) S
        | none => .bad) := p
    have fin : ∀ {a : Addr} {ds : List D} {vs : List V}, SqL K H a vs → RDs K m B H ds vs → Post K m B H W (fun d _ m' H' => ∀ v, RD K m' B H' d v → Q v H') (.ok (.tup ds) S) → ∀ l, H l = none → Q (.ref l) (upd H l (.tup vs)) := fun {a ds vs} sq r p l hl => by
      obtain ⟨g2, r2⟩ := rs.new (u := .tup vs) hl
      refine p m _ g2 r2 _ ?_
      unfold RD
      exact ⟨l, vs, rfl, .inl ⟨rs.notin hl, rs.notB hl, .inl upd_same⟩, RDs.mono g2.tr _ _ r⟩
    cases d with
    | tup ds =>
      have rv' := rv
      unfold RD at rv
      obtain ⟨a, vs, rfl, f, r⟩ := rv
      exact ⟨a, vs, rfl, .inr ⟨f.sq, p.now rs _ rv'⟩⟩
    | lst ds =>
      unfold RD at rv
      obtain ⟨a, vs, rfl, f, r⟩ := rv
      exact ⟨a, vs, rfl, .inl ⟨f.sq, fin f.sq r p⟩⟩
    | scr ds =>
      unfold RD at rv
      obtain ⟨a, vs, rfl, f, r⟩ := rv
      exact ⟨a, vs, rfl, .inl ⟨f.sq, fin f.sq r p⟩⟩
    | ref n =>
      unfold RD at rv
      obtain ⟨a, rfl, q⟩ := rv
      simp only [seqOf] at p
      cases h : S[n]? with
      | none => rw [h] at p; exact p.elim
      | some o =>
        rw [h] at p
        cases o with
        | lst ds =>
          obtain ⟨vs, ea, r⟩ := rs.ob n a _ q h
          exact ⟨a, vs, rfl, .inl ⟨SqL.of ea, fin (SqL.of ea) r p⟩⟩
        | ins C fs => exact p.elim
        | dct kvs => exact p.elim
        | dcT kvs => exact p.elim
        | iset S n => exact p.elim
        | lck od vs kvs => exact p.elim
        | tab P q => exact p.elim
    | _ => exact p.elim
/-- all(..), any(..) of truth values -/
def bools : List D → Option (List Bool)
  | [] => some []
  | .bl b :: r => (bools r).map fun bs => b :: bs
  | _ :: _ => none
theorem bools_ok {K : PySem.W.Frag} {m B : List Addr} {H : Hp} : ∀ {ds : List D} {vs : List V} {bs : List Bool}, RDs K m B H ds vs → bools ds = some bs → vs = bs.map V.bl
  | [], _, _, h, e => by unfold RDs at h; simp only [bools] at e; cases e; exact h
  | d :: ds, _, _, h, e => by
    unfold RDs at h
    obtain ⟨x, r, rfl, h1, h2⟩ := h
    cases d with
    | bl b =>
      unfold RD at h1
      subst h1
      simp only [bools, Option.map_eq_some_iff] at e
      obtain ⟨bs, e1, rfl⟩ := e
      rw [bools_ok h2 e1]
      rfl
    | _ => simp only [bools] at e; cases e
def fAll : List D → Sto → R D
  | [d], S => match (lstOf S d).bind bools with
    | some bs => .ok (.bl (bs.all id)) S
    | none => .bad
  | _, _ => .bad
def fAny : List D → Sto → R D
  | [d], S => match (lstOf S d).bind bools with
    | some bs => .ok (.bl (bs.any id)) S
    | none => .bad
  | _, _ => .bad
theorem okAll {K : PySem.W.Frag} : OkCall K (rAll K) fAll := by
  intro m B H S ds vs W Q rs rds p
  match ds with
  | [] => exact p.elim
  | d :: e :: r => exact p.elim
  | [d] =>
    obtain ⟨v, rfl, rv⟩ := rds.one
    simp only [fAll] at p
    cases h : (lstOf S d).bind bools with
    | none => rw [h] at p; exact p.elim
    | some bs =>
      rw [h] at p
      obtain ⟨ds, h1, h2⟩ := Option.bind_eq_some_iff.mp h
      obtain ⟨a, vs, rfl, sq, r⟩ := lstOf_ok rs rv h1
      rw [bools_ok r h2] at sq
      exact ⟨a, bs, rfl, sq, p.now rs _ (RDb _)⟩
theorem okAny {K : PySem.W.Frag} : OkCall K (rAny K) fAny := by
  intro m B H S ds vs W Q rs rds p
  match ds with
  | [] => exact p.elim
  | d :: e :: r => exact p.elim
  | [d] =>
    obtain ⟨v, rfl, rv⟩ := rds.one
    simp only [fAny] at p
    cases h : (lstOf S d).bind bools with
    | none => rw [h] at p; exact p.elim
    | some bs =>
      rw [h] at p
      obtain ⟨ds, h1, h2⟩ := Option.bind_eq_some_iff.mp h
      obtain ⟨a, vs, rfl, sq, r⟩ := lstOf_ok rs rv h1
      rw [bools_ok r h2] at sq
      exact ⟨a, bs, rfl, sq, p.now rs _ (RDb _)⟩
section
variable {X : Cx} {pos p0 : Pos} {e : Expr} {t : DA}
theorem ze_len (hm : X.mg "len" = none) (ha : ZA X [e] t) (hg : Gl X "len" := by rfl) (he : starEach [e] X.env = (false, eval e X.env) :: starEach [] X.env := by rfl) : ZE X (.Call (.Name "len" p0) [e] [] pos) (eCall fLen t) := ze_callB (call_len_str.or call_len_seq) okLen hm ha hg (he := he)
theorem ze_abs (hm : X.mg "abs" = none) (ha : ZA X [e] t) (hg : Gl X "abs" := by rfl) (he : starEach [e] X.env = (false, eval e X.env) :: starEach [] X.env := by rfl) : ZE X (.Call (.Name "abs" p0) [e] [] pos) (eCall fAbs t) := ze_callB call_abs okAbs hm ha hg (he := he)
theorem ze_int1 (hm : X.mg "int" = none) (ha : ZA X [e] t) (hg : Gl X "int" := by rfl) (he : starEach [e] X.env = (false, eval e X.env) :: starEach [] X.env := by rfl) : ZE X (.Call (.Name "int" p0) [e] [] pos) (eCall fInt t) := ze_callTy call_int1 okInt hm ha hg (he := he)
theorem ze_tuple (hm : X.mg "tuple" = none) (ha : ZA X [e] t) (hg : Gl X "tuple" := by rfl) (he : starEach [e] X.env = (false, eval e X.env) :: starEach [] X.env := by rfl) : ZE X (.Call (.Name "tuple" p0) [e] [] pos) (eCall fTuple t) := ze_callTy call_tuple_of okTuple hm ha hg (he := he)
theorem ze_all (hc : X.calm = true) (hm : X.mg "all" = none) (ha : ZA X [e] t) (hg : Gl X "all" := by rfl) (he : starEach [e] X.env = (false, eval e X.env) :: starEach [] X.env := by rfl) : ZE X (.Call (.Name "all" p0) [e] [] pos) (eCall fAll t) := ze_callB (cr_all hc) okAll hm ha hg (he := he)
theorem ze_any (hc : X.calm = true) (hm : X.mg "any" = none) (ha : ZA X [e] t) (hg : Gl X "any" := by rfl) (he : starEach [e] X.env = (false, eval e X.env) :: starEach [] X.env := by rfl) : ZE X (.Call (.Name "any" p0) [e] [] pos) (eCall fAny t) := ze_callB (cr_any hc) okAny hm ha hg (he := he)
end
end Z
namespace Z
open PySem L2

/-! ### isinstance -/
def tNames : List String := ["NoneType", "bool", "int", "str", "tuple", "list", "dict", "set"]
/-- what the written part says of the own classes at cs -/
structure Kit (K : PySem.W.Frag) (cs : List Addr) : Prop where
  cl : ∀ c ∈ cs, Cls K c
  ca : ∀ c ∈ cs, PySem.W.findIn K (.ref c) "__class__" = some (some (.builtin "object.__class__"))
  cg : PySem.W.specialIn K (.builtin "object.__class__") "__get__" = some (some (.builtin "getset_descriptor.__get__"))
  ct : PySem.W.takesIn K (.builtin "object.__class__") = some true
  cm : ∀ c ∈ cs, PySem.W.mroIn K c (.type "object") = some true
  o2t : ∀ c ∈ cs, ∀ T ∈ tNames, PySem.W.kitOne K (.ref c) (.type T) = some false
  t2o : ∀ C ∈ cs, ∀ T ∈ tNames, PySem.W.kitOne K (.type T) (.ref C) = some false
  o2o : ∀ c ∈ cs, ∀ C ∈ cs, PySem.W.kitOne K (.ref c) (.ref C) = some (decide (c = C))
/-- a value's kind: a built-in type | an own class of those known -/
def tyD (cs : List Addr) (S : Sto) : D → Option (Sum String Addr)
  | .non => some (.inl "NoneType")
  | .bl _ => some (.inl "bool")
  | .int _ => some (.inl "int")
  | .str _ => some (.inl "str")
  | .tup _ => some (.inl "tuple")
  | .lst _ => some (.inl "list")
  | .scr _ => some (.inl "list")
  | .ref n => match S[n]? with
    | some (.lst _) => some (.inl "list")
    | some (.ins c _) => if c ∈ cs then some (.inr c) else none
    | some (.dct _) => some (.inl "dict")
    | some (.dcT _) => some (.inl "dict")
    | some (.iset _ _) => some (.inl "set")
    | _ => none
  | _ => none
def kV2 : Sum String Addr → Value
  | .inl T => .type T
  | .inr c => .ref c
theorem tyD_ok {K : PySem.W.Frag} {cs : List Addr} (kit : Kit K cs) {m B : List Addr} {H : Hp} {S : Sto} (rs : RS K m B H S) : ∀ {d : D} {v : V} {t : Sum String Addr}, RD K m B H d v → tyD cs S d = some t → TyX K H v (kV2 t) ∧ (match t with | .inl T => T ∈ tNames | .inr c => c ∈ cs)
  | .non, _, _, h, e => by unfold RD at h; subst h; simp only [tyD] at e; cases e; exact ⟨.base .non, (by decide : "NoneType" ∈ tNames)⟩
  | .bl _, _, _, h, e => by unfold RD at h; subst h; simp only [tyD] at e; cases e; exact ⟨.base (.bl _), (by decide : "bool" ∈ tNames)⟩
  | .int _, _, _, h, e => by unfold RD at h; subst h; simp only [tyD] at e; cases e; exact ⟨.base (.int _), (by decide : "int" ∈ tNames)⟩
  | .str _, _, _, h, e => by unfold RD at h; subst h; simp only [tyD] at e; cases e; exact ⟨.base (.str _), (by decide : "str" ∈ tNames)⟩
  | .tup _, _, _, h, e => by
    unfold RD at h
    obtain ⟨a, vs, rfl, f, r⟩ := h
    simp only [tyD] at e
    cases e
    refine ⟨?_, (by decide : "tuple" ∈ tNames)⟩
    rcases f with ⟨_, _, f | ⟨o, f⟩⟩ | ⟨o, its, n, h1, h2, _⟩
    · exact .base (.tup f)
    · exact .fTuple f
    · exact .kTuple h1 h2
  | .lst _, _, _, h, e => by
    unfold RD at h
    obtain ⟨a, vs, rfl, f, r⟩ := h
    simp only [tyD] at e
    cases e
    exact ⟨.base (.lst f.2.2), (by decide : "list" ∈ tNames)⟩
  | .scr _, _, _, h, e => by
    unfold RD at h
    obtain ⟨a, vs, rfl, f, r⟩ := h
    simp only [tyD] at e
    cases e
    refine ⟨?_, (by decide : "list" ∈ tNames)⟩
    rcases f with ⟨_, _, f | ⟨o, f⟩⟩ | ⟨o, its, n, h1, h2, _⟩
    · exact .base (.lst f)
    · exact .base (.frz f)
    · exact .kList h1 h2
  | .ref n, _, _, h, e => by
    unfold RD at h
    obtain ⟨a, rfl, q⟩ := h
    simp only [tyD] at e
    split at e
    · rename_i ds hn
      cases e
      obtain ⟨vs, ea, rv⟩ := rs.ob n a _ q hn
      exact ⟨.base (.lst ea), (by decide : "list" ∈ tNames)⟩
    · rename_i c fs hn
      split at e
      · rename_i hc
        cases e
        obtain ⟨dx, vs, ea, rv⟩ := rs.ob n a _ q hn
        exact ⟨.base (.ins ea (kit.cl c hc) (kit.ca c hc) kit.cg kit.ct (kit.cm c hc)), hc⟩
      · cases e
    · rename_i kvs hn
      cases e
      obtain ⟨vs, ea, rv⟩ := rs.ob n a _ q hn
      exact ⟨.base (.dK ea), (by decide : "dict" ∈ tNames)⟩
    · rename_i kvs hn
      cases e
      obtain ⟨vs, ea, rv⟩ := rs.ob n a _ q hn
      exact ⟨.base (.dT ea), (by decide : "dict" ∈ tNames)⟩
    · rename_i p k hn
      cases e
      have ea := rs.ob n a _ q hn
      exact ⟨.set ea, (by decide : "set" ∈ tNames)⟩
    · cases e
  | .adr _, _, _, _, e => by simp only [tyD] at e; cases e
  | .ty _, _, _, _, e => by simp only [tyD] at e; cases e
/-- is what is of one kind of another? -/
def isK (cs : List Addr) : Sum String Addr → D → Option Bool
  | .inl a, .ty b => if a ∈ tNames ∧ b ∈ tNames then some (decide (a = b) || (decide (a = "bool") && decide (b = "int"))) else none
  | .inl a, .adr c => if a ∈ tNames ∧ c ∈ cs then some false else none
  | .inr c, .ty b => if c ∈ cs ∧ b ∈ tNames then some false else none
  | .inr c, .adr c' => if c ∈ cs ∧ c' ∈ cs then some (decide (c = c')) else none
  | _, _ => none
theorem kit_names : ∀ a ∈ tNames, ∀ b ∈ tNames, kitB a b = some (decide (a = b) || (decide (a = "bool") && decide (b = "int"))) := by decide +kernel
theorem isK_ok {K : PySem.W.Frag} {cs : List Addr} (kit : Kit K cs) {m B : List Addr} {H : Hp} : ∀ {t : Sum String Addr} {d : D} {v : V} {b : Bool}, RD K m B H d v → isK cs t d = some b → ∃ u, ClsV v u ∧ PySem.W.kitOne K (kV2 t) u = some b
  | .inl a, .ty b, _, _, h, e => by
    unfold RD at h; subst h
    simp only [isK] at e
    split at e
    · rename_i hh
      refine ⟨.type b, .ty b, ?_⟩
      rw [← e]
      exact kit_ty (kit_names a hh.1 b hh.2)
    · cases e
  | .inl a, .adr c, _, _, h, e => by
    unfold RD at h; subst h
    simp only [isK] at e
    split at e
    · rename_i hh
      refine ⟨.ref c, .own c, ?_⟩
      rw [← e]
      exact kit.t2o c hh.2 a hh.1
    · cases e
  | .inr c, .ty b, _, _, h, e => by
    unfold RD at h; subst h
    simp only [isK] at e
    split at e
    · rename_i hh
      refine ⟨.type b, .ty b, ?_⟩
      rw [← e]
      exact kit.o2t c hh.1 b hh.2
    · cases e
  | .inr c, .adr c', _, _, h, e => by
    unfold RD at h; subst h
    simp only [isK] at e
    split at e
    · rename_i hh
      refine ⟨.ref c', .own c', ?_⟩
      rw [← e]
      exact kit.o2o c hh.1 c' hh.2
    · cases e
  | .inl _, .non, _, _, _, e | .inl _, .bl _, _, _, _, e | .inl _, .int _, _, _, _, e | .inl _, .str _, _, _, _, e | .inl _, .tup _, _, _, _, e | .inl _, .lst _, _, _, _, e | .inl _, .scr _, _, _, _, e | .inl _, .ref _, _, _, _, e => by simp only [isK] at e; cases e
  | .inr _, .non, _, _, _, e | .inr _, .bl _, _, _, _, e | .inr _, .int _, _, _, _, e | .inr _, .str _, _, _, _, e | .inr _, .tup _, _, _, _, e | .inr _, .lst _, _, _, _, e | .inr _, .scr _, _, _, _, e | .inr _, .ref _, _, _, _, e => by simp only [isK] at e; cases e
def anyK (cs : List Addr) (t : Sum String Addr) : List D → Option Bool
  | [] => some false
  | d :: r => match isK cs t d with
    | some true => some true
    | some false => anyK cs t r
    | none => none
theorem anyK_ok {K : PySem.W.Frag} {cs : List Addr} (kit : Kit K cs) {m B : List Addr} {H : Hp} {t : Sum String Addr} : ∀ {ds : List D} {vs : List V} {b : Bool}, RDs K m B H ds vs → anyK cs t ds = some b → ∃ us, Vals vs us ∧ (∀ ws, Vals vs ws → PySem.W.kitAny K (kV2 t) ws = some b)
  | [], _, _, h, e => by
    unfold RDs at h; subst h
    simp only [anyK] at e
    cases e
    exact ⟨[], .nil, fun ws w => by cases w; rfl⟩
  | d :: ds, _, b, h, e => by
    unfold RDs at h
    obtain ⟨x, r, rfl, h1, h2⟩ := h
    simp only [anyK] at e
    cases hk : isK cs t d with
    | none => rw [hk] at e; cases e
    | some k =>
      rw [hk] at e
      obtain ⟨u, hu, hku⟩ := isK_ok kit h1 hk
      have xu : ∃ u', RelV x u' := by cases hu with
        | ty n => exact ⟨_, rfl⟩
        | own C => exact ⟨_, rfl⟩
      obtain ⟨u', ru'⟩ := xu
      have hw : ∀ w, RelV x w → w = u := fun w rw => ClsV.eq hu rw
      cases k with
      | true =>
        cases e
        have rest : ∀ {ds : List D} {vs : List V}, RDs K m B H ds vs → ∃ us, Vals vs us := by
          intro ds
          induction ds with
          | nil => intro vs h; unfold RDs at h; subst h; exact ⟨[], .nil⟩
          | cons d ds ih =>
            intro vs h
            unfold RDs at h
            obtain ⟨x, r, rfl, g1, g2⟩ := h
            obtain ⟨us, hus⟩ := ih g2
            have : ∃ w, RelV x w := by
              cases x with
              | int i => exact ⟨.int i 0, 0, rfl⟩
              | str i => exact ⟨.str i 0, 0, rfl⟩
              | byt i => exact ⟨.bytes i 0, 0, rfl⟩
              | flt i => exact ⟨.float i 0, 0, rfl⟩
              | _ => exact ⟨_, rfl⟩
            obtain ⟨w, hw⟩ := this
            exact ⟨w :: us, .cons hw hus⟩
        obtain ⟨us, hus⟩ := rest h2
        refine ⟨u' :: us, .cons ru' hus, fun ws hws => ?_⟩
        cases hws with
        | cons r1 r2 =>
          rw [hw _ r1]
          unfold PySem.W.kitAny
          rw [hku]
      | false =>
        obtain ⟨us, hus, hall⟩ := anyK_ok kit h2 e
        refine ⟨u' :: us, .cons ru' hus, fun ws hws => ?_⟩
        cases hws with
        | cons r1 r2 =>
          rw [hw _ r1]
          unfold PySem.W.kitAny
          rw [hku]
          exact hall _ r2
def fIsi (cs : List Addr) : List D → Sto → R D
  | [d, .tup ts], S => rB ((tyD cs S d).bind fun t => anyK cs t ts) S
  | [d, c], S => rB ((tyD cs S d).bind fun t => isK cs t c) S
  | _, _ => .bad
/-- isinstance(x, a tuple of classes) -/
def rIsiQ (K : PySem.W.Frag) : List V → Hp → VK → Prop := fun xs H Q => ∃ (x : V) (tp : Addr) (cs : List V) (t : Value) (b : Bool), xs = [x, .ref tp] ∧ SqT K H tp cs ∧ TyX K H x t ∧ (∀ ws, Vals cs ws → PySem.W.kitAny K t ws = some b) ∧ Q (.bl b) H
theorem call_isiQ {X : Cx} : CallR X (.builtin "isinstance") (rIsiQ X.K) := by
  intro pins s σ H xs us Q I r h
  obtain ⟨x, tp, cs, t, b, rfl, hT, ty, hk, q⟩ := h
  obtain ⟨u1, u2, rfl, r1, r2⟩ := vals2 r
  cases (show u2 = Value.ref tp from r2)
  obtain ⟨P, Zk, p, hx⟩ := kit_of I r1 ty
  obtain ⟨its, rv, ⟨o, h1, h2, n, h3⟩, _⟩ := I.tuple hT
  obtain ⟨oc, od, dt, sl⟩ := o
  simp only at h2 h3
  subst h2 h3
  exact PySem.W.kia_tup Zk I.kIn p h1 (hk _ rv) hx fun tk => ⟨.bl b, H, I.tok tk, rfl, q⟩
theorem okIsi {K : PySem.W.Frag} {cs : List Addr} (kit : Kit K cs) : OkCall K (fun xs H Q => rIsi K xs H Q ∨ rIsiQ K xs H Q) (fIsi cs) := by
  intro m B H S ds vs W Q rs rds p
  match ds, rds, p with
  | [], _, p => exact p.elim
  | [_], _, p => exact p.elim
  | a :: b :: c :: r, _, p => exact (show False by cases b <;> exact p).elim
  | [d, c], rds, p =>
    obtain ⟨v, w, rfl, rv, rw⟩ := rds.two
    by_cases ht : ∃ ts, c = .tup ts
    · obtain ⟨ts, rfl⟩ := ht
      have p : Post K m B H W (fun d _ m' H' => ∀ v, RD K m' B H' d v → Q v H') (rB ((tyD cs S d).bind fun t => anyK cs t ts) S) := p
      cases h : (tyD cs S d).bind fun t => anyK cs t ts with
      | none => rw [h] at p; exact p.elim
      | some b =>
        rw [h] at p
        obtain ⟨t, h1, h2⟩ := Option.bind_eq_some_iff.mp h
        unfold RD at rw
        obtain ⟨a, us, rfl, f, r⟩ := rw
        obtain ⟨_, _, hall⟩ := anyK_ok kit r h2
        exact .inr ⟨v, a, us, _, b, rfl, f.sq, (tyD_ok kit rs rv h1).1, hall, p.now rs _ (RDb _)⟩
    · have p : Post K m B H W (fun d _ m' H' => ∀ v, RD K m' B H' d v → Q v H') (rB ((tyD cs S d).bind fun t => isK cs t c) S) := by
        cases c <;> first | exact p | exact absurd ⟨_, rfl⟩ ht
      cases h : (tyD cs S d).bind fun t => isK cs t c with
      | none => rw [h] at p; exact p.elim
      | some b =>
        rw [h] at p
        obtain ⟨t, h1, h2⟩ := Option.bind_eq_some_iff.mp h
        obtain ⟨u, hu, hk⟩ := isK_ok kit rw h2
        exact .inl ⟨v, w, _, u, b, rfl, hu, (tyD_ok kit rs rv h1).1, hk, p.now rs _ (RDb _)⟩
section
variable {X : Cx} {pos p0 : Pos} {e f : Expr} {t : DA}
theorem ze_isi {cs : List Addr} (kit : Kit X.K cs) (hm : X.mg "isinstance" = none) (ha : ZA X [e, f] t) (hg : Gl X "isinstance" := by rfl) (he : starEach [e, f] X.env = (false, eval e X.env) :: starEach [f] X.env := by rfl) (hpl : (backTo pos (starEach [f] X.env)).any (·.1) = false := by rfl) :
    ZE X (.Call (.Name "isinstance" p0) [e, f] [] pos) (eCall (fIsi cs) t) := ze_callB (call_isi.or call_isiQ) (okIsi kit) hm ha hg (he := he) (hpl := hpl)
/-- the name of a built-in type, as a value -/
theorem ze_ty {x : Str} {n : String} (hm : X.mg x = none) (hv : bootBuiltins x = some (.type n) := by decide +kernel) (hg : Gl X x := by rfl) (hn : x ≠ "__name__" := by decide) (hd : (x == ("__debug__" : Str)) = false := by decide) : ZE X (.Name x pos) (eC (.ty n)) :=
  ze_c (pe_bltn (v := .ty n) hg hm hv rfl hn hd) fun _ _ _ => RDt n
end

/-! ### attributes -/
def eFld (cs : List Addr) (f : Str) (a : DE) : DE := e1 (fun d S => match d with
  | .ref n => match S[n]? with
    | some (.ins c fs) => if c ∈ cs then match fs.lookup f with
      | some x => .ok x S
      | none => .bad else .bad
    | _ => .bad
  | _ => .bad) a
theorem RFs.look {K : PySem.W.Frag} {m B : List Addr} {H : Hp} {f : Str} : ∀ {fs : List (Str × D)} {vs : List (Str × V)} {d : D}, RFs K m B H fs vs → fs.lookup f = some d → ∃ v, vs.lookup f = some v ∧ RD K m B H d v
  | [], _, _, _, e => by cases e
  | p :: fs, _, d, ⟨x, r, e1, h1, h2⟩, e => by
    subst e1
    obtain ⟨g, y⟩ := p
    simp only [List.lookup] at e ⊢
    cases hg : f == g with
    | true =>
      rw [hg] at e
      cases e
      exact ⟨x, rfl, h1⟩
    | false =>
      rw [hg] at e
      exact RFs.look h2 e
theorem RFs.lookN {K : PySem.W.Frag} {m B : List Addr} {H : Hp} {f : Str} : ∀ {fs : List (Str × D)} {vs : List (Str × V)}, RFs K m B H fs vs → fs.lookup f = none → vs.lookup f = none
  | [], _, h, _ => by
    have h' : _ = _ := h
    rw [h']
    rfl
  | p :: fs, _, ⟨x, r, e1, h1, h2⟩, e => by
    subst e1
    obtain ⟨g, y⟩ := p
    simp only [List.lookup] at e ⊢
    cases hg : f == g with
    | true => rw [hg] at e; cases e
    | false =>
      rw [hg] at e
      exact RFs.lookN h2 e
/-- the attributes' names that stand in no class -/
def NoAtt (K : PySem.W.Frag) (cs : List Addr) (f : Str) : Prop := ∀ c ∈ cs, Cls K c ∧ NoAttr K c f
section
variable {X : Cx} {pos : Pos} {e : Expr} {de : DE}
theorem ze_fld {cs : List Addr} {f : Str} (hc : NoAtt X.K cs f) (he : ZE X e de) (hb : attributeBase e f X.env (eval e X.env) = eval e X.env := by rfl) : ZE X (.Attribute e f pos) (eFld cs f de) := fun W tk => pe_weak (pe_fld (he W tk) hb) fun σ H Q ⟨m, B, ρ, S, rs, e, p⟩ =>
  tE.takeA rs e p fun d S1 m1 H1 v g1 r1 e1 rd p1 => by
    cases d <;> try exact p1.elim
    rename_i n
    unfold RD at rd
    obtain ⟨a, rfl, q⟩ := rd
    simp only at p1
    split at p1
    · rename_i c fs hn
      split at p1
      · rename_i hcc
        cases hl : fs.lookup f with
        | none => rw [hl] at p1; exact p1.elim
        | some x =>
          rw [hl] at p1
          obtain ⟨dx, vs, ea, rf⟩ := r1.ob n a _ q hn
          obtain ⟨w, hw, rw⟩ := rf.look hl
          exact ⟨a, c, dx, vs, w, rfl, ea, (hc c hcc).1, (hc c hcc).2, hw, p1.now r1 w rw⟩
      · exact p1.elim
    · exact p1.elim
end

/-! ### the promise of a def -/
/-- F: what the def comes to on its arguments and the store -/
def spI (K : PySem.W.Frag) (n : Nat) (F : List D → Sto → R D) : Sp := fun vs H Q E => ∃ m B ds S, RS K m B H S ∧ RDs K m B H ds vs ∧ ds.length = n ∧ Post K m B H E (fun d _ m' H' => ∀ v, RD K m' B H' d v → Q v H') (F ds S)
theorem spI_len {K : PySem.W.Frag} {n : Nat} {F : List D → Sto → R D} {vs : List V} {H : Hp} {Q : VK} {E : XK} (h : spI K n F vs H Q E) : vs.length = n := by
  obtain ⟨m, B, ds, S, rs, rd, hl, _⟩ := h
  rw [← rd.len]
  exact hl
/-- f(..) with the defaults dd behind -/
def eFn (n : Nat) (F : List D → Sto → R D) (dd : List D) (r : DA) : DE := fun ρ S => (r ρ S).bind fun ds S1 => if (ds ++ dd).length = n then F (ds ++ dd) S1 else .bad
/-- what the written part holds of a def -/
structure Fd (X : Cx) (x : Str) (k n : Nat) (f : Addr) (fd : FuncData) (ps : List Str) (F : List D → Sto → R D) : Prop where
  ok : FnOk X.prog X.w X.K X.mg X.base (L2.CX X.prog X.w) k f fd ps (spI X.K n F)
  mg : X.mg x = some (.ref f)
  kp : PySem.W.keepIn X.K (.ref f) = true
section
variable {X : Cx} {pos p0 apos : Pos} {e o : Expr} {es : List Expr} {x mt : Str} {t : DA} {dobj : DE} {k n : Nat} {f C : Addr} {fd : FuncData} {ps : List Str} {F : List D → Sto → R D} {dd : List D} {dvs : List V} {ds : List Value}
theorem ze_call (G : Fd X x k n f fd ps F) (hr : Room k X.A) (hb : Binds X.K fd ps ds) (hd : Vals dvs ds) (hdd : ∀ m B H, RDs X.K m B H dd dvs) (ha : ZA X (e :: es) t) (hg : Gl X x := by rfl) (hdb : (x == ("__debug__" : Str)) = false := by decide)
    (he : starEach (e :: es) X.env = (false, eval e X.env) :: starEach es X.env := by rfl) (hpl : (backTo pos (starEach es X.env)).any (·.1) = false := by rfl) : ZE X (.Call (.Name x p0) (e :: es) [] pos) (eFn n F dd t) := fun W tk =>
  pe_weak (pe_callSD (E := fun σ => WE W σ) G.ok hr hg G.mg G.kp hb hd (fun σ => passAt tk σ) (ha W tk) hdb he hpl) fun σ H Q ⟨m, B, ρ, S, rs, e, p⟩ => tAr.take rs e p fun ds S1 m1 H1 vs g1 r1 e1 rds p1 => by
    split at p1
    · rename_i hn
      exact ⟨m1, B, ds ++ dd, S1, r1, rds.app (hdd _ _ _), hn, p1⟩
    · exact p1.elim
theorem ze_call0 (G : Fd X x k n f fd ps F) (hr : Room k X.A) (hb : Binds X.K fd ps ds) (hd : Vals dvs ds) (hdd : ∀ m B H, RDs X.K m B H dd dvs) (hg : Gl X x := by rfl) (hdb : (x == ("__debug__" : Str)) = false := by decide) :
    ZE X (.Call (.Name x p0) [] [] pos) (eFn n F dd aN) := fun W tk => ⟨fun pins s σ H Q I ⟨m, B, ρ, S, rs, e, p⟩ => by
  have p1 : Post X.K m B H (fun c x H' => W c x σ H') (fun d _ m' H' => ∀ v, RD X.K m' B H' d v → Q v H') (if ([] ++ dd).length = n then F ([] ++ dd) S else .bad) := p
  split at p1
  · rename_i hn
    refine wpAny_Call_Name_kw (ld_glob I hg G.mg ?_ hdb)
    exact PySem.W.callWith_K0 I.kIn G.kp (run_fnSD (E := fun σ => WE W σ) (us := []) (vs := []) G.ok hr hb hd (passAt tk σ) I .nil ⟨m, B, [] ++ dd, S, rs, by simpa using hdd m B H, hn, p1⟩)
  · exact p1.elim⟩
/-- o.m(..) of an own instance -/
def eMt (cs : List Addr) (mt : Str) (C : Addr) (n : Nat) (F : List D → Sto → R D) (dd : List D) (a : DE) (r : DA) : DE := fun ρ S => (a ρ S).bind fun d S1 => match d with
  | .ref k => match S1[k]? with
    | some (.ins c fs) => if c = C then match fs.lookup mt with
      | none => (r ρ S1).bind fun ds S2 => if (d :: (ds ++ dd)).length = n then F (d :: (ds ++ dd)) S2 else .bad
      | some _ => .bad else .bad
    | _ => .bad
  | _ => .bad
theorem ze_meth {cs : List Addr} {pl : Sem Bool} (ho : ZE X o dobj) (cl : Cls X.K C) (hm : Meth X.K C mt f) (ok : FnOk X.prog X.w X.K X.mg X.base (L2.CX X.prog X.w) k f fd ps (spI X.K n F)) (hr : Room k X.A) (hb : Binds X.K fd ps ds) (hd : Vals dvs ds) (hdd : ∀ m B H, RDs X.K m B H dd dvs) (ha : ZA X (e :: es) t)
    (hst : starEach (e :: es) X.env = (false, eval e X.env) :: starEach es X.env := by rfl) (hpl : (backTo pos (starEach es X.env)).any (·.1) = false := by rfl)
    (ht : eval (.Call (.Attribute o mt apos) (e :: es) [] pos) X.env = (do
      let ov ← eval o X.env
      standAt apos.atName
      let (f, first) ← holding [ov] (getMethod ov mt pl)
      callWith pos f first (backTo pos (starEach (e :: es) X.env)) (backToKw pos (keywordEach [] X.env))) := by rfl) :
    ZE X (.Call (.Attribute o mt apos) (e :: es) [] pos) (eMt cs mt C n F dd dobj t) := fun W tk => ⟨fun pins s σ H Q I ⟨m, B, ρ, S, rs, e, p⟩ => by
  refine PySem.W.methodCall_KW (pl := pl) (thn ((ho W tk).run pins s σ H (fun x H1 => ∃ m1 k a dx vs S1, RS X.K m1 B H1 S1 ∧ REs X.K m1 B H1 ρ σ ∧ x = .ref a ∧ m1[k]? = some a ∧ H1 a = some (.ins C dx vs) ∧ vs.lookup mt = none ∧ Ge m H m1 H1 ∧
      Post X.K m1 B H1 (fun c x H' => W c x σ H') (fun d _ m' H' => ∀ v, RD X.K m' B H' d v → Q v H') ((t ρ S1).bind fun ds S2 => if (D.ref k :: (ds ++ dd)).length = n then F (.ref k :: (ds ++ dd)) S2 else .bad)) I ?_) fun u s1 hh => ?_) ht
  · refine tE.takeA rs e p fun d S1 m1 H1 v g1 r1 e1 rd p1 => ?_
    cases d <;> try exact p1.elim
    rename_i k
    unfold RD at rd
    obtain ⟨a, rfl, q⟩ := rd
    simp only at p1
    split at p1
    · rename_i c fs hn
      split at p1
      · rename_i hcc
        cases hl : fs.lookup mt with
        | some x => rw [hl] at p1; exact p1.elim
        | none =>
          rw [hl] at p1
          obtain ⟨dx, vs, ea, rf⟩ := r1.ob k a _ q hn
          exact ⟨m1, k, a, dx, vs, S1, r1, e1, rfl, q, by rw [← hcc]; exact ea, rf.lookN hl, g1, p1⟩
      · exact p1.elim
    · exact p1.elim
  · obtain ⟨x, H1, I1, rx, m1, k, a, dx, vs, S1, r1, e1, rfl, q, ea, l, g1, p1⟩ := hh
    obtain rfl : u = Value.ref a := rx
    refine getmeth_ok I1 ea cl hm l ?_
    refine PySem.W.callWith_K (first := [.ref a]) (h₀ := X.base) I.ok.mod.kin hm.kp (thn ((ha W tk).run pos pins s1 σ H1 (fun vs H2 => spI X.K n F (.ref a :: (vs ++ dvs)) H2 Q (WE W σ)) I1 ?_) fun us s2 ⟨vs2, H2, I2, r, q2⟩ => ⟨I2.kIn, ?_⟩) hst hpl
    · refine tAr.take r1 e1 p1 fun ds S2 m2 H2 vs2 g2 r2 e2 rds p2 => ?_
      split at p2
      · rename_i hn
        refine ⟨m2, B, D.ref k :: (ds ++ dd), S2, r2, RDs.cons ?_ (rds.app (hdd _ _ _)), hn, p2⟩
        unfold RD
        exact ⟨a, rfl, (g2.tr (B := B)).at_ _ _ q⟩
      · exact p2.elim
    · exact run_fnSD (E := fun σ => WE W σ) (us := .ref a :: us) (vs := .ref a :: vs2) ok hr hb hd (passAt tk σ) I2 (.cons rfl r) q2⟩
theorem ze_meth0 {cs : List Addr} {pl : Sem Bool} (ho : ZE X o dobj) (cl : Cls X.K C) (hm : Meth X.K C mt f) (ok : FnOk X.prog X.w X.K X.mg X.base (L2.CX X.prog X.w) k f fd ps (spI X.K n F)) (hr : Room k X.A) (hb : Binds X.K fd ps ds) (hd : Vals dvs ds) (hdd : ∀ m B H, RDs X.K m B H dd dvs)
    (ht : eval (.Call (.Attribute o mt apos) [] [] pos) X.env = (do
      let ov ← eval o X.env
      standAt apos.atName
      let (f, first) ← holding [ov] (getMethod ov mt pl)
      callWith pos f first (backTo pos (starEach [] X.env)) (backToKw pos (keywordEach [] X.env))) := by rfl) :
    ZE X (.Call (.Attribute o mt apos) [] [] pos) (eMt cs mt C n F dd dobj aN) := fun W tk => ⟨fun pins s σ H Q I ⟨m, B, ρ, S, rs, e, p⟩ => by
  refine PySem.W.methodCall_KW (pl := pl) (thn ((ho W tk).run pins s σ H (fun x H1 => ∃ a dx vs, x = .ref a ∧ H1 a = some (.ins C dx vs) ∧ vs.lookup mt = none ∧ spI X.K n F (.ref a :: dvs) H1 Q (WE W σ)) I ?_) fun u s1 hh => ?_) ht
  · refine tE.takeA rs e p fun d S1 m1 H1 v g1 r1 e1 rd p1 => ?_
    cases d <;> try exact p1.elim
    rename_i k
    have rd' := rd
    unfold RD at rd
    obtain ⟨a, rfl, q⟩ := rd
    simp only at p1
    split at p1
    · rename_i c fs hn
      split at p1
      · rename_i hcc
        cases hl : fs.lookup mt with
        | some x => rw [hl] at p1; exact p1.elim
        | none =>
          rw [hl] at p1
          obtain ⟨dx, vs, ea, rf⟩ := r1.ob k a _ q hn
          refine ⟨a, dx, vs, rfl, by rw [← hcc]; exact ea, rf.lookN hl, ?_⟩
          have p2 : Post X.K m1 B H1 (fun c x H' => W c x σ H') (fun d _ m' H' => ∀ v, RD X.K m' B H' d v → Q v H') (if (D.ref k :: ([] ++ dd)).length = n then F (.ref k :: ([] ++ dd)) S1 else .bad) := p1
          split at p2
          · rename_i hn
            exact ⟨m1, B, D.ref k :: ([] ++ dd), S1, r1, RDs.cons rd' (by simpa using hdd m1 B H1), hn, p2⟩
          · exact p2.elim
      · exact p1.elim
    · exact p1.elim
  · obtain ⟨x, H1, I1, rx, a, dx, vs, rfl, ea, l, q2⟩ := hh
    obtain rfl : u = Value.ref a := rx
    refine getmeth_ok I1 ea cl hm l ?_
    exact PySem.W.callWith_K0 (first := [.ref a]) I1.kIn hm.kp (run_fnSD (E := fun σ => WE W σ) (us := [.ref a]) (vs := [.ref a]) ok hr hb hd (passAt tk σ) I1 (.cons rfl .nil) q2)⟩
end
end Z
namespace Z
open PySem L2

/-! ### statements -/
/-- what comes of a statement -/
inductive SR where
  | nx (ρ : Env) (S : Sto) | rt (d : D) (S : Sto) | bk (ρ : Env) (S : Sto) | ct (ρ : Env) (S : Sto) | exc (ρ : Env) (c : Addr) (d : D) (S : Sto) | bad
abbrev DS := Env → Sto → SR
def SR.then (r : SR) (f : DS) : SR := match r with
  | .nx ρ S => f ρ S
  | r => r
@[simp] theorem SR.then_nx (ρ : Env) (S : Sto) (f : DS) : (SR.nx ρ S).then f = f ρ S := rfl
@[simp] theorem SR.then_rt (d : D) (S : Sto) (f : DS) : (SR.rt d S).then f = .rt d S := rfl
@[simp] theorem SR.then_bk (ρ : Env) (S : Sto) (f : DS) : (SR.bk ρ S).then f = .bk ρ S := rfl
@[simp] theorem SR.then_ct (ρ : Env) (S : Sto) (f : DS) : (SR.ct ρ S).then f = .ct ρ S := rfl
@[simp] theorem SR.then_exc (ρ : Env) (c : Addr) (d : D) (S : Sto) (f : DS) : (SR.exc ρ c d S).then f = .exc ρ c d S := rfl
@[simp] theorem SR.then_bad (f : DS) : SR.bad.then f = .bad := rfl
def R.to {α : Type} (ρ : Env) (r : R α) (f : α → Sto → SR) : SR := match r with
  | .ok a S => f a S
  | .exc c d S => .exc ρ c d S
  | .bad => .bad
@[simp] theorem R.to_ok {α : Type} (ρ : Env) (a : α) (S : Sto) (f : α → Sto → SR) : (R.ok a S).to ρ f = f a S := rfl
@[simp] theorem R.to_exc {α : Type} (ρ : Env) (c : Addr) (d : D) (S : Sto) (f : α → Sto → SR) : (R.exc c d S : R α).to ρ f = .exc ρ c d S := rfl
@[simp] theorem R.to_bad {α : Type} (ρ : Env) (f : α → Sto → SR) : (R.bad : R α).to ρ f = .bad := rfl
def PostS (K : PySem.W.Frag) (m B : List Addr) (H : Hp) (W : WX) (E : Ends) : SR → Prop
  | .nx ρ S' => ∀ m' H' σ', Ge m H m' H' → RS K m' B H' S' → REs K m' B H' ρ σ' → E.nx σ' H'
  | .rt d S' => ∀ m' H' v, Ge m H m' H' → RS K m' B H' S' → RD K m' B H' d v → E.rt v H'
  | .bk ρ S' => ∀ m' H' σ', Ge m H m' H' → RS K m' B H' S' → REs K m' B H' ρ σ' → E.bk σ' H'
  | .ct ρ S' => ∀ m' H' σ', Ge m H m' H' → RS K m' B H' S' → REs K m' B H' ρ σ' → E.ct σ' H'
  | .exc ρ c d S' => ∀ m' H' σ' x v, Ge m H m' H' → RS K m' B H' S' → REs K m' B H' ρ σ' → H' x = some (.xd [("at", v)]) → RD K m' B H' d v → W (.ref c) (some x) σ' H'
  | .bad => False
theorem PostS.ge {K : PySem.W.Frag} {m m' B : List Addr} {H H' : Hp} {W : WX} {E : Ends} {r : SR} (h : PostS K m B H W E r) (g : Ge m H m' H') : PostS K m' B H' W E r := by
  cases r with
  | nx ρ S => exact fun m2 H2 σ g2 => h m2 H2 σ (g.trans g2)
  | rt d S => exact fun m2 H2 v g2 => h m2 H2 v (g.trans g2)
  | bk ρ S => exact fun m2 H2 σ g2 => h m2 H2 σ (g.trans g2)
  | ct ρ S => exact fun m2 H2 σ g2 => h m2 H2 σ (g.trans g2)
  | exc ρ c d S => exact fun m2 H2 σ x v g2 => h m2 H2 σ x v (g.trans g2)
  | bad => exact h
/-- the reading of a statement -/
def tS (W : WX) (K : PySem.W.Frag) (den : DS) : TS := fun E σ H => ∃ m B ρ S, RS K m B H S ∧ REs K m B H ρ σ ∧ PostS K m B H W E (den ρ S)
def ZS (X : Cx) (st : Stmt) (den : DS) : Prop := ∀ W, Takes X W → PS X st (tS W X.K den)
def ZB (X : Cx) (sts : List Stmt) (den : DS) : Prop := ∀ W, Takes X W → PSs X sts (tS W X.K den)
/-- an expression ahead of what follows -/
theorem tE.takeS {W : WX} {K : PySem.W.Frag} {da : DE} {f : D → Sto → SR} {σ : L2.St} {H : Hp} {Q' : VK} {m B : List Addr} {ρ : Env} {S : Sto} {E : Ends} (r : RS K m B H S) (e : REs K m B H ρ σ)
    (h : PostS K m B H W E ((da ρ S).to ρ f))
    (k : ∀ d S1 m1 H1 v, Ge m H m1 H1 → RS K m1 B H1 S1 → REs K m1 B H1 ρ σ → RD K m1 B H1 d v → PostS K m1 B H1 W E (f d S1) → Q' v H1) : tE W K da σ H Q' := by
  refine ⟨m, B, ρ, S, r, e, ?_⟩
  cases hd : da ρ S with
  | ok d S1 =>
    rw [hd] at h
    exact fun m1 H1 g1 r1 v rv => k d S1 m1 H1 v g1 r1 (e.mono g1.tr) rv (PostS.ge h g1)
  | exc c d S1 =>
    rw [hd] at h
    exact fun m1 H1 x v g1 r1 hx rv => h m1 H1 σ x v g1 r1 (e.mono g1.tr) hx rv
  | bad => rw [hd] at h; exact h
theorem tTe.takeS {W : WX} {K : PySem.W.Frag} {da : DT} {f : Bool → Sto → SR} {σ : L2.St} {H : Hp} {Q' : Bool → Hp → Prop} {m B : List Addr} {ρ : Env} {S : Sto} {E : Ends} (r : RS K m B H S) (e : REs K m B H ρ σ)
    (h : PostS K m B H W E ((da ρ S).to ρ f))
    (k : ∀ d S1 m1 H1, Ge m H m1 H1 → RS K m1 B H1 S1 → REs K m1 B H1 ρ σ → PostS K m1 B H1 W E (f d S1) → Q' d H1) : tTe W K da σ H Q' := by
  refine ⟨m, B, ρ, S, r, e, ?_⟩
  cases hd : da ρ S with
  | ok d S1 =>
    rw [hd] at h
    exact fun m1 H1 g1 r1 => k d S1 m1 H1 g1 r1 (e.mono g1.tr) (PostS.ge h g1)
  | exc c d S1 =>
    rw [hd] at h
    exact fun m1 H1 x v g1 r1 hx rv => h m1 H1 σ x v g1 r1 (e.mono g1.tr) hx rv
  | bad => rw [hd] at h; exact h
def sNx : DS := fun ρ S => .nx ρ S
def sSeq (a b : DS) : DS := fun ρ S => (a ρ S).then b
def sDrop (a : DE) : DS := fun ρ S => (a ρ S).to ρ fun _ S1 => .nx ρ S1
def sRet (a : DE) : DS := fun ρ S => (a ρ S).to ρ fun d S1 => .rt d S1
def sRetN : DS := fun _ S => .rt .non S
def sBrk : DS := fun ρ S => .bk ρ S
def sCont : DS := fun ρ S => .ct ρ S
def sIf (t : DT) (a b : DS) : DS := fun ρ S => (t ρ S).to ρ fun k S1 => if k = true then a ρ S1 else b ρ S1
section
variable {X : Cx} {pos : Pos} {e c : Expr} {st : Stmt} {rest as bs : List Stmt} {de : DE} {dt : DT} {da db : DS}
theorem zb_nil : ZB X [] sNx := fun W tk => pss_weak pss_nil fun E σ H ⟨m, B, ρ, S, rs, e, p⟩ => p m H σ (.refl m H) rs e
theorem zb_cons (h1 : ZS X st da) (h2 : ZB X rest db) : ZB X (st :: rest) (sSeq da db) := fun W tk => pss_weak (pss_cons (h1 W tk) (h2 W tk)) fun E σ H ⟨m, B, ρ, S, rs, e, p⟩ => by
  refine ⟨m, B, ρ, S, rs, e, ?_⟩
  unfold sSeq at p
  cases hd : da ρ S with
  | nx ρ' S' =>
    rw [hd] at p
    exact fun m1 H1 σ1 g1 r1 e1 => ⟨m1, B, ρ', S', r1, e1, PostS.ge p g1⟩
  | rt d S' => rw [hd] at p; exact p
  | bk ρ' S' => rw [hd] at p; exact p
  | ct ρ' S' => rw [hd] at p; exact p
  | exc ρ' c d S' => rw [hd] at p; exact p
  | bad => rw [hd] at p; exact p
theorem zb_one (h1 : ZS X st da) : ZB X [st] da := fun W tk => pss_one (h1 W tk)
theorem zs_pass : ZS X (.Pass pos) sNx := fun W tk => ps_weak ps_pass fun E σ H ⟨m, B, ρ, S, rs, e, p⟩ => p m H σ (.refl m H) rs e
theorem zs_brk : ZS X (.Break pos) sBrk := fun W tk => ps_weak ps_break fun E σ H ⟨m, B, ρ, S, rs, e, p⟩ => p m H σ (.refl m H) rs e
theorem zs_cont : ZS X (.Continue pos) sCont := fun W tk => ps_weak ps_continue fun E σ H ⟨m, B, ρ, S, rs, e, p⟩ => p m H σ (.refl m H) rs e
theorem zs_drop (h : ZE X e de) (hs : swapsWith e none pos.line X.env = pure false := by rfl) : ZS X (.Expr e pos) (sDrop de) := fun W tk => ps_weak (ps_expr (h W tk) hs) fun E σ H ⟨m, B, ρ, S, rs, e, p⟩ =>
  tE.takeS rs e p fun d S1 m1 H1 v g1 r1 e1 rd p1 => p1 m1 H1 σ (.refl _ _) r1 e1
theorem zs_ret (h : ZE X e de) : ZS X (.Return (some e) pos) (sRet de) := fun W tk => ps_weak (ps_ret (h W tk)) fun E σ H ⟨m, B, ρ, S, rs, e, p⟩ =>
  tE.takeS rs e p fun d S1 m1 H1 v g1 r1 e1 rd p1 => p1 m1 H1 v (.refl _ _) r1 rd
theorem zs_retN : ZS X (.Return none pos) sRetN := fun W tk => ps_weak ps_retN fun E σ H ⟨m, B, ρ, S, rs, e, p⟩ => p m H .non (.refl _ _) rs RDn
theorem zs_if (hc : ZT X c dt) (ha : ZB X as da) (hb : ZB X bs db) : ZS X (.If c as bs pos) (sIf dt da db) := fun W tk => ps_weak (ps_if (hc W tk) (ha W tk) (hb W tk)) fun E σ H ⟨m, B, ρ, S, rs, e, p⟩ =>
  tTe.takeS rs e p fun b S1 m1 H1 g1 r1 e1 p1 => by
    cases b with
    | true => exact ⟨m1, B, ρ, S1, r1, e1, p1⟩
    | false => exact ⟨m1, B, ρ, S1, r1, e1, p1⟩
end

/-! ### targets -/
inductive Tg where
  | nm (i : Nat) | tp (ts : List Tg)
mutual
def Tg.asg (S : Sto) : Tg → D → Env → Option Env
  | .nm i, d, ρ => some (ρ.set i (some d))
  | .tp ts, d, ρ => match seqOf S d with
    | some ds => Tg.asgs S ts ds ρ
    | none => none
def Tg.asgs (S : Sto) : List Tg → List D → Env → Option Env
  | [], [], ρ => some ρ
  | t :: ts, d :: ds, ρ => (Tg.asg S t d ρ).bind fun ρ' => Tg.asgs S ts ds ρ'
  | _, _, _ => none
end
mutual
def Tg.ix : Tg → List Nat
  | .nm i => [i]
  | .tp ts => Tg.ixs ts
def Tg.ixs : List Tg → List Nat
  | [] => []
  | t :: ts => Tg.ix t ++ Tg.ixs ts
end
/-- the same but for the slots at is -/
def Sam (is : List Nat) (σ σ' : L2.St) : Prop := ∀ vs : List Nat, (∀ i ∈ is, i ∈ vs) → wipe σ' vs = wipe σ vs
theorem Sam.refl {is : List Nat} {σ : L2.St} : Sam is σ σ := fun _ _ => rfl
theorem Sam.trans {is js : List Nat} {σ σ1 σ2 : L2.St} (a : Sam is σ σ1) (b : Sam js σ1 σ2) : Sam (is ++ js) σ σ2 := fun vs h => (b vs fun i hi => h i (List.mem_append_right _ hi)).trans (a vs fun i hi => h i (List.mem_append_left _ hi))
theorem wipe_set {σ : L2.St} {i : Nat} {x : Option V} : ∀ {vs : List Nat}, wipe (σ.set i x) vs = (wipe σ vs).set i (if i ∈ vs then none else x) ∨ (i ∈ vs ∧ wipe (σ.set i x) vs = wipe σ vs)
  | [] => .inl (by simp [wipe])
  | v :: vs => by
    by_cases hv : v = i
    · subst hv
      refine .inr ⟨List.mem_cons_self .., ?_⟩
      unfold wipe
      rcases wipe_set (σ := σ) (i := v) (x := x) (vs := vs) with h | ⟨_, h⟩
      · rw [h, List.set_set]
      · rw [h]
    · rcases wipe_set (σ := σ) (i := i) (x := x) (vs := vs) with h | ⟨hm, h⟩
      · by_cases hi : i ∈ vs
        · refine .inr ⟨List.mem_cons_of_mem _ hi, ?_⟩
          unfold wipe
          have : wipe (σ.set i x) vs = wipe σ vs := by
            rw [h, if_pos hi]
            exact wipe_in hi
          rw [this]
        · refine .inl ?_
          unfold wipe
          rw [h, if_neg hi, if_neg (by simp only [List.mem_cons, not_or]; exact ⟨Ne.symm hv, hi⟩), List.set_comm _ _ (Ne.symm hv)]
      · refine .inr ⟨List.mem_cons_of_mem _ hm, ?_⟩
        unfold wipe
        rw [h]
where
  wipe_in {σ : L2.St} {i : Nat} : ∀ {vs : List Nat}, i ∈ vs → (wipe σ vs).set i none = wipe σ vs
  | [], h => by simp at h
  | v :: vs, h => by
    unfold wipe
    by_cases hv : v = i
    · subst hv
      rw [List.set_set]
    · have hi : i ∈ vs := by
        rcases List.mem_cons.mp h with e | h
        · exact absurd e.symm hv
        · exact h
      rw [List.set_comm _ _ hv, wipe_in hi]
theorem Sam.set {σ : L2.St} {i : Nat} {x : Option V} : Sam [i] σ (σ.set i x) := fun vs h => by
  have hi : i ∈ vs := h i (List.mem_cons_self ..)
  rcases wipe_set (σ := σ) (i := i) (x := x) (vs := vs) with q | ⟨_, q⟩
  · rw [q, if_pos hi, wipe_set.wipe_in hi]
  · exact q
theorem wipe_wipe {σ : L2.St} : ∀ vs : List Nat, wipe (wipe σ vs) vs = wipe σ vs := fun vs => go vs vs fun _ h => h
where
  go {σ : L2.St} (ws : List Nat) : ∀ vs : List Nat, (∀ i ∈ vs, i ∈ ws) → wipe (wipe σ ws) vs = wipe σ ws
  | [], _ => rfl
  | v :: vs, h => by
    show (wipe (wipe σ ws) vs).set v none = wipe σ ws
    rw [go ws vs fun i hi => h i (List.mem_cons_of_mem _ hi)]
    exact wipe_set.wipe_in (h v (List.mem_cons_self ..))
/-- the reading of a target -/
def gT (K : PySem.W.Frag) (tg : Tg) : TG := fun v σ H Q => ∃ m B S d ρ ρ', RS K m B H S ∧ RD K m B H d v ∧ REs K m B H ρ σ ∧ Tg.asg S tg d ρ = some ρ' ∧ ∀ σ', REs K m B H ρ' σ' → Sam tg.ix σ σ' → Q σ' H
def gTs (K : PySem.W.Frag) (ts : List Tg) : TGs := fun vs σ H Q => ∃ m B S ds ρ ρ', RS K m B H S ∧ RDs K m B H ds vs ∧ REs K m B H ρ σ ∧ Tg.asgs S ts ds ρ = some ρ' ∧ ∀ σ', REs K m B H ρ' σ' → Sam (Tg.ixs ts) σ σ' → Q σ' H
def ZG (X : Cx) (target : Expr) (tg : Tg) : Prop := PG X target (gT X.K tg)
def ZGs (X : Cx) (es : List Expr) (ts : List Tg) : Prop := PGs X es (gTs X.K ts)
theorem pgs_weak {X : Cx} {e : List Expr} {t t' : TGs} (h : PGs X e t) (i : ∀ v σ H Q, t' v σ H Q → t v σ H Q) : PGs X e t' := ⟨fun pins s σ H x u Q I r q => h.run pins s σ H x u Q I r (i _ _ _ _ q)⟩
theorem Tg.asgs_len {S : Sto} : ∀ {ts : List Tg} {ds : List D} {ρ ρ' : Env}, Tg.asgs S ts ds ρ = some ρ' → ts.length = ds.length
  | [], [], _, _, _ => rfl
  | t :: ts, d :: ds, _, _, h => by
    simp only [Tg.asgs, Option.bind_eq_some_iff] at h
    obtain ⟨_, _, h⟩ := h
    simp [Tg.asgs_len h]
  | [], _ :: _, _, _, h => by simp [Tg.asgs] at h
  | _ :: _, [], _, _, h => by simp [Tg.asgs] at h
section
variable {X : Cx} {pos : Pos} {e : Expr} {es : List Expr} {t : Tg} {ts : List Tg}
theorem zg_nm {i : Nat} {x : Str} (hN : X.N.Nodup) (hi : X.N[i]? = some x := by rfl) (hx : Loc X.env.scope x := by first | exact Or.inl rfl | exact Or.inr rfl) (hf : X.fn x = true ∨ X.env.scope.names.lookup x = some .local := by first | exact .inl rfl | exact .inr rfl | assumption) : ZG X (.Name x pos) (.nm i) :=
  pg_weak (pg_name hN hi hx hf) fun v σ H Q ⟨m, B, S, d, ρ, ρ', rs, rd, e, ha, k⟩ => by
    simp only [Tg.asg] at ha
    cases ha
    exact k _ (e.set i rd) Sam.set
theorem zgs_nil : ZGs X [] [] := pgs_weak pgs_nil fun vs σ H Q ⟨m, B, S, ds, ρ, ρ', rs, rd, e, ha, k⟩ => by
  cases ds with
  | nil =>
    unfold RDs at rd
    simp only [Tg.asgs] at ha
    cases ha
    exact ⟨rd, k σ e Sam.refl⟩
  | cons d ds => simp [Tg.asgs] at ha
theorem zgs_cons (h1 : ZG X e t) (h2 : ZGs X es ts) (hs : (assignEach (e :: es) X.env).map (·.2) = assign e X.env :: (assignEach es X.env).map (·.2) := by rfl) : ZGs X (e :: es) (t :: ts) :=
  pgs_weak (pgs_cons h1 h2 hs) fun vs σ H Q ⟨m, B, S, ds, ρ, ρ', rs, rd, e, ha, k⟩ => by
    cases ds with
    | nil => simp [Tg.asgs] at ha
    | cons d ds =>
      unfold RDs at rd
      obtain ⟨x, r, rfl, h1, h2⟩ := rd
      simp only [Tg.asgs, Option.bind_eq_some_iff] at ha
      obtain ⟨ρ1, ha1, ha2⟩ := ha
      exact ⟨x, r, rfl, m, B, S, d, ρ, ρ1, rs, h1, e, ha1, fun σ1 e1 s1 => ⟨m, B, S, ds, ρ1, ρ', rs, h2, e1, ha2, fun σ2 e2 s2 => k σ2 e2 (s1.trans s2)⟩⟩
theorem zg_tp {k : Nat} (hc : X.calm = true) (h : ZGs X es ts) (hn : (assignEach es X.env).length = ts.length := by rfl) (hst : (assignEach es X.env).findIdx? (·.1) = none := by rfl) : ZG X (.Tuple es k pos) (.tp ts) :=
  ⟨fun pins s σ H v u Q I rv ⟨m, B, S, d, ρ, ρ', rs, rd, e, ha, k⟩ => by
    simp only [Tg.asg] at ha
    split at ha
    · rename_i ds hd
      obtain ⟨a, vs, rfl, sq, r⟩ := seqOf_ok rs rd hd
      have hl : vs.length = ts.length := by rw [← r.len]; exact (Tg.asgs_len ha).symm
      rcases sq with sq | sq
      · exact (pg_unl hc h hn hst).run pins s σ H _ u Q I rv ⟨a, vs, rfl, sq, hl, m, B, S, ds, ρ, ρ', rs, r, e, ha, fun σ' e' s' => k σ' e' s'⟩
      · exact (pg_tup hc h hn hst).run pins s σ H _ u Q I rv ⟨a, vs, rfl, sq, hl, m, B, S, ds, ρ, ρ', rs, r, e, ha, fun σ' e' s' => k σ' e' s'⟩
    · cases ha⟩
end
/-- target = value -/
def sAsg (tg : Tg) (a : DE) : DS := fun ρ S => (a ρ S).to ρ fun d S1 => match Tg.asg S1 tg d ρ with
  | some ρ' => .nx ρ' S1
  | none => .bad
/-- x = value -/
def sSet (i : Nat) (a : DE) : DS := fun ρ S => (a ρ S).to ρ fun d S1 => .nx (ρ.set i (some d)) S1
section
variable {X : Cx} {pos : Pos} {e tg : Expr} {t : Tg} {de : DE}
theorem zs_asg (he : ZE X e de) (hg : ZG X tg t) (hs : swapsWithSole [tg] e pos.line X.env = pure false := by rfl) (hw : swappedStores [tg] e X.env = pure none := by rfl) (ha : (assignEach [tg] X.env).map (·.2) = [assign tg X.env] := by rfl) : ZS X (.Assign [tg] e pos) (sAsg t de) := fun W tk => ps_weak (ps_asg (he W tk) hg hs hw ha) fun E σ H ⟨m, B, ρ, S, rs, e, p⟩ =>
  tE.takeS rs e p fun d S1 m1 H1 v g1 r1 e1 rd p1 => by
    cases ha : Tg.asg S1 t d ρ with
    | none => rw [ha] at p1; exact p1.elim
    | some ρ' =>
      rw [ha] at p1
      exact ⟨m1, B, S1, d, ρ, ρ', r1, rd, e1, ha, fun σ' e' _ => p1 m1 H1 σ' (.refl _ _) r1 e'⟩
theorem zs_set {i : Nat} {x : Str} {pos' : Pos} (hN : X.N.Nodup) (he : ZE X e de) (hi : X.N[i]? = some x := by rfl) (hx : Loc X.env.scope x := by first | exact Or.inl rfl | exact Or.inr rfl) (hs : swapsWith e (some (.Name x pos')) pos.line X.env = pure false := by rfl)
    (hf : X.fn x = true ∨ X.env.scope.names.lookup x = some .local := by first | exact .inl rfl | exact .inr rfl | assumption) : ZS X (.Assign [.Name x pos'] e pos) (sSet i de) := fun W tk => ps_weak (ps_set hN hi hx (he W tk) hs hf) fun E σ H ⟨m, B, ρ, S, rs, e, p⟩ =>
  tE.takeS rs e p fun d S1 m1 H1 v g1 r1 e1 rd p1 => p1 m1 H1 _ (.refl _ _) r1 (e1.set i rd)
/-- a, b = e1, e2 -/
def sPar (i j : Nat) (a b : DE) : DS := fun ρ S => (a ρ S).to ρ fun d S1 => (b ρ S1).to ρ fun e S2 => .nx ((ρ.set i (some d)).set j (some e)) S2
end
end Z
namespace Z
open PySem L2

/-! ### while -/
def whileI (t : DT) (b : DS) : Nat → DS
  | 0 => fun _ _ => .bad
  | n + 1 => fun ρ S => (t ρ S).to ρ fun k S1 => if k = true then match b ρ S1 with
    | .nx ρ' S' => whileI t b n ρ' S'
    | .ct ρ' S' => whileI t b n ρ' S'
    | .bk ρ' S' => .nx ρ' S'
    | r => r else .nx ρ S1
section
variable {X : Cx} {pos : Pos} {c : Expr} {body : List Stmt} {dt : DT} {db : DS}
theorem zs_while (n : Nat) (hp : PassesOwn (model X.prog X.w) X.A X.env X.xe) (hc : ZT X c dt) (hb : ZB X body db) : ZS X (.While c body [] pos) (whileI dt db n) := fun W tk => ps_weak (ps_while hp (hc W tk) (hb W tk)) fun E σ H ⟨m, B, ρ, S, rs, e, p⟩ => by
  refine ⟨fun n σ H => ∃ m B ρ S, RS X.K m B H S ∧ REs X.K m B H ρ σ ∧ PostS X.K m B H W E (whileI dt db n ρ S), ⟨n, m, B, ρ, S, rs, e, p⟩, ?_⟩
  rintro n σ H ⟨m, B, ρ, S, rs, e, p⟩
  cases n with
  | zero => exact (show False from p).elim
  | succ n =>
    refine tTe.takeS rs e p fun k S1 m1 H1 g1 r1 e1 p1 => ?_
    cases k with
    | false => exact p1 m1 H1 σ (.refl _ _) r1 e1
    | true =>
      refine ⟨fun σ H => ∃ m B ρ S, RS X.K m B H S ∧ REs X.K m B H ρ σ ∧ PostS X.K m B H W E (whileI dt db n ρ S), fun σ' H' h => ⟨n, Nat.lt_succ_self _, h⟩, m1, B, ρ, S1, r1, e1, ?_⟩
      have p2 : PostS X.K m1 B H1 W E (match db ρ S1 with
        | .nx ρ' S' => whileI dt db n ρ' S'
        | .ct ρ' S' => whileI dt db n ρ' S'
        | .bk ρ' S' => .nx ρ' S'
        | r => r) := p1
      cases hd : db ρ S1 with
      | nx ρ' S' => rw [hd] at p2; exact fun m2 H2 σ2 g2 r2 e2 => ⟨m2, B, ρ', S', r2, e2, PostS.ge p2 g2⟩
      | ct ρ' S' => rw [hd] at p2; exact fun m2 H2 σ2 g2 r2 e2 => ⟨m2, B, ρ', S', r2, e2, PostS.ge p2 g2⟩
      | bk ρ' S' => rw [hd] at p2; exact p2
      | rt d S' => rw [hd] at p2; exact p2
      | exc ρ' c d S' => rw [hd] at p2; exact p2
      | bad => rw [hd] at p2; exact p2
end

/-! ### what is walked -/
/-- J gives ds, one behind another, as long as the store is so -/
structure JY (K : PySem.W.Frag) (J : It) (m0 B0 : List Addr) (H0 : Hp) (ds : List D) (chk : Sto → Prop) : Prop where
  go : ∀ (i : Nat) m B H S, Tr m0 B0 H0 m B H → RS K m B H S → chk S → i < ds.length → J.go i H
  yl : ∀ (i : Nat) m B H S x H' d, Tr m0 B0 H0 m B H → RS K m B H S → chk S → ds[i]? = some d → J.yld i H x H' → (∀ b o, H b = some o → H' b = some o) ∧ RD K m B H' d x
  st : ∀ (i : Nat) m B H S, Tr m0 B0 H0 m B H → RS K m B H S → chk S → ds.length ≤ i → J.stop i H
abbrev DI := Env → Sto → R (List D × (Sto → Prop))
def tI (W : WX) (K : PySem.W.Frag) (den : DI) : TI := fun σ H Q => ∃ m B ρ S, RS K m B H S ∧ REs K m B H ρ σ ∧ Post K m B H (fun c x H' => W c x σ H') (fun p S' m' H' => p.2 S' → ∀ J, JY K J m' B H' p.1 p.2 → Q J H') (den ρ S)
def ZI (X : Cx) (tg iter : Expr) (den : DI) : Prop := ∀ W, Takes X W → PI X tg iter (tI W X.K den)
theorem Tr.refl {m B : List Addr} {H : Hp} : Tr m B H m B H := ⟨fun _ _ h => h, fun _ _ h1 h2 h3 _ => ⟨h1, h2, h3⟩⟩
theorem Tr.trans {m m1 m2 B B1 B2 : List Addr} {H H1 H2 : Hp} (a : Tr m B H m1 B1 H1) (b : Tr m1 B1 H1 m2 B2 H2) : Tr m B H m2 B2 H2 :=
  ⟨fun n x h => b.at_ n x (a.at_ n x h), fun x u h1 h2 h3 h4 => by
    obtain ⟨q1, q2, q3⟩ := a.rd x u h1 h2 h3 h4
    exact b.rd x u q1 q2 q3 h4⟩
section
variable {K : PySem.W.Frag} {m0 B0 : List Addr} {H0 : Hp} {ds : List D}
theorem jy_list {a : Addr} {vs : List V} (hs : FL K m0 B0 H0 a vs) (r : RDs K m0 B0 H0 ds vs) : JY K (Itl K a) m0 B0 H0 ds fun _ => True where
  go := fun i m B H S t rs _ hi => by
    have q := (hs.mono t).sq
    exact ⟨vs, vs[i]'(by rw [← r.len]; exact hi), q, by simp [show i < vs.length by rw [← r.len]; exact hi]⟩
  yl := fun i m B H S x H' d t rs _ hd y => by
    obtain ⟨rfl, y⟩ := y
    refine ⟨fun _ _ h => h, ?_⟩
    obtain ⟨v, hv, rv⟩ := (RDs.mono t _ _ r).get hd
    have := y vs (hs.mono t).sq
    rw [hv] at this
    cases this
    exact rv
  st := fun i m B H S t rs _ hi => ⟨vs, (hs.mono t).sq, by rw [← r.len]; exact hi⟩
theorem jy_tup {a : Addr} {vs : List V} (hs : FT K m0 B0 H0 a vs) (r : RDs K m0 B0 H0 ds vs) : JY K (Itt K a) m0 B0 H0 ds fun _ => True where
  go := fun i m B H S t rs _ hi => by
    have q := (hs.mono t).sq
    exact ⟨vs, vs[i]'(by rw [← r.len]; exact hi), q, by simp [show i < vs.length by rw [← r.len]; exact hi]⟩
  yl := fun i m B H S x H' d t rs _ hd y => by
    obtain ⟨rfl, y⟩ := y
    refine ⟨fun _ _ h => h, ?_⟩
    obtain ⟨v, hv, rv⟩ := (RDs.mono t _ _ r).get hd
    have := y vs (hs.mono t).sq
    rw [hv] at this
    cases this
    exact rv
  st := fun i m B H S t rs _ hi => ⟨vs, (hs.mono t).sq, by rw [← r.len]; exact hi⟩
theorem jy_ref {n : Nat} {a : Addr} (hn : m0[n]? = some a) : JY K (Itl K a) m0 B0 H0 ds fun S => S[n]? = some (.lst ds) where
  go := fun i m B H S t rs hc hi => by
    obtain ⟨vs, ea, r⟩ := rs.ob n a _ (t.at_ _ _ hn) hc
    exact ⟨vs, vs[i]'(by rw [← r.len]; exact hi), SqL.of ea, by simp [show i < vs.length by rw [← r.len]; exact hi]⟩
  yl := fun i m B H S x H' d t rs hc hd y => by
    obtain ⟨rfl, y⟩ := y
    refine ⟨fun _ _ h => h, ?_⟩
    obtain ⟨vs, ea, r⟩ := rs.ob n a _ (t.at_ _ _ hn) hc
    obtain ⟨v, hv, rv⟩ := r.get hd
    have := y vs (SqL.of ea)
    rw [hv] at this
    cases this
    exact rv
  st := fun i m B H S t rs hc hi => by
    obtain ⟨vs, ea, r⟩ := rs.ob n a _ (t.at_ _ _ hn) hc
    exact ⟨vs, SqL.of ea, by rw [← r.len]; exact hi⟩
def iRow (lo : Int) (n : Nat) : List D := (List.range n).map fun i => .int (lo + (i : Nat))
theorem iRow_len (lo : Int) (n : Nat) : (iRow lo n).length = n := by simp [iRow]
theorem iRow_get (lo : Int) (n i : Nat) (h : i < n) : (iRow lo n)[i]? = some (.int (lo + (i : Nat))) := by simp [iRow, h]
theorem jy_range {lo : Int} {n : Nat} : JY K (Itr lo n) m0 B0 H0 (iRow lo n) fun _ => True where
  go := fun i m B H S t rs _ hi => by rw [iRow_len] at hi; exact hi
  yl := fun i m B H S x H' d t rs _ hd y => by
    obtain ⟨rfl, rfl⟩ := y
    refine ⟨fun _ _ h => h, ?_⟩
    have hi := (List.getElem?_eq_some_iff.mp hd).1
    rw [iRow_len] at hi
    rw [iRow_get lo n i hi] at hd
    cases hd
    exact RDi _
  st := fun i m B H S t rs _ hi => by rw [iRow_len] at hi; exact hi
/-- the signs of a text -/
def signs (s : Str) : List D := s.cps.toList.map fun c => .str ⟨#[c]⟩
theorem jy_str {s : Str} : JY K (Its s) m0 B0 H0 (signs s) fun _ => True where
  go := fun i m B H S t rs _ hi => by simp [signs] at hi; exact hi
  yl := fun i m B H S x H' d t rs _ hd y => by
    obtain ⟨rfl, c, hc, rfl⟩ := y
    refine ⟨fun _ _ h => h, ?_⟩
    simp [signs] at hd
    obtain ⟨c', hc', rfl⟩ := hd
    rw [hc] at hc'
    cases hc'
    exact RDst _
  st := fun i m B H S t rs _ hi => by simp [signs] at hi; exact hi
end
/-- over a list, a tuple, a text -/
def iSeq (a : DE) : DI := fun ρ S => (a ρ S).bind fun d S1 => match d with
  | .tup ds => .ok (ds, fun _ => True) S1
  | .lst ds => .ok (ds, fun _ => True) S1
  | .scr ds => .ok (ds, fun _ => True) S1
  | .str s => .ok (signs s, fun _ => True) S1
  | .ref n => match S1[n]? with
    | some (.lst ds) => .ok (ds, fun S' => S'[n]? = some (.lst ds)) S1
    | _ => .bad
  | _ => .bad
/-- range(n), range(a, b) -/
def rgOk (i : Int) : Bool := Nat.blt i.natAbs 4611686018427387904
def iR1 (a : DE) : DI := fun ρ S => (a ρ S).bind fun d S1 => match d with
  | .int n => if rgOk n = true then .ok (iRow 0 n.toNat, fun _ => True) S1 else .bad
  | _ => .bad
def iR2 (a b : DE) : DI := fun ρ S => (a ρ S).bind fun d S1 => (b ρ S1).bind fun e S2 => match d, e with
  | .int i, .int j => if rgOk i = true ∧ rgOk j = true then .ok (iRow i (j - i).toNat, fun _ => True) S2 else .bad
  | _, _ => .bad
theorem rgOk_ok {i : Int} (h : rgOk i = true) : -(2 ^ 62) ≤ i ∧ i < 2 ^ 62 := by
  have q : i.natAbs < 4611686018427387904 := Nat.blt_eq.mp h
  omega
def fR1 : List D → Sto → R (List D × (Sto → Prop))
  | [.int n], S1 => if rgOk n = true then .ok (iRow 0 n.toNat, fun _ => True) S1 else .bad
  | _, _ => .bad
def fR2 : List D → Sto → R (List D × (Sto → Prop))
  | [.int i, .int j], S1 => if rgOk i = true ∧ rgOk j = true then .ok (iRow i (j - i).toNat, fun _ => True) S1 else .bad
  | _, _ => .bad
section
variable {X : Cx} {tg e e2 : Expr} {da db : DE} {p pos : Pos}
theorem zi_seq (h : ZE X e da) : ZI X tg e (iSeq da) := fun W tk => ⟨fun pins s σ H Q I ⟨m, B, ρ, S, rs, e, p⟩ => by
  have key : ∀ {te : TE}, True := fun {_} => trivial
  unfold iSeq at p
  cases hd : da ρ S with
  | ok d S1 =>
    rw [hd] at p
    simp only [R.bind_ok] at p
    have ev : ∀ {Q' : VK}, (∀ m1 H1 v, Ge m H m1 H1 → RS X.K m1 B H1 S1 → RD X.K m1 B H1 d v → Q' v H1) → tE W X.K da σ H Q' := fun {Q'} k => ⟨m, B, ρ, S, rs, e, by rw [hd]; exact fun m1 H1 g1 r1 v rv => k m1 H1 v g1 r1 rv⟩
    cases d <;> try exact p.elim
    · rename_i s'
      refine (pi_str (tg := tg) (h W tk)).run pins s σ H Q I (ev fun m1 H1 v g1 r1 rv => ?_)
      unfold RD at rv
      exact ⟨s', rv, p m1 H1 g1 r1 trivial _ jy_str⟩
    · rename_i ds
      refine (pi_tup (tg := tg) (h W tk)).run pins s σ H Q I (ev fun m1 H1 v g1 r1 rv => ?_)
      unfold RD at rv
      obtain ⟨a, vs, rfl, f, r⟩ := rv
      exact ⟨a, rfl, ⟨vs, f.sq⟩, p m1 H1 g1 r1 trivial _ (jy_tup f r)⟩
    · rename_i ds
      refine (pi_list (tg := tg) (h W tk)).run pins s σ H Q I (ev fun m1 H1 v g1 r1 rv => ?_)
      unfold RD at rv
      obtain ⟨a, vs, rfl, f, r⟩ := rv
      exact ⟨a, rfl, ⟨vs, f.sq⟩, p m1 H1 g1 r1 trivial _ (jy_list f.fl r)⟩
    · rename_i ds
      refine (pi_list (tg := tg) (h W tk)).run pins s σ H Q I (ev fun m1 H1 v g1 r1 rv => ?_)
      unfold RD at rv
      obtain ⟨a, vs, rfl, f, r⟩ := rv
      exact ⟨a, rfl, ⟨vs, f.sq⟩, p m1 H1 g1 r1 trivial _ (jy_list f r)⟩
    · rename_i n
      simp only at p
      split at p
      · rename_i ds hn
        refine (pi_list (tg := tg) (h W tk)).run pins s σ H Q I (ev fun m1 H1 v g1 r1 rv => ?_)
        unfold RD at rv
        obtain ⟨a, rfl, q⟩ := rv
        obtain ⟨vs, ea, r⟩ := r1.ob n a _ q hn
        exact ⟨a, rfl, ⟨vs, SqL.of ea⟩, p m1 H1 g1 r1 hn _ (jy_ref q)⟩
      · exact p.elim
  | exc c d S1 =>
    rw [hd] at p
    refine (pi_tup (tg := tg) (h W tk)).run pins s σ H Q I ⟨m, B, ρ, S, rs, e, by rw [hd]; exact p⟩
  | bad => rw [hd] at p; exact p.elim⟩
theorem zi_r1 (hm : X.mg "range" = none) (ha : ZA X [e] (aC da aN)) (hg : Gl X "range" := by rfl) (hs : starEach [e] X.env = [(false, eval e X.env)] := by rfl) : ZI X tg (.Call (.Name "range" p) [e] [] pos) (iR1 da) := fun W tk => pi_weak (pi_range1 hg hm (ha W tk) hs) fun σ H Q ⟨m, B, ρ, S, rs, e, p⟩ => by
  have p' : Post X.K m B H (fun c x H' => W c x σ H') (fun p S' m' H' => p.2 S' → ∀ J, JY X.K J m' B H' p.1 p.2 → Q J H') ((aC da aN ρ S).bind fR1) := by
    unfold iR1 at p
    unfold aC aN
    cases hd : da ρ S with
    | ok d S1 => rw [hd] at p; cases d <;> exact p
    | exc c d S1 => rw [hd] at p; exact p
    | bad => rw [hd] at p; exact p
  refine tAr.take rs e p' fun ds S1 m1 H1 vs g1 r1 e1 rds p1 => ?_
  unfold fR1 at p1
  split at p1
  · rename_i n
    split at p1
    · rename_i hn
      obtain ⟨v, rfl, rv⟩ := rds.one
      unfold RD at rv
      subst rv
      exact ⟨n, rfl, (rgOk_ok hn).1, (rgOk_ok hn).2, (p1.now r1) trivial _ jy_range⟩
    · exact p1.elim
  · exact p1.elim
theorem zi_r2 (hm : X.mg "range" = none) (ha : ZA X [e, e2] (aC da (aC db aN))) (hg : Gl X "range" := by rfl) (hs : starEach [e, e2] X.env = [(false, eval e X.env), (false, eval e2 X.env)] := by rfl) (hs2 : starEach [e2] X.env = [(false, eval e2 X.env)] := by rfl) : ZI X tg (.Call (.Name "range" p) [e, e2] [] pos) (iR2 da db) := fun W tk => pi_weak (pi_range2 hg hm (ha W tk) hs hs2) fun σ H Q ⟨m, B, ρ, S, rs, e, p⟩ => by
  have p' : Post X.K m B H (fun c x H' => W c x σ H') (fun p S' m' H' => p.2 S' → ∀ J, JY X.K J m' B H' p.1 p.2 → Q J H') ((aC da (aC db aN) ρ S).bind fR2) := by
    unfold iR2 at p
    unfold aC aN
    cases hd : da ρ S with
    | ok d S1 =>
      rw [hd] at p
      simp only [R.bind_ok] at p ⊢
      cases he : db ρ S1 with
      | ok d2 S2 => rw [he] at p; cases d <;> cases d2 <;> exact p
      | exc c d S1 => rw [he] at p; exact p
      | bad => rw [he] at p; exact p
    | exc c d S1 => rw [hd] at p; exact p
    | bad => rw [hd] at p; exact p
  refine tAr.take rs e p' fun ds S1 m1 H1 vs g1 r1 e1 rds p1 => ?_
  unfold fR2 at p1
  split at p1
  · rename_i i j
    split at p1
    · rename_i hn
      obtain ⟨v, w, rfl, rv, rw'⟩ := rds.two
      unfold RD at rv rw'
      subst rv rw'
      exact ⟨i, j, rfl, ⟨(rgOk_ok hn.1).1, (rgOk_ok hn.1).2, (rgOk_ok hn.2).1, (rgOk_ok hn.2).2⟩, (p1.now r1) trivial _ jy_range⟩
    · exact p1.elim
  · exact p1.elim
end

/-! ### for -/
open Classical in
noncomputable def forI (tg : Tg) (b : DS) (chk : Sto → Prop) : List D → DS
  | [] => fun ρ S => .nx ρ S
  | d :: ds => fun ρ S => match Tg.asg S tg d ρ with
    | none => .bad
    | some ρ1 => match b ρ1 S with
      | .nx ρ' S' => if chk S' then forI tg b chk ds ρ' S' else .bad
      | .ct ρ' S' => if chk S' then forI tg b chk ds ρ' S' else .bad
      | .bk ρ' S' => .nx ρ' S'
      | r => r
noncomputable def sFor (tg : Tg) (i : DI) (b : DS) : DS := fun ρ S => (i ρ S).to ρ fun p S1 => forI tg b p.2 p.1 ρ S1
section
open Classical
variable {X : Cx} {pos : Pos} {t iter : Expr} {body : List Stmt} {tg : Tg} {di : DI} {db : DS}
theorem zs_for (hp : PassesOwn (model X.prog X.w) X.A X.env X.xe) (hc : X.calm = true) (hi : ZI X t iter di) (hg : ZG X t tg) (hb : ZB X body db) (hs : ∀ x, foldedSetIterable iter X.env x = pure x := by intro _; rfl) : ZS X (.For t iter body [] pos) (sFor tg di db) := fun W tk =>
  ps_weak (ps_for hp hc (hi W tk) hg (hb W tk) hs) fun E σ H ⟨m, B, ρ, S, rs, e, p⟩ => by
    unfold sFor at p
    cases hd : di ρ S with
    | ok q S1 =>
      rw [hd] at p
      have p : PostS X.K m B H W E (forI tg db q.2 q.1 ρ S1) := p
      refine ⟨m, B, ρ, S, rs, e, ?_⟩
      rw [hd]
      refine fun m1 H1 g1 r1 hc0 J jy => ?_
      refine ⟨fun i k σ H => k = q.1.length - i ∧ i ≤ q.1.length ∧ ∃ m ρ S, Ge m1 H1 m H ∧ RS X.K m B H S ∧ q.2 S ∧ REs X.K m B H ρ σ ∧ PostS X.K m B H W E (forI tg db q.2 (q.1.drop i) ρ S),
        ⟨_, rfl, Nat.zero_le _, m1, ρ, S1, .refl _ _, r1, hc0, e.mono g1.tr, PostS.ge p g1⟩, ?_⟩
      rintro i k σ2 H2 ⟨rfl, hi, m2, ρ2, S2, g2, r2, hc2, e2, p2⟩
      by_cases hlt : i < q.1.length
      · refine .inr ⟨jy.go i m2 B H2 S2 g2.tr r2 hc2 hlt, fun σ H => i + 1 ≤ q.1.length ∧ ∃ m ρ S, Ge m1 H1 m H ∧ RS X.K m B H S ∧ q.2 S ∧ REs X.K m B H ρ σ ∧ PostS X.K m B H W E (forI tg db q.2 (q.1.drop (i + 1)) ρ S),
          fun σ' H' h => ⟨q.1.length - (i + 1), by omega, rfl, h⟩, fun x H3 y => ?_⟩
        rw [List.drop_eq_getElem_cons hlt] at p2
        obtain ⟨ext, rx⟩ := jy.yl i m2 B H2 S2 x H3 q.1[i] g2.tr r2 hc2 (by simp [hlt]) y
        obtain ⟨g3, r3⟩ := r2.ext ext
        have p3 := PostS.ge p2 g3
        unfold forI at p3
        cases ha : Tg.asg S2 tg q.1[i] ρ2 with
        | none => rw [ha] at p3; exact p3.elim
        | some ρ3 =>
          rw [ha] at p3
          simp only at p3
          refine ⟨m2, B, S2, _, ρ2, ρ3, r3, rx, e2.mono g3.tr, ha, fun σ3 e3 _ => ⟨m2, B, ρ3, S2, r3, e3, ?_⟩⟩
          have again : ∀ {ρ' : Env} {S' : Sto}, PostS X.K m2 B H3 W E (if q.2 S' then forI tg db q.2 (q.1.drop (i + 1)) ρ' S' else .bad) → ∀ m' H' σ', Ge m2 H3 m' H' → RS X.K m' B H' S' → REs X.K m' B H' ρ' σ' →
              i + 1 ≤ q.1.length ∧ ∃ m ρ S, Ge m1 H1 m H' ∧ RS X.K m B H' S ∧ q.2 S ∧ REs X.K m B H' ρ σ' ∧ PostS X.K m B H' W E (forI tg db q.2 (q.1.drop (i + 1)) ρ S) := fun {ρ' S'} p4 m' H' σ' g' r' e' => by
            split at p4
            · rename_i hc4
              exact ⟨hlt, m', ρ', S', (g2.trans g3).trans g', r', hc4, e', PostS.ge p4 g'⟩
            · exact p4.elim
          cases hb' : db ρ3 S2 with
          | nx ρ' S' => rw [hb'] at p3; exact again p3
          | ct ρ' S' => rw [hb'] at p3; exact again p3
          | bk ρ' S' => rw [hb'] at p3; exact p3
          | rt d S' => rw [hb'] at p3; exact p3
          | exc ρ' c d S' => rw [hb'] at p3; exact p3
          | bad => rw [hb'] at p3; exact p3
      · have e' : i = q.1.length := by omega
        subst e'
        rw [List.drop_length] at p2
        exact .inl ⟨jy.st _ m2 B H2 S2 g2.tr r2 hc2 (Nat.le_refl _), p2 m2 H2 σ2 (.refl _ _) r2 e2⟩
    | exc c d S1 =>
      rw [hd] at p
      refine ⟨m, B, ρ, S, rs, e, ?_⟩
      rw [hd]
      exact fun m1 H1 x v g1 r1 hx rv => p m1 H1 σ x v g1 r1 (e.mono g1.tr) hx rv
    | bad => rw [hd] at p; exact p.elim
end
end Z
namespace Z
open PySem L2

/-! ### list comprehensions -/
/-- nothing may be raised within -/
def R.safe {α : Type} (r : R α) : R α := match r with
  | .ok a S => .ok a S
  | _ => .bad
@[simp] theorem R.safe_ok {α : Type} (a : α) (S : Sto) : (R.ok a S).safe = .ok a S := rfl
open Classical in
/-- the items that the turns give -/
noncomputable def lcI (tg : Tg) (chk : Sto → Prop) (t : DT) (e : DE) (ρ0 : Env) : List D → Sto → R (List D)
  | [], S => .ok [] S
  | d :: ds, S => match Tg.asg S tg d ρ0 with
    | none => .bad
    | some ρ1 => (t ρ1 S).safe.bind fun k S1 => if k = true then (e ρ1 S1).safe.bind fun y S2 => if chk S2 then (lcI tg chk t e ρ0 ds S2).bind fun ys S3 => .ok (y :: ys) S3 else .bad
      else if chk S1 then lcI tg chk t e ρ0 ds S1 else .bad
noncomputable def lLc (tg : Tg) (i : DI) (t : DT) (e : DE) (vs : List Nat) : DA := fun ρ S => (i ρ S).bind fun p S1 => if p.1.length ≤ 16777216 then lcI tg p.2 t e (wipeD ρ vs) p.1 S1 else .bad
def tYes : DT := fun _ S => .ok true S
def ZTs (X : Cx) (ifs : List Expr) (den : DT) : Prop := ∀ W, Takes X W → PTs X ifs (tTe W X.K den)
theorem pts_weak {X : Cx} {e : List Expr} {t t' : TT} (h : PTs X e t) (i : ∀ σ H Q, t' σ H Q → t σ H Q) : PTs X e t' := ⟨fun pins s σ H Q I q => h.run pins s σ H Q I (i σ H Q q)⟩
abbrev WF : WX := fun _ _ _ _ => False
theorem zts_nil {X : Cx} : ZTs X [] tYes := fun W tk => pts_weak pts_nil fun σ H Q ⟨m, B, ρ, S, rs, e, p⟩ => p.now rs
theorem zts_one {X : Cx} {c : Expr} {dt : DT} (h : ZT X c dt) : ZTs X [c] dt := fun W tk => pts_one (h W tk)
theorem Post.safe {α : Type} {K : PySem.W.Frag} {m B : List Addr} {H : Hp} {W W' : Value → Option Addr → Hp → Prop} {P : α → Sto → List Addr → Hp → Prop} {r : R α} (h : Post K m B H W P r.safe) : Post K m B H W' P r := by
  cases r with
  | ok a S => exact h
  | exc c d S => exact (show False from h).elim
  | bad => exact h
def PostLF (K : PySem.W.Frag) (m B : List Addr) (H : Hp) (Q : VK) : R (List D) → Prop
  | .ok ds S' => ∀ m' H' p vs, Ge m H m' H' → RS K m' (p :: B) H' S' → p ∉ B → Nw H p → H' p = some (.lst vs) → RDs K m' (p :: B) H' ds vs → Q (.ref p) H'
  | _ => False
theorem lcI_noexc {tg : Tg} {chk : Sto → Prop} {t : DT} {e : DE} {ρ0 : Env} : ∀ (ds : List D) (S : Sto), ∀ c d S', lcI tg chk t e ρ0 ds S ≠ .exc c d S'
  | [], S, c, d, S', h => by simp [lcI] at h
  | x :: ds, S, c, d, S', h => by
    unfold lcI at h
    split at h
    · cases h
    · rename_i ρ1 ha
      cases ht : t ρ1 S with
      | ok k S1 =>
        rw [ht] at h
        simp only [R.safe_ok, R.bind_ok] at h
        cases k with
        | true =>
          rw [if_pos rfl] at h
          cases he : e ρ1 S1 with
          | ok y S2 =>
            rw [he] at h
            simp only [R.safe_ok, R.bind_ok] at h
            split at h
            · cases hr : lcI tg chk t e ρ0 ds S2 with
              | ok ys S3 => rw [hr] at h; cases h
              | exc c' d' S3 => exact lcI_noexc ds S2 _ _ _ hr
              | bad => rw [hr] at h; cases h
            · cases h
          | exc _ _ _ => rw [he] at h; cases h
          | bad => rw [he] at h; cases h
        | false =>
          rw [if_neg Bool.false_ne_true] at h
          split at h
          · exact lcI_noexc ds S1 _ _ _ h
          · cases h
      | exc _ _ _ => rw [ht] at h; cases h
      | bad => rw [ht] at h; cases h
theorem lcI_len {tg : Tg} {chk : Sto → Prop} {t : DT} {e : DE} {ρ0 : Env} : ∀ (ds : List D) (S : Sto) ys S', lcI tg chk t e ρ0 ds S = .ok ys S' → ys.length ≤ ds.length
  | [], S, ys, S', h => by simp [lcI] at h; simp [h.1.symm]
  | x :: ds, S, ys, S', h => by
    unfold lcI at h
    split at h
    · cases h
    · rename_i ρ1 ha
      cases ht : t ρ1 S with
      | ok k S1 =>
        rw [ht] at h
        simp only [R.safe_ok, R.bind_ok] at h
        cases k with
        | true =>
          rw [if_pos rfl] at h
          cases he : e ρ1 S1 with
          | ok y S2 =>
            rw [he] at h
            simp only [R.safe_ok, R.bind_ok] at h
            split at h
            · cases hr : lcI tg chk t e ρ0 ds S2 with
              | ok ys' S3 =>
                rw [hr] at h
                have h' : R.ok (y :: ys') S3 = R.ok ys S' := h
                cases h'
                have := lcI_len ds S2 ys' _ hr
                simp only [List.length_cons]
                omega
              | exc _ _ _ => rw [hr] at h; cases h
              | bad => rw [hr] at h; cases h
            · cases h
          | exc _ _ _ => rw [he] at h; cases h
          | bad => rw [he] at h; cases h
        | false =>
          rw [if_neg Bool.false_ne_true] at h
          split at h
          · have := lcI_len ds S1 ys _ h
            simp only [List.length_cons]
            omega
          · cases h
      | exc _ _ _ => rw [ht] at h; cases h
      | bad => rw [ht] at h; cases h
/-- the walk of a comprehension's loop -/
theorem lc_core2 {K : PySem.W.Frag} {tg : Tg} {dt : DT} {de : DE} {vs : List Nat} {ρ : Env} {σ : L2.St} {J : It} {ds : List D} {chk : Sto → Prop} {m0 B : List Addr} {H0 : Hp} {S0 : Sto} {Q : VK} (rs : RS K m0 B H0 S0) (e : REs K m0 B H0 ρ σ) (hc : chk S0) (jy : JY K J m0 B H0 ds chk) (hix : ∀ i ∈ tg.ix, i ∈ vs)
    (hz : ds.length ≤ 16777216) (p : PostLF K m0 B H0 Q (lcI tg chk dt de (wipeD ρ vs) ds S0)) : ∀ Dl, H0 Dl = none → ∃ W : Nat → Nat → Hp → Prop, (∃ m, W 0 m (upd H0 Dl (.lst []))) ∧ ∀ i m H, W i m H →
      (J.stop i H ∧ Q (.ref Dl) H) ∨ (J.go i H ∧ ∃ Nx : Hp → Prop, (∀ H', Nx H' → ∃ m', m' < m ∧ W (i + 1) m' H') ∧ ∀ x H', J.yld i H x H' → gT K tg x (wipe σ vs) H' fun σ2 H2 => wipe σ2 vs = wipe σ vs ∧ tTe WF K dt σ2 H2 fun b H3 =>
        if b = true then tE WF K de σ2 H3 fun y H4 => ∃ acc, H4 Dl = some (.lst acc) ∧ acc.length < sizeLine ∧ Nx (upd H4 Dl (.lst (acc ++ [y]))) else Nx H3) := by
  intro Dl hD
  have hDm : Dl ∉ m0 := rs.notin hD
  have hDB : Dl ∉ B := rs.notB hD
  -- the state at turn i
  let St := fun (i : Nat) (H : Hp) => i ≤ ds.length ∧ ∃ m S acc va, Ge m0 H0 m H ∧ Tr m0 B H0 m (Dl :: B) H ∧ RS K m (Dl :: B) H S ∧ chk S ∧ H Dl = some (.lst va) ∧ RDs K m (Dl :: B) H acc va ∧ acc.length ≤ i ∧
    PostLF K m0 B H0 Q ((lcI tg chk dt de (wipeD ρ vs) (ds.drop i) S).bind fun ys S' => .ok (acc ++ ys) S')
  refine ⟨fun i k H => k = ds.length - i ∧ St i H, ⟨_, rfl, Nat.zero_le _, m0, S0, [], [], (rs.new hD).1, Tr.ban hD, rs.ban hD, hc, upd_same, RDs.nil, Nat.le_refl _, ?_⟩, ?_⟩
  · show PostLF K m0 B H0 Q ((lcI tg chk dt de (wipeD ρ vs) ds S0).bind fun ys S' => .ok ys S')
    cases h : lcI tg chk dt de (wipeD ρ vs) ds S0 with
    | ok ys S' => rw [h] at p; exact p
    | exc c d S' => rw [h] at p; exact p
    | bad => rw [h] at p; exact p
  · rintro i k H ⟨rfl, hi, m, S, acc, va, g, tr, r, hch, hl, ra, hla, p2⟩
    by_cases hlt : i < ds.length
    · refine .inr ⟨jy.go i m (Dl :: B) H S tr r hch hlt, St (i + 1), fun H' h => ⟨ds.length - (i + 1), by omega, rfl, h⟩, fun x H3 y => ?_⟩
      obtain ⟨ext, rx⟩ := jy.yl i m (Dl :: B) H S x H3 ds[i] tr r hch (by simp [hlt]) y
      obtain ⟨g3, r3⟩ := r.ext ext
      rw [List.drop_eq_getElem_cons hlt] at p2
      unfold lcI at p2
      have ew : REs K m (Dl :: B) H3 (wipeD ρ vs) (wipe σ vs) := (e.mono (tr.trans g3.tr)).wipe vs
      cases ha : Tg.asg S tg ds[i] (wipeD ρ vs) with
      | none => rw [ha] at p2; exact (show False from p2).elim
      | some ρ1 =>
        rw [ha] at p2
        simp only at p2
        refine ⟨m, Dl :: B, S, _, wipeD ρ vs, ρ1, r3, rx, ew, ha, fun σ2 e2 sam => ⟨by rw [sam vs hix, wipe_wipe], m, Dl :: B, ρ1, S, r3, e2, ?_⟩⟩
        cases ht : dt ρ1 S with
        | exc _ _ _ => rw [ht] at p2; exact (show False from p2).elim
        | bad => rw [ht] at p2; exact (show False from p2).elim
        | ok b S1 =>
          rw [ht] at p2
          simp only [R.safe_ok, R.bind_ok] at p2
          refine fun m4 H4 g4 r4 => ?_
          have hl4 : H4 Dl = some (.lst va) := (g4.keep Dl _ (fun q => r3.dis Dl q (List.mem_cons_self ..)) (ext _ _ hl) (fun ps e => by cases e)).2
          have ra4 := RDs.mono (g3.tr.trans g4.tr) _ _ ra
          cases b with
          | false =>
            rw [if_neg Bool.false_ne_true] at p2
            show St (i + 1) H4
            split at p2
            · rename_i hc1
              exact ⟨hlt, m4, S1, acc, va, (g.trans g3).trans g4, (tr.trans g3.tr).trans g4.tr, r4, hc1, hl4, ra4, by omega, p2⟩
            · exact (show False from p2).elim
          | true =>
            rw [if_pos rfl] at p2
            show tE WF K de σ2 H4 _
            refine ⟨m4, Dl :: B, ρ1, S1, r4, e2.mono g4.tr, ?_⟩
            cases he : de ρ1 S1 with
            | exc _ _ _ => rw [he] at p2; exact (show False from p2).elim
            | bad => rw [he] at p2; exact (show False from p2).elim
            | ok y S2 =>
              rw [he] at p2
              simp only [R.safe_ok, R.bind_ok] at p2
              refine fun m5 H5 g5 r5 v rv => ?_
              have hl5 : H5 Dl = some (.lst va) := (g5.keep Dl _ (fun q => r4.dis Dl q (List.mem_cons_self ..)) hl4 (fun ps e => by cases e)).2
              have ra5 := RDs.mono g5.tr _ _ ra4
              split at p2
              · rename_i hc2
                refine ⟨va, hl5, ?_, hlt, m5, S2, acc ++ [y], va ++ [v], ?_, ?_, ?_, hc2, upd_same, ?_, ?_, ?_⟩
                · rw [← ra5.len, sizeLine_eq]
                  omega
                · have g6 := ((g.trans g3).trans g4).trans g5
                  exact ⟨g6.pre, fun b o hb q nt => ⟨(g6.keep b o hb q nt).1, by rw [upd_ne (ne_of_none q hD)]; exact (g6.keep b o hb q nt).2⟩⟩
                · exact (((tr.trans g3.tr).trans g4.tr).trans g5.tr).trans (Tr.chg (List.mem_cons_self ..))
                · exact r5.chg (List.mem_cons_self ..)
                · exact RDs.mono (Tr.chg (List.mem_cons_self ..)) _ _ (ra5.app (RDs.cons rv RDs.nil))
                · simp
                  omega
                · cases hr : lcI tg chk dt de (wipeD ρ vs) (ds.drop (i + 1)) S2 with
                  | ok ys S3 =>
                    rw [hr] at p2
                    simp only [R.bind_ok, List.append_assoc, List.singleton_append] at p2 ⊢
                    exact p2
                  | exc _ _ _ => rw [hr] at p2; exact (show False from p2).elim
                  | bad => rw [hr] at p2; exact (show False from p2).elim
              · exact (show False from p2).elim
    · have e' : i = ds.length := by omega
      subst e'
      rw [List.drop_length] at p2
      simp only [lcI, R.bind_ok, List.append_nil] at p2
      exact .inl ⟨jy.st _ m (Dl :: B) H S tr r hch (Nat.le_refl _), p2 m H Dl va g r hDB (nw_none hD) hl ra⟩
section
variable {X : Cx} {pos spos : Pos} {elt t iter : Expr} {ifs : List Expr} {scope : Scope} {own : List (Str × Nat)} {tg : Tg} {di : DI} {dt : DT} {de : DE}
theorem tlc_weak {K : PySem.W.Frag} {W : WX} {vs : List Nat} (hix : ∀ i ∈ tg.ix, i ∈ vs) (σ : L2.St) (H : Hp) (Q : VK) (h : tL W K (lLc tg di dt de vs) σ H Q) : tLc (tI W K di) (gT K tg) (tTe WF K dt) (tE WF K de) vs σ H Q := by
  obtain ⟨m, B, ρ, S, rs, e, p⟩ := h
  refine ⟨m, B, ρ, S, rs, e, ?_⟩
  unfold lLc at p
  cases hd : di ρ S with
  | ok q S1 =>
    rw [hd] at p
    simp only [R.bind_ok] at p
    refine fun m1 H1 g1 r1 hc J jy => ?_
    split at p
    · rename_i hz
      refine lc_core2 r1 (e.mono g1.tr) hc jy hix hz ?_
      cases h : lcI tg q.2 dt de (wipeD ρ vs) q.1 S1 with
      | ok ys S' =>
        rw [h] at p
        refine fun m2 H2 pp va g2 r2 hB h0 h2 rv => p m2 H2 pp va (g1.trans g2) r2 hB ?_ h2 rv
        exact g1.new_wasN (r2.out g2) h0
      | exc c d S' => exact absurd h (lcI_noexc _ _ _ _ _)
      | bad => rw [h] at p; exact p
    · exact (show False from p).elim
  | exc c d S1 => rw [hd] at p; exact p
  | bad => rw [hd] at p; exact p
theorem zl_lc (hc : X.calm = true) (hN : X.N.Nodup) (hi : ZI X t iter di) (ok : BlkOk X.N X.env.scope scope own) (hix : ∀ i ∈ tg.ix, i ∈ own.map (·.2))
    (hg : ∀ (s : Shared) (H : Hp) (C : Addr) (cl : List (Str × Addr)) (fp : List Addr), ZG (X.blk s H scope (compEnvC scope cl C X.env) fp) t tg) (ht : ∀ (s : Shared) (H : Hp) (C : Addr) (cl : List (Str × Addr)) (fp : List Addr), ZTs (X.blk s H scope (compEnvC scope cl C X.env) fp) ifs dt)
    (he : ∀ (s : Shared) (H : Hp) (C : Addr) (cl : List (Str × Addr)) (fp : List Addr), ZE (X.blk s H scope (compEnvC scope cl C X.env) fp) elt de) (hs : ∀ x, foldedSetIterable iter X.env x = pure x := by intro _; rfl) :
    ZL X (.ListComp elt [⟨t, iter, ifs, 0⟩] scope pos) (lLc tg di dt de (own.map (·.2))) := fun W tk =>
  pe_weak (pe_lc (g := gT X.K tg) (tt := tTe WF X.K dt) (te := tE WF X.K de) hc hN (hi W tk) ok (fun s H C cl fp => hg s H C cl fp) (fun s H C cl fp => ht s H C cl fp WF takes0) (fun s H C cl fp => he s H C cl fp WF takes0) hs) fun σ H Q h => tlc_weak hix σ H Q h
/-- y = [..], the list a value | put into the store -/
theorem zs_setLc {i : Nat} {y : Str} {py : Pos} {new : Bool} (hc : X.calm = true) (hN : X.N.Nodup) (hi : ZI X t iter di) (ok : BlkOk X.N X.env.scope scope own) (hix : ∀ i ∈ tg.ix, i ∈ own.map (·.2))
    (hg : ∀ (s : Shared) (H : Hp) (C : Addr) (cl : List (Str × Addr)) (fp : List Addr), ZG (X.blk s H scope (compEnvC scope cl C X.env) fp) t tg) (ht : ∀ (s : Shared) (H : Hp) (C : Addr) (cl : List (Str × Addr)) (fp : List Addr), ZTs (X.blk s H scope (compEnvC scope cl C X.env) fp) ifs dt)
    (he : ∀ (s : Shared) (H : Hp) (C : Addr) (cl : List (Str × Addr)) (fp : List Addr), ZE (X.blk s H scope (compEnvC scope cl C X.env) fp) elt de) (hy : X.N[i]? = some y := by rfl) (hyl : X.env.scope.names.lookup y = some .local := by rfl)
    (hsw : swapsWith (.ListComp elt [⟨t, iter, ifs, 0⟩] scope pos) (some (.Name y py)) spos.line X.env = pure true := by exact sw_true rfl rfl rfl (by decide +kernel)) (hs : ∀ x, foldedSetIterable iter X.env x = pure x := by intro _; rfl) :
    ZS X (.Assign [.Name y py] (.ListComp elt [⟨t, iter, ifs, 0⟩] scope pos) spos) (sSet i (if new = true then eLN (lLc tg di dt de (own.map (·.2))) else eLV (lLc tg di dt de (own.map (·.2))))) := fun W tk =>
  ps_weak (ps_setLc (g := gT X.K tg) (tt := tTe WF X.K dt) (te := tE WF X.K de) hc hN hy hyl hsw (hi W tk) ok (fun s H C cl fp => hg s H C cl fp) (fun s H C cl fp => ht s H C cl fp WF takes0) (fun s H C cl fp => he s H C cl fp WF takes0) hs) fun E σ H ⟨m, B, ρ, S, rs, e, p⟩ => by
    refine tlc_weak hix σ H _ ?_
    cases new with
    | true => exact tl_ln (tE.takeS (da := eLN (lLc tg di dt de (own.map (·.2)))) rs e p fun d S1 m1 H1 v g1 r1 e1 rd p1 => p1 m1 H1 _ (.refl _ _) r1 (e1.set i rd))
    | false => exact tl_lv (tE.takeS (da := eLV (lLc tg di dt de (own.map (·.2)))) rs e p fun d S1 m1 H1 v g1 r1 e1 rd p1 => p1 m1 H1 _ (.refl _ _) r1 (e1.set i rd))
end
end Z
namespace Z
open PySem L2

/-! ### what names nothing beyond the first n of the store -/
mutual
def D.cl (n : Nat) : D → Prop
  | .tup ds => D.cls n ds
  | .lst ds => D.cls n ds
  | .scr ds => D.cls n ds
  | .ref k => k < n
  | _ => True
def D.cls (n : Nat) : List D → Prop
  | [] => True
  | d :: ds => D.cl n d ∧ D.cls n ds
end
def FsCl {κ : Type} (n : Nat) : List (κ × D) → Prop
  | [] => True
  | p :: fs => p.2.cl n ∧ FsCl n fs
def O.cl (n : Nat) : O → Prop
  | .lst ds => D.cls n ds
  | .ins _ fs => FsCl n fs
  | .dct kvs => FsCl n kvs
  | .dcT kvs => FsCl n kvs
  | .iset _ _ => True
  | .lck _ _ kvs => FsCl n kvs
  | .tab _ _ => True
def ClS (n : Nat) (S : Sto) : Prop := ∀ o ∈ S, O.cl n o
section
variable {K : PySem.W.Frag} {m mG B : List Addr} {H : Hp}
mutual
theorem RD.cl : ∀ {d : D} {v : V}, RD K m B H d v → d.cl m.length
  | .non, _, _ | .bl _, _, _ | .int _, _, _ | .str _, _, _ | .adr _, _, _ | .ty _, _, _ => by unfold D.cl; trivial
  | .tup ds, _, h => by unfold RD at h; obtain ⟨a, vs, _, _, r⟩ := h; unfold D.cl; exact RDs.cls r
  | .lst ds, _, h => by unfold RD at h; obtain ⟨a, vs, _, _, r⟩ := h; unfold D.cl; exact RDs.cls r
  | .scr ds, _, h => by unfold RD at h; obtain ⟨a, vs, _, _, r⟩ := h; unfold D.cl; exact RDs.cls r
  | .ref n, _, h => by unfold RD at h; obtain ⟨a, _, q⟩ := h; unfold D.cl; exact (List.getElem?_eq_some_iff.mp q).1
theorem RDs.cls : ∀ {ds : List D} {vs : List V}, RDs K m B H ds vs → D.cls m.length ds
  | [], _, _ => by unfold D.cls; trivial
  | d :: ds, _, h => by unfold RDs at h; obtain ⟨x, r, _, h1, h2⟩ := h; unfold D.cls; exact ⟨RD.cl h1, RDs.cls h2⟩
end
theorem RFs.cl {κ : Type} : ∀ {fs : List (κ × D)} {vs : List (κ × V)}, RFs K m B H fs vs → FsCl m.length fs
  | [], _, _ => trivial
  | p :: fs, _, ⟨x, r, _, h1, h2⟩ => ⟨RD.cl h1, RFs.cl h2⟩
theorem RS.cl {S : Sto} (r : RS K m B H S) : ClS S.length S := fun o ho => by
  obtain ⟨n, hn⟩ := List.mem_iff_getElem?.mp ho
  obtain ⟨a, ha, q⟩ := r.at hn
  rw [← r.len]
  cases o with
  | lst ds => obtain ⟨vs, _, rv⟩ := q; exact RDs.cls rv
  | ins C fs => obtain ⟨dx, vs, _, rv⟩ := q; exact RFs.cl rv
  | dct kvs => obtain ⟨vs, _, rv⟩ := q; exact RFs.cl rv
  | dcT kvs => obtain ⟨vs, _, rv⟩ := q; exact RFs.cl rv
  | iset p n => trivial
  | lck od vs kvs => obtain ⟨_, rv⟩ := q; exact RFs.cl rv
  | tab P q => trivial
mutual
theorem RD.drop : ∀ {d : D} {v : V}, RD K (m ++ mG) B H d v → d.cl m.length → RD K m B H d v
  | .non, _, h, _ | .bl _, _, h, _ | .int _, _, h, _ | .str _, _, h, _ | .adr _, _, h, _ | .ty _, _, h, _ => by unfold RD at h ⊢; exact h
  | .tup ds, _, h, c => by
    unfold RD at h ⊢
    unfold D.cl at c
    obtain ⟨a, vs, e, f, r⟩ := h
    exact ⟨a, vs, e, f.elim (fun q => .inl ⟨fun z => q.1 (List.mem_append_left _ z), q.2⟩) .inr, RDs.dropG r c⟩
  | .lst ds, _, h, c => by
    unfold RD at h ⊢
    unfold D.cl at c
    obtain ⟨a, vs, e, f, r⟩ := h
    exact ⟨a, vs, e, ⟨fun z => f.1 (List.mem_append_left _ z), f.2⟩, RDs.dropG r c⟩
  | .scr ds, _, h, c => by
    unfold RD at h ⊢
    unfold D.cl at c
    obtain ⟨a, vs, e, f, r⟩ := h
    exact ⟨a, vs, e, f.elim (fun q => .inl ⟨fun z => q.1 (List.mem_append_left _ z), q.2⟩) .inr, RDs.dropG r c⟩
  | .ref n, _, h, c => by
    unfold RD at h ⊢
    unfold D.cl at c
    obtain ⟨a, e, q⟩ := h
    exact ⟨a, e, by rw [List.getElem?_append_left c] at q; exact q⟩
theorem RDs.dropG : ∀ {ds : List D} {vs : List V}, RDs K (m ++ mG) B H ds vs → D.cls m.length ds → RDs K m B H ds vs
  | [], _, h, _ => by unfold RDs at h ⊢; exact h
  | d :: ds, _, h, c => by
    unfold RDs at h ⊢
    unfold D.cls at c
    obtain ⟨x, r, e, h1, h2⟩ := h
    exact ⟨x, r, e, RD.drop h1 c.1, RDs.dropG h2 c.2⟩
end
theorem RFs.drop {κ : Type} : ∀ {fs : List (κ × D)} {vs : List (κ × V)}, RFs K (m ++ mG) B H fs vs → FsCl m.length fs → RFs K m B H fs vs
  | [], _, h, _ => h
  | p :: fs, _, ⟨x, r, e, h1, h2⟩, c => ⟨x, r, e, RD.drop h1 c.1, RFs.drop h2 c.2⟩
theorem RS.dropG {S G : Sto} (r : RS K (m ++ mG) B H (S ++ G)) (hl : m.length = S.length) (c : ClS S.length S) : RS K m B H S := by
  refine ⟨hl, (List.nodup_append.mp r.nd).1, fun a ha => r.dis a (List.mem_append_left _ ha), r.bn, fun n a o h1 h2 => ?_, fun n P q h => r.tb n P q (by rw [List.getElem?_append_left (List.getElem?_eq_some_iff.mp h).1]; exact h)⟩
  have hn : n < m.length := (List.getElem?_eq_some_iff.mp h1).1
  have q := r.ob n a o (by rw [List.getElem?_append_left hn]; exact h1) (by rw [List.getElem?_append_left (by rw [← hl]; exact hn)]; exact h2)
  have co := c o (List.mem_of_getElem? h2)
  rw [← hl] at co
  cases o with
  | lst ds => obtain ⟨vs, e, rv⟩ := q; exact ⟨vs, e, RDs.dropG rv co⟩
  | ins C fs => obtain ⟨dx, vs, e, rv⟩ := q; exact ⟨dx, vs, e, RFs.drop rv co⟩
  | dct kvs => obtain ⟨vs, e, rv⟩ := q; exact ⟨vs, e, RFs.drop rv co⟩
  | dcT kvs => obtain ⟨vs, e, rv⟩ := q; exact ⟨vs, e, RFs.drop rv co⟩
  | iset p n => exact q
  | lck od vs kvs => obtain ⟨e, rv⟩ := q; exact ⟨e, RFs.drop rv co⟩
  | tab P q0 =>
    obtain ⟨e0, ps, e, ok, k⟩ := q
    refine ⟨e0, ps, e, ok, fun pos cv hc => ?_⟩
    obtain ⟨c, e1, e2, e3, e4⟩ := k pos cv hc
    exact ⟨c, e1, fun z => e2 (List.mem_append_left _ z), e3, e4⟩
end
/-- r', what a def's body comes to, is what r says, but for things of the store that nothing names -/
def Ref (S0 : Sto) (r r' : R D) : Prop := match r with
  | .ok d S => r' = .ok d S ∨ ∃ G, r' = .ok d (S ++ G) ∧ S0.length ≤ S.length ∧ d.cl S.length ∧ ClS S.length S
  | .exc c d S => r' = .exc c d S ∨ ∃ G, r' = .exc c d (S ++ G) ∧ S0.length ≤ S.length ∧ d.cl S.length ∧ ClS S.length S
  | .bad => True
theorem Ref.same {S0 : Sto} {r r' : R D} (h : r' = r) : Ref S0 r r' := by
  subst h
  cases r' with
  | ok d S => exact .inl rfl
  | exc c d S => exact .inl rfl
  | bad => trivial
theorem split_pre {m m' : List Addr} {n : Nat} (g : ∃ l, m' = m ++ l) (h1 : m.length ≤ n) (h2 : n ≤ m'.length) : ∃ a b, m' = a ++ b ∧ a.length = n ∧ ∃ l, a = m ++ l := by
  obtain ⟨l, rfl⟩ := g
  refine ⟨m ++ l.take (n - m.length), l.drop (n - m.length), by rw [List.append_assoc, List.take_append_drop], ?_, _, rfl⟩
  rw [List.length_append, List.length_take]
  rw [List.length_append] at h2
  omega
theorem Ref.post {K : PySem.W.Frag} {m B : List Addr} {H : Hp} {W : Value → Option Addr → Hp → Prop} {Q : VK} {S0 : Sto} {r r' : R D} (rs : RS K m B H S0) (h : Ref S0 r r') (p : Post K m B H W (fun d _ m' H' => ∀ v, RD K m' B H' d v → Q v H') r) :
    Post K m B H W (fun d _ m' H' => ∀ v, RD K m' B H' d v → Q v H') r' := by
  cases r with
  | bad => exact p.elim
  | ok d S =>
    rcases h with rfl | ⟨G, rfl, h1, h2, h3⟩
    · exact p
    · refine fun m' H' g r' v rv => ?_
      obtain ⟨a, b, rfl, hl, pre⟩ := split_pre g.pre (by rw [rs.len]; exact h1) (by rw [r'.len]; simp)
      have g' : Ge m H a H' := ⟨pre, fun x o hx e nt => ⟨fun z => (g.keep x o hx e nt).1 (List.mem_append_left _ z), (g.keep x o hx e nt).2⟩⟩
      exact p a H' g' (r'.dropG hl h3) v (RD.drop rv (by rw [hl]; exact h2))
  | exc c d S =>
    rcases h with rfl | ⟨G, rfl, h1, h2, h3⟩
    · exact p
    · refine fun m' H' x v g r' hx rv => ?_
      obtain ⟨a, b, rfl, hl, pre⟩ := split_pre g.pre (by rw [rs.len]; exact h1) (by rw [r'.len]; simp)
      have g' : Ge m H a H' := ⟨pre, fun x o hx e nt => ⟨fun z => (g.keep x o hx e nt).1 (List.mem_append_left _ z), (g.keep x o hx e nt).2⟩⟩
      exact p a H' x v g' (r'.dropG hl h3) hx (RD.drop rv (by rw [hl]; exact h2))

/-! ### a def by its body -/
def env0 (N : Nat) (ds : List D) : Env := ds.map some ++ List.replicate (N - ds.length) none
/-- what the body comes to -/
def runB (N : Nat) (den : DS) (ds : List D) (S : Sto) : R D := match den (env0 N ds) S with
  | .nx _ S' => .ok .non S'
  | .rt d S' => .ok d S'
  | .exc _ c d S' => .exc c d S'
  | _ => .bad
theorem REs.start {K : PySem.W.Frag} {m B : List Addr} {H : Hp} : ∀ {ds : List D} {vs : List V}, RDs K m B H ds vs → ∀ k, REs K m B H (ds.map some ++ List.replicate k none) (vs.map some ++ List.replicate k none)
  | [], _, h, k => by
    unfold RDs at h
    subst h
    show REs K m B H (List.replicate k none) (List.replicate k none)
    induction k with
    | zero => rfl
    | succ k ih => exact ⟨none, _, rfl, fun d q => (nomatch q), ih⟩
  | d :: ds, _, h, k => by
    unfold RDs at h
    obtain ⟨x, r, rfl, h1, h2⟩ := h
    exact ⟨some x, _, rfl, fun d' q => ⟨x, rfl, by cases q; exact h1⟩, REs.start h2 k⟩
theorem tS_run {K : PySem.W.Frag} {N : List Str} {den : DS} {m B : List Addr} {H : Hp} {ds : List D} {vs : List V} {S : Sto} {Q : VK} {E : XK} (rs : RS K m B H S) (rd : RDs K m B H ds vs) (p : Post K m B H E (fun d _ m' H' => ∀ v, RD K m' B H' d v → Q v H') (runB N.length den ds S)) :
    tS (fun c x _ H' => E c x H') K den { nx := fun _ H' => Q .non H', rt := Q } (L2.start N vs) H := by
  refine ⟨m, B, env0 N.length ds, S, rs, ?_, ?_⟩
  · unfold env0 L2.start
    rw [rd.len]
    exact REs.start rd _
  · unfold runB at p
    cases hd : den (env0 N.length ds) S with
    | nx ρ S' => rw [hd] at p; exact fun m' H' σ' g r e => p m' H' g r .non RDn
    | rt d S' => rw [hd] at p; exact fun m' H' v g r rv => p m' H' g r v rv
    | bk ρ S' => rw [hd] at p; exact p.elim
    | ct ρ S' => rw [hd] at p; exact p.elim
    | exc ρ c d S' => rw [hd] at p; exact fun m' H' σ' x v g r e hx rv => p m' H' x v g r hx rv
    | bad => rw [hd] at p; exact p.elim
/-- what holds of the context of a def's body -/
structure Good (X : Cx) (k : Nat) : Prop where
  room : Room k X.A
  calm : X.calm = true
  pass : PassesOwn (model X.prog X.w) X.A X.env X.xe
section
variable {P : Program} {w : World} {K : PySem.W.Frag} {mg : Str → Option Value} {base : Heap} {x qual : Str} {params : Arguments} {body : List Stmt} {scope : Scope} {dvs : List V} {kws : List (Str × V)} {f : Addr} {fd : FuncData}
theorem zfn {N ps : List Str} {k n : Nat} {den : DS} {F : List D → Sto → R D} (fdd : FunD K x qual params body scope dvs kws f fd) (S : FnScope N ps scope) (hn : ps.length = n)
    (hb : ∀ (cdv : Value) (A : Around) (outer : List PySem.Env) (s : Shared) (H : Hp) (E : XK), Good (cxOf (L2.CX P w) P w K mg base N qual scope f cdv A outer s H E) k → ZB (cxOf (L2.CX P w) P w K mg base N qual scope f cdv A outer s H E) body den)
    (imp : ∀ ds S, ds.length = n → ClS S.length S → D.cls S.length ds → Ref S (F ds S) (runB N.length den ds S)) : FnOk P w K mg base (L2.CX P w) (k + 1) f fd ps (spI K n F) := by
  refine fdd.ok S (fun vs H Q E h => by rw [hn]; exact spI_len h) fun cdv A outer s H vs Q E hr h => ?_
  obtain ⟨m, B, ds, S', rs, rd, hl, p⟩ := h
  refine ⟨_, hb cdv A outer s H E ⟨hr, rfl, passes_of rfl⟩ (fun c x _ H' => E c x H') (takes_of rfl rfl rfl rfl), ?_⟩
  refine tS_run rs rd ((imp ds S' hl rs.cl ?_).post rs p)
  rw [← rs.len]
  exact RDs.cls rd
end
end Z
namespace Z
open PySem L2

/-! ### more numbers -/
section
variable {X : Cx} {pos : Pos} {a b c : Expr} {da db dc : DE}
def mulOk (i j : Int) : Bool := decide (i.natAbs < 18446744073709551616 ∨ j.natAbs < 18446744073709551616 ∨ i.natAbs.log2 + j.natAbs.log2 < 1000000)
def divOk (_i j : Int) : Bool := decide (0 < j ∧ j.natAbs.log2 < 9000)
def powOk (i j : Int) : Bool := decide (0 ≤ j ∧ j ≤ 1000000 ∧ i.natAbs < 18446744073709551616)
def fMul := fI (fun i j => .int (i * j)) mulOk
def fDiv := fI (fun i j => .int (i / j)) divOk
def fPow := fI (fun i j => .int (i ^ j.toNat)) powOk
theorem mul_any {i j : Int} (h : mulOk i j = true) : IntMulOk i j := by
  rcases of_decide_eq_true h with h | h | h
  · exact CMul.ok (.inl ⟨by omega, by omega⟩)
  · exact CMul.ok (.inr ⟨by omega, by omega⟩)
  · exact CMulW.ok h
theorem ze_mul (ha : ZE X a da) (hb : ZE X b db) : ZE X (.BinOp a .Mult b pos) (e2 fMul da db) := ze_op (r := rI (fun i j => mulOk i j = true) fun i j => .int (i * j)) (opI fun _ _ _ _ _ _ _ hc q => PyProof.Rows.mul_int q (mul_any hc)) (okI (fun _ _ h => h) fun _ _ _ _ _ => RDi _) ha hb
theorem ze_fdiv (ha : ZE X a da) (hb : ZE X b db) : ZE X (.BinOp a .FloorDiv b pos) (e2 fDiv da db) := ze_op op_fdivW (okI (fun i j h => (of_decide_eq_true h : 0 < j ∧ j.natAbs.log2 < 9000)) fun _ _ _ _ _ => RDi _) ha hb
theorem ze_pow (ha : ZE X a da) (hb : ZE X b db) : ZE X (.BinOp a .Pow b pos) (e2 fPow da db) := ze_op op_pow (okI (fun _ _ h => by
  have q := of_decide_eq_true h
  exact ⟨q.1, q.2.1, q.2.2⟩) fun _ _ _ _ _ => RDi _) ha hb
def fNeg : D → Sto → R D
  | .int i, S => .ok (.int (-i)) S
  | _, _ => .bad
theorem okNeg {K : PySem.W.Frag} : OkUn K (rU fun i => .int (-i)) fNeg := by
  intro m B H S d x W Q rs rd p
  cases d <;> try exact p.elim
  rename_i i
  unfold RD at rd
  subst rd
  exact ⟨i, rfl, p.now rs _ (RDi _)⟩
theorem ze_neg (ha : ZE X a da) : ZE X (.UnaryOp .USub a pos) (e1 fNeg da) := ze_un un_neg okNeg ha

/-! ### a + b: numbers, texts, tuples -/
def fPlus : D → D → Sto → R D
  | .int i, .int j, S => .ok (.int (i + j)) S
  | .str i, .str j, S => if i.length + j.length ≤ 16777216 then .ok (.str (i ++ j)) S else .bad
  | .tup xs, .tup ys, S => if xs.length + ys.length ≤ 16777216 then .ok (.tup (xs ++ ys)) S else .bad
  | .int i, .bl k, S => .ok (.int (i + PyProof.Rows.b2i k)) S
  | _, _, _ => .bad
def rPlusA (K : PySem.W.Frag) : R2 := fun x y H Q => (((∃ i j : Int, x = .int i ∧ y = .int j ∧ Q (.int (i + j)) H) ∨ (∃ i j, x = .str i ∧ y = .str j ∧ i.length + j.length ≤ sizeLine ∧ Q (.str (i ++ j)) H)) ∨ rCatA K x y H Q) ∨ (∃ i k, x = .int i ∧ y = .bl k ∧ Q (.int (i + PyProof.Rows.b2i k)) H)
theorem op_plusA : OpR X (binaryOp .Add) (rPlusA X.K) := ((op_add.or op_add_str).or op_catA).or op_add_ib
theorem okPlus {K : PySem.W.Frag} : OkOp K (rPlusA K) fPlus := by
  intro m B H S d e x y W Q rs rd re p
  cases d with
  | int i =>
    cases e with
    | int j => unfold RD at rd re; subst rd re; exact .inl (.inl (.inl ⟨i, j, rfl, rfl, p.now rs _ (RDi _)⟩))
    | bl j => unfold RD at rd re; subst rd re; exact .inr ⟨i, j, rfl, rfl, p.now rs _ (RDi _)⟩
    | _ => exact p.elim
  | str i =>
    cases e with
    | str j =>
      unfold RD at rd re
      subst rd re
      have p : Post K m B H W (fun d _ m' H' => ∀ v, RD K m' B H' d v → Q v H') (if i.length + j.length ≤ 16777216 then .ok (.str (i ++ j)) S else .bad) := p
      split at p
      · rename_i h
        exact .inl (.inl (.inr ⟨i, j, rfl, rfl, by rw [sizeLine_eq]; exact h, p.now rs _ (RDst _)⟩))
      · exact p.elim
    | _ => exact p.elim
  | tup xs =>
    cases e with
    | tup ys =>
      have rd' := rd
      have re' := re
      unfold RD at rd re
      obtain ⟨a, vs, rfl, f, r⟩ := rd
      obtain ⟨b, ws, rfl, f2, r2⟩ := re
      have p : Post K m B H W (fun d _ m' H' => ∀ v, RD K m' B H' d v → Q v H') (if xs.length + ys.length ≤ 16777216 then .ok (.tup (xs ++ ys)) S else .bad) := p
      split at p
      · rename_i h
        refine .inl (.inr ⟨a, b, vs, ws, rfl, rfl, f.sq, f2.sq, by rw [← r.len, ← r2.len, sizeLine_eq]; exact h, fun e0 => ?_, fun _ e0 => ?_, fun _ _ q hq => ?_⟩)
        · have : xs = [] := List.length_eq_zero_iff.mp (by rw [r.len, e0]; rfl)
          rw [this] at p
          exact p.now rs _ re'
        · have : ys = [] := List.length_eq_zero_iff.mp (by rw [r2.len, e0]; rfl)
          rw [this, List.append_nil] at p
          exact p.now rs _ rd'
        · obtain ⟨g2, r3⟩ := rs.new (u := .tup (vs ++ ws)) hq
          refine p m _ g2 r3 _ ?_
          unfold RD
          exact ⟨q, vs ++ ws, rfl, .inl ⟨rs.notin hq, rs.notB hq, .inl upd_same⟩, RDs.mono g2.tr _ _ (r.app r2)⟩
      · exact p.elim
    | _ => exact p.elim
  | _ => cases e <;> exact p.elim
theorem ze_plus (ha : ZE X a da) (hb : ZE X b db) : ZE X (.BinOp a .Add b pos) (e2 fPlus da db) := ze_op op_plusA okPlus ha hb

/-! ### a < b < c -/
def eChain (f g : D → D → Sto → R D) (a b c : DE) : DE := fun ρ S => (a ρ S).bind fun x S1 => (b ρ S1).bind fun y S2 => (f x y S2).bind fun z S3 => match z with
  | .bl k => if k = true then (c ρ S3).bind fun w S4 => g y w S4 else .ok (.bl false) S3
  | _ => .bad
/-- a test that is True or False -/
def tVB (a : DE) : DT := fun ρ S => (a ρ S).bind fun d S1 => match d with
  | .bl b => .ok b S1
  | _ => .bad
theorem te_bool {W : WX} {K : PySem.W.Frag} {σ : L2.St} {H : Hp} {Q : Bool → Hp → Prop} {m B : List Addr} {ρ : Env} {S : Sto} (rs : RS K m B H S) (e : REs K m B H ρ σ) (p : Post K m B H (fun c x H' => W c x σ H') (fun b _ _ H' => Q b H') (tVB da ρ S)) : tE W K da σ H fun x H' => ∃ k, x = .bl k ∧ Q k H' :=
  tE.takeA rs e p fun d S1 m1 H1 v g1 r1 e1 rd p1 => by
    cases d <;> try exact p1.elim
    rename_i b
    unfold RD at rd
    exact ⟨b, rd, p1.now r1⟩
theorem zt_cmp {op : CmpOp} {r : R2} {f : D → D → Sto → R D} (ho : OpR X (compareOp op) r) (h : OkOp X.K r f) (ha : ZE X a da) (hb : ZE X b db) (hm : behindInMarks op b = false) : ZT X (.Compare a [op] [b] pos) (tVB (e2 f da db)) := fun W tk => pt_weak (pt_cmpR ho (ha W tk) (hb W tk) hm) fun σ H Q ⟨m, B, ρ, S, rs, e, p⟩ => te_op h σ H _ (te_bool rs e p)
theorem zt_lt (ha : ZE X a da) (hb : ZE X b db) : ZT X (.Compare a [.Lt] [b] pos) (tVB (e2 fLt da db)) := zt_cmp op_lt (okI0 fun _ _ _ _ _ => RDb _) ha hb (nomark _)
theorem zt_le (ha : ZE X a da) (hb : ZE X b db) : ZT X (.Compare a [.LtE] [b] pos) (tVB (e2 fLe da db)) := zt_cmp op_le (okI0 fun _ _ _ _ _ => RDb _) ha hb (nomark _)
theorem zt_gt (ha : ZE X a da) (hb : ZE X b db) : ZT X (.Compare a [.Gt] [b] pos) (tVB (e2 fGt da db)) := zt_cmp op_gt (okI0 fun _ _ _ _ _ => RDb _) ha hb (nomark _)
theorem zt_ge (ha : ZE X a da) (hb : ZE X b db) : ZT X (.Compare a [.GtE] [b] pos) (tVB (e2 fGe da db)) := zt_cmp op_ge (okI0 fun _ _ _ _ _ => RDb _) ha hb (nomark _)
theorem zt_eq (hu : X.A.units + 64 < cLine) (ha : ZE X a da) (hb : ZE X b db) : ZT X (.Compare a [.Eq] [b] pos) (tVB (e2 fEq da db)) := zt_cmp (op_eqD hu) okEq ha hb (nomark _)
theorem zt_ne (hu : X.A.units + 64 < cLine) (ha : ZE X a da) (hb : ZE X b db) : ZT X (.Compare a [.NotEq] [b] pos) (tVB (e2 fNe da db)) := zt_cmp (op_neD hu) okNe ha hb (nomark _)
theorem zt_in (hu : X.A.units + 65 < cLine) (ha : ZE X a da) (hb : ZE X b db) (hm : behindInMarks .In b = false := by rfl) : ZT X (.Compare a [.In] [b] pos) (tVB (e2 fIn da db)) := zt_cmp (op_inD hu) okIn ha hb hm
theorem zt_notin (hu : X.A.units + 65 < cLine) (ha : ZE X a da) (hb : ZE X b db) (hm : behindInMarks .NotIn b = false := by rfl) : ZT X (.Compare a [.NotIn] [b] pos) (tVB (e2 fNotIn da db)) := zt_cmp (op_notInD hu) okNotIn ha hb hm
theorem zt_isB (ha : ZE X a da) (hb : ZE X b db) : ZT X (.Compare a [.Is] [b] pos) (tVB (e2 fIsB da db)) := zt_cmp op_isBl okIsB ha hb (nomark _)
theorem zt_isN {j : Nat} {p2 : Pos} (ha : ZE X a da) : ZT X (.Compare a [.Is] [.Constant .none j p2] pos) (tVB (e1 fIsN da)) := fun W tk => pt_weak (pt_cmp (pc_isN (ha W tk)) rfl) fun σ H Q ⟨m, B, ρ, S, rs, e, p⟩ =>
  have q : tE W X.K (e1 fIsN da) σ H fun x H' => ∃ k, x = .bl k ∧ Q k H' := te_bool rs e p
  let ⟨m, B, ρ, S, rs, e, p⟩ := q
  tE.takeA rs e p fun d S1 m1 H1 v g1 r1 e1 rd p1 => by
    rw [rd.isN]
    cases d <;> exact p1.now r1 _ (RDb _)
theorem zt_notN {j : Nat} {p2 : Pos} (ha : ZE X a da) : ZT X (.Compare a [.IsNot] [.Constant .none j p2] pos) (tVB (e1 fNotN da)) := fun W tk => pt_weak (pt_cmp (pc_notN (ha W tk)) rfl) fun σ H Q ⟨m, B, ρ, S, rs, e, p⟩ =>
  have q : tE W X.K (e1 fNotN da) σ H fun x H' => ∃ k, x = .bl k ∧ Q k H' := te_bool rs e p
  let ⟨m, B, ρ, S, rs, e, p⟩ := q
  tE.takeA rs e p fun d S1 m1 H1 v g1 r1 e1 rd p1 => by
    rw [rd.isN]
    cases d <;> exact p1.now r1 _ (RDb _)
theorem te_chain {W : WX} {K : PySem.W.Frag} {r r' : R2} {f g : D → D → Sto → R D} (hf : OkOp K r f) (hg : OkOp K r' g) (σ : L2.St) (H : Hp) (Q : VK) : tE W K (eChain f g da db dc) σ H Q → tChain r r' (tE W K da) (tE W K db) (tE W K dc) σ H Q := fun ⟨m, B, ρ, S, rs, e, p⟩ =>
  tE.takeA rs e p fun x S1 m1 H1 v g1 r1 e1 rx p1 => tE.takeA r1 e1 p1 fun y S2 m2 H2 u g2 r2 e2 ry p2 => by
    refine hf m2 B H2 S2 x y v u (fun c x H' => W c x σ H') _ r2 (rx.mono g2.tr) ry ?_
    refine (Post.bind p2).imp fun z S3 m3 H3 g3 r3 p3 w rw => ?_
    cases z <;> try exact p3.elim
    rename_i k
    unfold RD at rw
    refine ⟨k, rw, ?_⟩
    cases k with
    | false => exact p3.now r3 _ (RDb _)
    | true => exact tE.takeA r3 (e2.mono g3.tr) p3 fun w' S4 m4 H4 u4 g4 r4 e4 r4' p4 => hg m4 B H4 S4 y w' u u4 _ Q r4 (ry.mono (g3.tr.trans g4.tr)) r4' p4
theorem ze_chain {op op' : CmpOp} {r r' : R2} {f g : D → D → Sto → R D} (ho : OpR X (compareOp op) r) (ho' : OpR X (compareOp op') r') (hf : OkOp X.K r f) (hg : OkOp X.K r' g) (ha : ZE X a da) (hb : ZE X b db) (hc : ZE X c dc)
    (hm : lastMarks [op, op'] [b, c] = false := by with_unfolding_all rfl) : ZE X (.Compare a [op, op'] [b, c] pos) (eChain f g da db dc) := fun W tk => pe_weak (pe_chain ho ho' (ha W tk) (hb W tk) (hc W tk) hm) (te_chain hf hg)
theorem zt_chain {op op' : CmpOp} {r r' : R2} {f g : D → D → Sto → R D} (ho : OpR X (compareOp op) r) (ho' : OpR X (compareOp op') r') (hf : OkOp X.K r f) (hg : OkOp X.K r' g) (ha : ZE X a da) (hb : ZE X b db) (hc : ZE X c dc)
    (hm : lastMarks [op, op'] [b, c] = false := by with_unfolding_all rfl) : ZT X (.Compare a [op, op'] [b, c] pos) (tVB (eChain f g da db dc)) := fun W tk => pt_weak (pt_chain ho ho' (ha W tk) (hb W tk) (hc W tk) hm) fun σ H Q ⟨m, B, ρ, S, rs, e, p⟩ =>
  te_chain hf hg σ H _ (te_bool rs e p)
theorem ze_lele (ha : ZE X a da) (hb : ZE X b db) (hc : ZE X c dc) (hm : lastMarks [.LtE, .LtE] [b, c] = false := by with_unfolding_all rfl) : ZE X (.Compare a [.LtE, .LtE] [b, c] pos) (eChain fLe fLe da db dc) := ze_chain op_le op_le (okI0 fun _ _ _ _ _ => RDb _) (okI0 fun _ _ _ _ _ => RDb _) ha hb hc hm
theorem ze_lelt (ha : ZE X a da) (hb : ZE X b db) (hc : ZE X c dc) (hm : lastMarks [.LtE, .Lt] [b, c] = false := by with_unfolding_all rfl) : ZE X (.Compare a [.LtE, .Lt] [b, c] pos) (eChain fLe fLt da db dc) := ze_chain op_le op_lt (okI0 fun _ _ _ _ _ => RDb _) (okI0 fun _ _ _ _ _ => RDb _) ha hb hc hm
theorem zt_lele (ha : ZE X a da) (hb : ZE X b db) (hc : ZE X c dc) (hm : lastMarks [.LtE, .LtE] [b, c] = false := by with_unfolding_all rfl) : ZT X (.Compare a [.LtE, .LtE] [b, c] pos) (tVB (eChain fLe fLe da db dc)) := zt_chain op_le op_le (okI0 fun _ _ _ _ _ => RDb _) (okI0 fun _ _ _ _ _ => RDb _) ha hb hc hm
theorem zt_lelt (ha : ZE X a da) (hb : ZE X b db) (hc : ZE X c dc) (hm : lastMarks [.LtE, .Lt] [b, c] = false := by with_unfolding_all rfl) : ZT X (.Compare a [.LtE, .Lt] [b, c] pos) (tVB (eChain fLe fLt da db dc)) := zt_chain op_le op_lt (okI0 fun _ _ _ _ _ => RDb _) (okI0 fun _ _ _ _ _ => RDb _) ha hb hc hm
end

/-! ### slices -/
abbrev DO := Env → Sto → R (Option Int)
def tOp1 (W : WX) (K : PySem.W.Frag) (den : DO) : TO := fun σ H Q => ∃ m B ρ S, RS K m B H S ∧ REs K m B H ρ σ ∧ Post K m B H (fun c x H' => W c x σ H') (fun o _ _ H' => Q o H') (den ρ S)
def ZO (X : Cx) (e : Option Expr) (den : DO) : Prop := ∀ W, Takes X W → PO X e (tOp1 W X.K den)
def oN : DO := fun _ S => .ok none S
def oS (a : DE) : DO := fun ρ S => (a ρ S).bind fun d S1 => match d with
  | .int i => .ok (some i) S1
  | _ => .bad
theorem po_weak {X : Cx} {e : Option Expr} {t t' : TO} (h : PO X e t) (i : ∀ σ H Q, t' σ H Q → t σ H Q) : PO X e t' := ⟨fun pins s σ H Q I q => h.run pins s σ H Q I (i σ H Q q)⟩
theorem tOp1.take {β : Type} {W : WX} {K : PySem.W.Frag} {da : DO} {f : Option Int → Sto → R β} {σ : L2.St} {H : Hp} {Q' : Option Int → Hp → Prop} {m B : List Addr} {ρ : Env} {S : Sto} {P : β → Sto → List Addr → Hp → Prop} (r : RS K m B H S) (e : REs K m B H ρ σ)
    (h : Post K m B H (fun c x H' => W c x σ H') P ((da ρ S).bind f))
    (k : ∀ d S1 m1 H1, Ge m H m1 H1 → RS K m1 B H1 S1 → REs K m1 B H1 ρ σ → Post K m1 B H1 (fun c x H' => W c x σ H') P (f d S1) → Q' d H1) : tOp1 W K da σ H Q' :=
  ⟨m, B, ρ, S, r, e, (Post.bind h).imp fun d S1 m1 H1 g1 r1 p => k d S1 m1 H1 g1 r1 (e.mono g1.tr) p⟩
section
variable {X : Cx} {pos p2 : Pos} {e : Expr} {lo hi : Option Expr} {de : DE} {dl dh : DO}
theorem zo_none : ZO X none oN := fun W tk => po_weak po_none fun σ H Q ⟨m, B, ρ, S, rs, e, p⟩ => p.now rs
theorem zo_some (h : ZE X e de) : ZO X (some e) (oS de) := fun W tk => po_weak (po_some (h W tk)) fun σ H Q ⟨m, B, ρ, S, rs, e, p⟩ => tE.takeA rs e p fun d S1 m1 H1 v g1 r1 e1 rd p1 => by
  cases d <;> try exact p1.elim
  rename_i i
  unfold RD at rd
  exact ⟨i, rd, p1.now r1⟩
def cutA {α : Type} (xs : List α) (lo hi : Option Int) : List α := (xs.drop (HT.sIx xs.length 0 lo)).take (HT.sIx xs.length xs.length hi - HT.sIx xs.length 0 lo)
theorem cutA_V (xs : List V) (lo hi : Option Int) : cutA xs lo hi = cutV xs lo hi := rfl
theorem RDs.cut {K : PySem.W.Frag} {m B : List Addr} {H : Hp} {ds : List D} {vs : List V} (h : RDs K m B H ds vs) (lo hi : Option Int) : RDs K m B H (cutA ds lo hi) (cutV vs lo hi) := by
  unfold cutA cutV
  rw [h.len]
  exact RDs.take _ (RDs.drop _ h)
/-- xs[lo:hi] of a list: a new list -/
def lSl (a : DE) (l h : DO) : DA := fun ρ S => (a ρ S).bind fun d S1 => (l ρ S1).bind fun i S2 => (h ρ S2).bind fun j S3 => match lstOf S3 d with
  | some ds => .ok (cutA ds i j) S3
  | none => .bad
theorem zl_slice (he : ZE X e de) (hl : ZO X lo dl) (hh : ZO X hi dh) : ZL X (.Subscript e (.Slice lo hi none p2) pos) (lSl de dl dh) := fun W tk => pe_weak (pe_slice sl_list (he W tk) (hl W tk) (hh W tk)) fun σ H Q ⟨m, B, ρ, S, rs, e, p⟩ => by
  unfold lSl at p
  refine ⟨m, B, ρ, S, rs, e, ?_⟩
  cases h1 : de ρ S with
  | bad => rw [h1] at p; exact p
  | exc c d S' => rw [h1] at p; exact p
  | ok d S1 =>
    rw [h1] at p
    simp only [R.bind_ok] at p
    intro m1 H1 g1 r1 v rv
    refine ⟨m1, B, ρ, S1, r1, e.mono g1.tr, ?_⟩
    cases h2 : dl ρ S1 with
    | bad => rw [h2] at p; exact p
    | exc c d S' => rw [h2] at p; exact fun m2 H2 x v g2 => p m2 H2 x v (g1.trans g2)
    | ok i S2 =>
      rw [h2] at p
      simp only [R.bind_ok] at p
      intro m2 H2 g2 r2
      refine ⟨m2, B, ρ, S2, r2, e.mono (g1.tr.trans g2.tr), ?_⟩
      cases h3 : dh ρ S2 with
      | bad => rw [h3] at p; exact p
      | exc c d S' => rw [h3] at p; exact fun m3 H3 x v g3 => p m3 H3 x v ((g1.trans g2).trans g3)
      | ok j S3 =>
        rw [h3] at p
        simp only [R.bind_ok] at p
        intro m3 H3 g3 r3
        have rv3 := rv.mono (g2.tr.trans g3.tr)
        cases hs : lstOf S3 d with
        | none => rw [hs] at p; exact p.elim
        | some ds =>
          rw [hs] at p
          obtain ⟨a, vs, rfl, sq, r⟩ := lstOf_ok r3 rv3 hs
          have gg := (g1.trans g2).trans g3
          refine ⟨a, vs, rfl, sq, fun q hq => ?_⟩
          exact p m3 _ q (cutV vs i j) (gg.trans (r3.new hq).1) (r3.ban hq) (r3.notB hq) (gg.new_was (r3.notin hq) hq) upd_same (RDs.mono (Tr.ban hq) _ _ (r.cut i j))
/-- t[lo:hi] of a tuple, of a text -/
def fSl (d : D) (i j : Option Int) (S : Sto) : R D := match d with
  | .tup ds => .ok (.tup (cutA ds i j)) S
  | .str z => if z.length ≤ 16777216 then .ok (.str (cutS z i j)) S else .bad
  | _ => .bad
def eSl (a : DE) (l h : DO) : DE := fun ρ S => (a ρ S).bind fun d S1 => (l ρ S1).bind fun i S2 => (h ρ S2).bind fun j S3 => fSl d i j S3
theorem cutA_all {α : Type} (xs : List α) (lo hi : Option Int) (h : HT.sIx xs.length 0 lo = 0 ∧ HT.sIx xs.length xs.length hi = xs.length) : cutA xs lo hi = xs := by
  unfold cutA
  rw [h.1, h.2]
  simp
theorem ze_slice (he : ZE X e de) (hl : ZO X lo dl) (hh : ZO X hi dh) : ZE X (.Subscript e (.Slice lo hi none p2) pos) (eSl de dl dh) := fun W tk => pe_weak (pe_slice (sl_tupA.or sl_str) (he W tk) (hl W tk) (hh W tk)) fun σ H Q ⟨m, B, ρ, S, rs, e, p⟩ =>
  tE.takeA rs e p fun d S1 m1 H1 v g1 r1 e1 rd p1 => tOp1.take r1 e1 p1 fun i S2 m2 H2 g2 r2 e2 p2 => tOp1.take r2 e2 p2 fun j S3 m3 H3 g3 r3 e3 p3 => by
    have rd3 := rd.mono (g2.tr.trans g3.tr)
    cases d <;> try exact p3.elim
    · rename_i z
      have p3 : Post X.K m3 B H3 (fun c x H' => W c x σ H') (fun d _ m' H' => ∀ v, RD X.K m' B H' d v → Q v H') (if z.length ≤ 16777216 then .ok (.str (cutS z i j)) S3 else .bad) := p3
      unfold RD at rd3
      split at p3
      · rename_i hz
        exact .inr ⟨z, rd3, by rw [sizeLine_eq]; exact hz, p3.now r3 _ (RDst _)⟩
      · exact p3.elim
    · rename_i ds
      have rd4 := rd3
      unfold RD at rd3
      obtain ⟨a, vs, rfl, f, r⟩ := rd3
      refine .inl ⟨a, vs, rfl, f.sq, fun hw => ?_, fun _ q hq => ?_⟩
      · rw [← r.len] at hw
        have p4 : Post X.K m3 B H3 _ _ (R.ok (D.tup (cutA ds i j)) S3) := p3
        rw [cutA_all _ _ _ hw] at p4
        exact p4.now r3 _ rd4
      · obtain ⟨g4, r4⟩ := r3.new (u := .tup (cutV vs i j)) hq
        refine (show Post X.K m3 B H3 _ _ (R.ok (D.tup (cutA ds i j)) S3) from p3) m3 _ g4 r4 _ ?_
        unfold RD
        exact ⟨q, _, rfl, .inl ⟨r3.notin hq, r3.notB hq, .inl upd_same⟩, RDs.mono g4.tr _ _ (r.cut i j)⟩
/-- xs[::-1] of a list -/
def lRev (a : DE) : DA := fun ρ S => (a ρ S).bind fun d S1 => match lstOf S1 d with
  | some ds => .ok ds.reverse S1
  | none => .bad
theorem zl_rev {k : Nat} {p1 p4 : Pos} (he : ZE X e de) : ZL X (.Subscript e (.Slice none none (some (.UnaryOp .USub (.Constant (.int 1) k p1) p2)) p4) pos) (lRev de) := fun W tk => pe_weak (pe_revL (he W tk)) fun σ H Q ⟨m, B, ρ, S, rs, e, p⟩ => by
  unfold lRev at p
  refine ⟨m, B, ρ, S, rs, e, ?_⟩
  cases h1 : de ρ S with
  | bad => rw [h1] at p; exact p
  | exc c d S' => rw [h1] at p; exact p
  | ok d S1 =>
    rw [h1] at p
    simp only [R.bind_ok] at p
    intro m1 H1 g1 r1 v rv
    cases hs : lstOf S1 d with
    | none => rw [hs] at p; exact p.elim
    | some ds =>
      rw [hs] at p
      obtain ⟨a, vs, rfl, sq, r⟩ := lstOf_ok r1 rv hs
      refine ⟨a, vs, rfl, sq, fun q hq => ?_⟩
      exact p m1 _ q vs.reverse (g1.trans (r1.new hq).1) (r1.ban hq) (r1.notB hq) (g1.new_was (r1.notin hq) hq) upd_same (RDs.mono (Tr.ban hq) _ _ r.rev)
end

/-! ### a, b = e1, e2 -/
section
variable {X : Cx} {pos : Pos} {a b : Expr} {da db : DE}
theorem zs_par {i j : Nat} {x y : Str} {px py pt : Pos} {kt k2 pt2} (hc : X.calm = true) (hN : X.N.Nodup) (ha : ZE X a da) (hb : ZE X b db) (hi : X.N[i]? = some x := by rfl) (hj : X.N[j]? = some y := by rfl) (hij : i ≠ j := by decide)
    (hx : X.env.scope.names.lookup x = some .local := by rfl) (hy : X.env.scope.names.lookup y = some .local := by rfl)
    (hw : swappedStores [.Tuple [.Name x px, .Name y py] kt pt] (.Tuple [a, b] k2 pt2) X.env = pure (some [x, y]) := by rfl)
    (hs : swapsWithSole [.Tuple [.Name x px, .Name y py] kt pt] (.Tuple [a, b] k2 pt2) pos.line X.env = pure false := by rfl)
    (hs1 : starEach [a, b] X.env = (false, eval a X.env) :: starEach [b] X.env := by rfl) (hs2 : starEach [b] X.env = (false, eval b X.env) :: starEach [] X.env := by rfl) :
    ZS X (.Assign [.Tuple [.Name x px, .Name y py] kt pt] (.Tuple [a, b] k2 pt2) pos) (sPar i j da db) := fun W tk => ps_weak (ps_par hc hN hi hj hij hx hy ((za_cons ha (za_cons hb za_nil hs2) hs1) W tk) hw hs) fun E σ H ⟨m, B, ρ, S, rs, e, p⟩ => by
  unfold sPar at p
  refine ⟨m, B, ρ, S, rs, e, ?_⟩
  unfold aC
  cases h1 : da ρ S with
  | bad => rw [h1] at p; exact p
  | exc c d S' => rw [h1] at p; exact fun m' H' x v g r hx rv => p m' H' σ x v g r (e.mono g.tr) hx rv
  | ok d S1 =>
    rw [h1] at p
    simp only [R.to_ok, R.bind_ok] at p ⊢
    cases h2 : db ρ S1 with
    | bad => rw [h2] at p; exact p
    | exc c d S' => rw [h2] at p; exact fun m' H' x v g r hx rv => p m' H' σ x v g r (e.mono g.tr) hx rv
    | ok d2 S2 =>
      rw [h2] at p
      refine fun m1 H1 g1 r1 vs rv => ?_
      obtain ⟨v, w, rfl, rv, rw'⟩ := rv.two
      exact ⟨v, w, rfl, p m1 H1 _ g1 r1 (((e.mono g1.tr).set i rv).set j rw')⟩
end
end Z
namespace Z
open PySem L2

/-! ### xs[i] = value -/
def sPut (a o i : DE) : DS := fun ρ S => (a ρ S).to ρ fun d S1 => (o ρ S1).to ρ fun x S2 => (i ρ S2).to ρ fun y S3 => match x, y with
  | .ref n, .int k => match S3[n]? with
    | some (.lst ds) => match ixN ds.length k with
      | some j => .nx ρ (S3.set n (.lst (ds.set j d)))
      | none => .bad
    | _ => .bad
  | _, _ => .bad
section
variable {X : Cx} {pos p1 : Pos} {a o i : Expr} {da dobj di : DE}
theorem zs_put (ha : ZE X a da) (ho : ZE X o dobj) (hi : ZE X i di) (hs : swapsWithSole [.Subscript o i p1] a pos.line X.env = pure false := by rfl) (hw : swappedStores [.Subscript o i p1] a X.env = pure none := by rfl)
    (h1 : (assignEach [.Subscript o i p1] X.env).map (·.2) = [assign (.Subscript o i p1) X.env] := by rfl)
    (hg : ∀ v, assign (.Subscript o i p1) X.env v = (do
      let ov ← holding [v] (eval o X.env)
      let iv ← holding [v, ov] (eval i X.env)
      standAt p1
      holding [v, ov, iv] (setItem ov iv v)
      release [v, ov, iv] []) := by intro _; rfl) : ZS X (.Assign [.Subscript o i p1] a pos) (sPut da dobj di) := fun W tk =>
  ps_weak (ps_asg (ha W tk) (pg_sub (ho W tk) (hi W tk) set_list hg) hs hw h1) fun E σ H ⟨m, B, ρ, S, rs, e, p⟩ =>
    tE.takeS rs e p fun d S1 m1 H1 v g1 r1 e1 rd p1 => tE.takeS r1 e1 p1 fun x S2 m2 H2 xv g2 r2 e2 rx p2 => tE.takeS r2 e2 p2 fun y S3 m3 H3 yv g3 r3 e3 ry p3 => by
      cases x <;> try exact p3.elim
      rename_i n
      cases y <;> try exact p3.elim
      rename_i k
      have rd3 := rd.mono (g2.tr.trans g3.tr)
      have rx3 := rx.mono g3.tr
      unfold RD at rx3 ry
      obtain ⟨q, rfl, hq⟩ := rx3
      simp only at p3
      split at p3
      · rename_i ds hn
        split at p3
        · rename_i j hj
          obtain ⟨vs, hv, rv⟩ := r3.ob n q _ hq hn
          refine ⟨q, vs, k, j, rfl, ry, hv, by rw [← rv.len]; exact hj, ?_⟩
          obtain ⟨g4, r4⟩ := r3.put (u := .lst (vs.set j v)) (o := .lst (ds.set j d)) hq fun H' g h' => ⟨_, h', RDs.set j (RDs.mono g.tr _ _ rv) (rd3.mono g.tr)⟩
          exact p3 m3 _ σ g4 r4 (e3.mono g4.tr)
        · exact p3.elim
      · exact p3.elim
end

/-! ### methods of a list of the store -/
def isL (S : Sto) : D → Bool
  | .ref n => match S[n]? with
    | some (.lst _) => true
    | _ => false
  | _ => false
def eBM (f : D → List D → Sto → R D) (o : DE) (r : DA) : DE := fun ρ S => (o ρ S).bind fun d S1 => if isL S1 d = true then (r ρ S1).bind fun ds S2 => f d ds S2 else .bad
def OkM (K : PySem.W.Frag) (r : V → List V → Hp → VK → Prop) (f : D → List D → Sto → R D) : Prop := ∀ m B H S d ds x vs (W : Value → Option Addr → Hp → Prop) (Q : VK), RS K m B H S → RD K m B H d x → RDs K m B H ds vs → Post K m B H W (fun d _ m' H' => ∀ v, RD K m' B H' d v → Q v H') (f d ds S) → r x vs H Q
theorem isL_ty {K : PySem.W.Frag} {m B : List Addr} {H : Hp} {S : Sto} {d : D} {v : V} (rs : RS K m B H S) (rd : RD K m B H d v) (h : isL S d = true) : tyV K "list" v H := by
  cases d <;> try (cases h; done)
  rename_i n
  unfold RD at rd
  obtain ⟨a, rfl, q⟩ := rd
  simp only [isL] at h
  split at h
  · rename_i ds hn
    obtain ⟨vs, hv, rv⟩ := rs.ob n a _ q hn
    exact .inl ⟨rfl, vs, SqL.of hv⟩
  · cases h
section
variable {X : Cx} {pos apos : Pos} {o e : Expr} {es : List Expr} {dobj : DE} {t : DA} {nm : Str} {id : String} {r : V → List V → Hp → VK → Prop} {f : D → List D → Sto → R D}
theorem ze_bm (sl : Slot "list" nm id) (hty : typeOf (.builtin id) = pure (.type "method_descriptor")) (hm : MtR X id r) (ok : OkM X.K r f) (ho : ZE X o dobj) (ha : ZA X (e :: es) t) (hb : attributeBase o nm X.env (eval o X.env) = eval o X.env := by rfl)
    (hfew : ((backTo pos (starEach (e :: es) X.env)).all (fun x => !x.1) && (backToKw pos (keywordEach [] X.env)).all (fun x => x.1.isSome) && decide ((e :: es).length + ([] : List Keyword).length + (if ([] : List Keyword).isEmpty then 0 else 1) < 30)) = true := by rfl)
    (hl : (apos.endLine == pos.line) = true := by rfl) (hs : starEach (e :: es) X.env = (false, eval e X.env) :: starEach es X.env := by rfl) (hp : (backTo pos (starEach es X.env)).any (·.1) = false := by rfl) : ZE X (.Call (.Attribute o nm apos) (e :: es) [] pos) (eBM f dobj t) := fun W tk =>
  pe_weak (pe_bm PySem.F.plainAttrs_list sl hty hm (ho W tk) (ha W tk) hb hfew hl hs hp) fun σ H Q ⟨m, B, ρ, S, rs, e, p⟩ => tE.takeA rs e p fun d S1 m1 H1 v g1 r1 e1 rd p1 => by
    split at p1
    · rename_i hL
      exact ⟨isL_ty r1 rd hL, tAr.take r1 e1 p1 fun ds S2 m2 H2 vs g2 r2 e2 rds p2 => ok m2 B H2 S2 d ds v vs _ Q r2 (rd.mono g2.tr) rds p2⟩
    · exact p1.elim
theorem ze_bm0 (sl : Slot "list" nm id) (hty : typeOf (.builtin id) = pure (.type "method_descriptor")) (hm : MtR X id r) (ok : OkM X.K r f) (ho : ZE X o dobj) (hb : attributeBase o nm X.env (eval o X.env) = eval o X.env := by rfl) (hl : (apos.endLine == pos.line) = true := by rfl) :
    ZE X (.Call (.Attribute o nm apos) [] [] pos) (eBM f dobj aN) := fun W tk =>
  pe_weak (pe_bm0 PySem.F.plainAttrs_list sl hty hm (ho W tk) hb hl) fun σ H Q ⟨m, B, ρ, S, rs, e, p⟩ => tE.takeA rs e p fun d S1 m1 H1 v g1 r1 e1 rd p1 => by
    split at p1
    · rename_i hL
      exact ⟨isL_ty r1 rd hL, ok m1 B H1 S1 d [] v [] _ Q r1 rd RDs.nil p1⟩
    · exact p1.elim
end
def fApp : D → List D → Sto → R D
  | .ref n, [x], S => match S[n]? with
    | some (.lst ds) => if ds.length < 16777216 then .ok .non (S.set n (.lst (ds ++ [x]))) else .bad
    | _ => .bad
  | _, _, _ => .bad
def fPop : D → List D → Sto → R D
  | .ref n, [], S => match S[n]? with
    | some (.lst ds) => match ds[ds.length - 1]? with
      | some x => .ok x (S.set n (.lst ds.dropLast))
      | none => .bad
    | _ => .bad
  | _, _, _ => .bad
section
variable {K : PySem.W.Frag}
theorem okApp : OkM K rAppend fApp := by
  intro m B H S d ds x vs W Q rs rd rds p
  cases d <;> try exact p.elim
  rename_i n
  match ds, rds, p with
  | [], _, p => exact p.elim
  | _ :: _ :: _, _, p => exact p.elim
  | [y], rds, p =>
    obtain ⟨w, rfl, rw'⟩ := rds.one
    unfold RD at rd
    obtain ⟨a, rfl, hq⟩ := rd
    simp only [fApp] at p
    split at p
    · rename_i ds hn
      split at p
      · rename_i hz
        obtain ⟨us, hv, rv⟩ := rs.ob n a _ hq hn
        refine ⟨a, us, w, rfl, rfl, hv, by rw [← rv.len, sizeLine_eq]; exact hz, ?_⟩
        obtain ⟨g4, r4⟩ := rs.put (u := .lst (us ++ [w])) (o := .lst (ds ++ [y])) hq fun H' g h' => ⟨_, h', RDs.mono g.tr _ _ (rv.app (RDs.cons rw' RDs.nil))⟩
        exact p m _ g4 r4 _ RDn
      · exact p.elim
    · exact p.elim
theorem RDs.lastx {m B : List Addr} {H : Hp} {ds : List D} {vs : List V} {d : D} (h : RDs K m B H ds vs) (e : ds[ds.length - 1]? = some d) : ∃ v, vs[vs.length - 1]? = some v ∧ RD K m B H d v := by
  rw [← h.len]
  exact h.get e
theorem okPop : OkM K rPop fPop := by
  intro m B H S d ds x vs W Q rs rd rds p
  cases d <;> try exact p.elim
  rename_i n
  match ds, rds, p with
  | _ :: _, _, p => exact p.elim
  | [], rds, p =>
    unfold RDs at rds
    unfold RD at rd
    obtain ⟨a, rfl, hq⟩ := rd
    simp only [fPop] at p
    split at p
    · rename_i ds hn
      split at p
      · rename_i y hy
        obtain ⟨us, hv, rv⟩ := rs.ob n a _ hq hn
        obtain ⟨w, hw, rw'⟩ := rv.lastx hy
        refine ⟨a, us, w, rfl, rds, hv, hw, ?_⟩
        obtain ⟨g4, r4⟩ := rs.put (u := .lst us.dropLast) (o := .lst ds.dropLast) hq fun H' g h' => ⟨_, h', RDs.mono g.tr _ _ rv.dropLast⟩
        exact p m _ g4 r4 w (rw'.mono g4.tr)
      · exact p.elim
    · exact p.elim
end
section
variable {X : Cx} {pos apos : Pos} {o e : Expr} {dobj : DE} {t : DA}
theorem ze_app (ho : ZE X o dobj) (ha : ZA X [e] t) (hb : attributeBase o "append" X.env (eval o X.env) = eval o X.env := by rfl)
    (hfew : ((backTo pos (starEach [e] X.env)).all (fun x => !x.1) && (backToKw pos (keywordEach [] X.env)).all (fun x => x.1.isSome) && decide ([e].length + ([] : List Keyword).length + (if ([] : List Keyword).isEmpty then 0 else 1) < 30)) = true := by rfl)
    (hl : (apos.endLine == pos.line) = true := by rfl) (hs : starEach [e] X.env = (false, eval e X.env) :: starEach [] X.env := by rfl) : ZE X (.Call (.Attribute o "append" apos) [e] [] pos) (eBM fApp dobj t) :=
  ze_bm PySem.F.slot_list_append PySem.F.type_list_append mt_append okApp ho ha hb hfew hl hs
theorem ze_pop (ho : ZE X o dobj) (hb : attributeBase o "pop" X.env (eval o X.env) = eval o X.env := by rfl) (hl : (apos.endLine == pos.line) = true := by rfl) : ZE X (.Call (.Attribute o "pop" apos) [] [] pos) (eBM fPop dobj aN) :=
  ze_bm0 PySem.F.slot_list_pop PySem.F.type_list_pop mt_pop okPop ho hb hl
end

/-! ### o.f = value -/
def putD (f : Str) (d : D) : List (Str × D) → List (Str × D)
  | [] => [(f, d)]
  | p :: r => if p.1 = f then (p.1, d) :: r else p :: putD f d r
theorem RFs.put {K : PySem.W.Frag} {m B : List Addr} {H : Hp} {f : Str} {d : D} {v : V} (h : RD K m B H d v) : ∀ {fs : List (Str × D)} {vs : List (Str × V)}, RFs K m B H fs vs → RFs K m B H (putD f d fs) (putF f v vs)
  | [], _, q => by
    have q' : _ = _ := q
    subst q'
    exact ⟨v, [], rfl, h, rfl⟩
  | p :: fs, _, ⟨x, r, e, h1, h2⟩ => by
    subst e
    unfold putD putF
    by_cases hp : p.1 = f
    · rw [if_pos hp, if_pos hp]
      exact ⟨v, r, rfl, h, h2⟩
    · rw [if_neg hp, if_neg hp]
      exact ⟨x, _, rfl, h1, RFs.put h h2⟩
theorem RFs.len {K : PySem.W.Frag} {m B : List Addr} {H : Hp} : ∀ {fs : List (Str × D)} {vs : List (Str × V)}, RFs K m B H fs vs → fs.length = vs.length
  | [], _, h => by
    have h' : _ = _ := h
    rw [h']
    rfl
  | p :: fs, _, ⟨x, r, e, _, h2⟩ => by
    subst e
    simp [RFs.len h2]
def sAttr (cs : List Addr) (f : Str) (a o : DE) : DS := fun ρ S => (a ρ S).to ρ fun d S1 => (o ρ S1).to ρ fun x S2 => match x with
  | .ref n => match S2[n]? with
    | some (.ins c fs) => if c ∈ cs ∧ fs.length < 1000 then .nx ρ (S2.set n (.ins c (putD f d fs))) else .bad
    | _ => .bad
  | _ => .bad
section
variable {X : Cx} {pos p1 : Pos} {a o : Expr} {da dobj : DE}
theorem zs_attr {cs : List Addr} {f : Str} (hc : NoAtt X.K cs f) (ho : ZE X o dobj) (ha : ZE X a da) (hs : swapsWith a (some (.Attribute o f p1)) pos.line X.env = pure false := by rfl) : ZS X (.Assign [.Attribute o f p1] a pos) (sAttr cs f da dobj) := fun W tk =>
  ps_weak (ps_fld (ho W tk) (ha W tk) hs) fun E σ H ⟨m, B, ρ, S, rs, e, p⟩ => tE.takeS rs e p fun d S1 m1 H1 v g1 r1 e1 rd p1 => tE.takeS r1 e1 p1 fun x S2 m2 H2 xv g2 r2 e2 rx p2 => by
    cases x <;> try exact p2.elim
    rename_i n
    have rd2 := rd.mono g2.tr
    unfold RD at rx
    obtain ⟨q, rfl, hq⟩ := rx
    simp only at p2
    split at p2
    · rename_i c fs hn
      split at p2
      · rename_i hcc
        obtain ⟨dx, vs, hv, rf⟩ := r2.ob n q _ hq hn
        refine ⟨q, c, dx, vs, rfl, hv, (hc c hcc.1).1, (hc c hcc.1).2, by rw [← rf.len]; exact hcc.2, ?_⟩
        obtain ⟨g3, r3⟩ := r2.put (u := .ins c dx (putF f v vs)) (o := .ins c (putD f d fs)) hq fun H' g h' => ⟨dx, _, h', RFs.put (rd2.mono g.tr) (RFs.mono g.tr _ _ rf)⟩
        exact p2 m2 _ σ g3 r3 (e2.mono g3.tr)
      · exact p2.elim
    · exact p2.elim
end

/-! ### a class of one's own, called -/
def eMk (C : Addr) (n : Nat) (F : List D → Sto → R D) (dd : List D) (r : DA) : DE := fun ρ S => (r ρ S).bind fun ds S1 => if (D.ref S1.length :: (ds ++ dd)).length = n then
    (F (.ref S1.length :: (ds ++ dd)) (S1 ++ [.ins C []])).bind fun d S2 => match d with
      | .non => .ok (.ref S1.length) S2
      | _ => .bad
    else .bad
theorem run_mk {X : Cx} {k : Nat} {C f : Addr} {fd : FuncData} {ps : List Str} {sp : Sp} {dvs : List V} {ds : List Value} {W : WX} {pins : List (Addr × Obj)} {σ : L2.St} {H : Hp} {s : Shared} {Q : VK} {us : List Value} {vs : List V} (tk : Takes X W) (M : Mk X.K C f)
    (ok : FnOk X.prog X.w X.K X.mg X.base (L2.CX X.prog X.w) k f fd ps sp) (hr : Room (k + 1) X.A) (hb : Binds X.K fd ps ds) (hd : Vals dvs ds) (I : Inv X pins σ H s) (r : Vals vs us)
    (h : ∀ x dx, H x = none → H dx = none → dx ≠ x → sp (.ref x :: (vs ++ dvs)) (upd (upd H dx (.own x)) x (.ins C dx [])) (fun v H2 => v = .non ∧ Q (.ref x) H2) (WE W σ)) : wpAny (model X.prog X.w) X.A (call (.ref C) us) (EP X pins σ Q) X.xe s := by
  have J := Inv.made (C := C) I
  have go := h (s.heap.objs.size + 1) s.heap.objs.size (I.hok.fresh (Nat.le_succ _)) (I.hok.fresh (Nat.le_refl _)) (Nat.ne_of_lt (Nat.lt_succ_self _))
  have rr : Vals (V.ref (s.heap.objs.size + 1) :: (vs ++ dvs)) (Value.ref (s.heap.objs.size + 1) :: (us ++ ds)) := .cons rfl (r.append hd)
  have len : (Value.ref (s.heap.objs.size + 1) :: us ++ ds).length = ps.length := by
    have q := rr.length
    rw [ok.len _ _ _ _ go] at q
    exact q.symm
  have body := ok.run _ X.stack _ _ ⟨Value.ref (s.heap.objs.size + 1) :: us, []⟩ (Value.ref (s.heap.objs.size + 1) :: (us ++ ds)) _ _ (WE W σ) (hr.make C us []) (J.env0.make C us []) (hb _ (Value.ref (s.heap.objs.size + 1) :: us) J.kIn len) rr go
  refine wpAny_call (make_map (f := f) I.kIn M.makes M.init (beq_iff_eq.mp M.fn) (codeAny_mono body fun r s' z => ?_))
  match r with
  | .error e => exact passAt tk σ _ _ _ e s' J z
  | .ok .next => exact z.elim
  | .ok .brk => exact z.elim
  | .ok .cont => exact z.elim
  | .ok (.ret u) =>
    obtain ⟨v, H', J2, rv, ev, q⟩ := J.after z
    subst ev
    exact ⟨rv, V.ref (s.heap.objs.size + 1), H', J2, rfl, q⟩
section
variable {X : Cx} {pos p0 : Pos} {e : Expr} {es : List Expr} {x : Str} {t : DA} {k n : Nat} {f C : Addr} {fd : FuncData} {ps : List Str} {F : List D → Sto → R D} {dd : List D} {dvs : List V} {ds : List Value}
/-- what a new instance is to the promise of its __init__ -/
theorem mk_sp {K : PySem.W.Frag} {W : WX} {σ : L2.St} {Q : VK} {m B : List Addr} {H : Hp} {S : Sto} {das : List D} {vs : List V} (rs : RS K m B H S) (rd : RDs K m B H das vs)
    (p : Post K m B H (fun c x H' => W c x σ H') (fun d _ m' H' => ∀ v, RD K m' B H' d v → Q v H') (if (D.ref S.length :: das).length = n then (F (.ref S.length :: das) (S ++ [.ins C []])).bind fun d S2 => match d with
      | .non => .ok (.ref S.length) S2
      | _ => .bad
    else .bad)) (x dx : Addr) (hx : H x = none) (hdx : H dx = none) (hne : dx ≠ x) : spI K n F (.ref x :: vs) (upd (upd H dx (.own x)) x (.ins C dx [])) (fun v H2 => v = .non ∧ Q (.ref x) H2) (WE W σ) := by
  split at p
  · rename_i hn
    obtain ⟨g1, r1⟩ := rs.new (u := .own x) hdx
    have hx1 : upd H dx (.own x) x = none := by rw [upd_ne (Ne.symm hne)]; exact hx
    have r2 := r1.ban (u := .ins C dx []) hx1
    have r3 : RS K (m ++ [x]) B (upd (upd H dx (.own x)) x (.ins C dx [])) (S ++ [.ins C []]) := r2.own (r1.notB hx1) ⟨dx, [], upd_same, rfl⟩
    have g2 : Ge m H (m ++ [x]) (upd (upd H dx (.own x)) x (.ins C dx [])) := (g1.trans (r1.new hx1).1).own (nw_none hx)
    have tr : Tr m B H (m ++ [x]) B (upd (upd H dx (.own x)) x (.ins C dx [])) := g2.tr
    have at_ : (m ++ [x])[S.length]? = some x := by
      rw [← rs.len, List.getElem?_append_right (Nat.le_refl _)]
      simp
    refine ⟨m ++ [x], B, .ref S.length :: das, S ++ [.ins C []], r3, RDs.cons (by unfold RD; exact ⟨x, rfl, at_⟩) (RDs.mono tr _ _ rd), hn, ?_⟩
    refine (Post.bind (Post.ge p g2)).imp fun d S2 m2 H2 g3 r4 p2 v rv => ?_
    cases d <;> try exact p2.elim
    unfold RD at rv
    refine ⟨rv, ?_⟩
    have p3 : Post K m2 B H2 _ _ (R.ok (D.ref S.length) S2) := p2
    refine p3.now r4 _ ?_
    unfold RD
    exact ⟨x, rfl, (g3.tr (B := B)).at_ _ _ at_⟩
  · exact p.elim
theorem ze_mk (M : Mk X.K C f) (ok : FnOk X.prog X.w X.K X.mg X.base (L2.CX X.prog X.w) k f fd ps (spI X.K n F)) (hr : Room (k + 1) X.A) (hm : X.mg x = some (.ref C)) (hb : Binds X.K fd ps ds) (hd : Vals dvs ds) (hdd : ∀ m B H, RDs X.K m B H dd dvs) (ha : ZA X (e :: es) t) (hg : Gl X x := by rfl) (hdb : (x == ("__debug__" : Str)) = false := by decide)
    (he : starEach (e :: es) X.env = (false, eval e X.env) :: starEach es X.env := by rfl) (hpl : (backTo pos (starEach es X.env)).any (·.1) = false := by rfl) : ZE X (.Call (.Name x p0) (e :: es) [] pos) (eMk C n F dd t) := fun W tk => ⟨fun pins s σ H Q I ⟨m, B, ρ, S, rs, e, p⟩ => by
  refine wpAny_Call_Name_kw (ld_glob I hg hm ?_ hdb)
  refine PySem.W.callWith_K (h₀ := X.base) I.ok.mod.kin M.kp (thn ((ha W tk).run pos pins s σ H (fun vs H1 => ∀ y dx, H1 y = none → H1 dx = none → dx ≠ y → spI X.K n F (.ref y :: (vs ++ dvs)) (upd (upd H1 dx (.own y)) y (.ins C dx [])) (fun v H2 => v = .non ∧ Q (.ref y) H2) (WE W σ)) I ?_) fun us s1 hh => ?_) he hpl
  · refine tAr.take rs e p fun das S1 m1 H1 vs g1 r1 e1 rds p1 => ?_
    exact mk_sp r1 (rds.app (hdd _ _ _)) p1
  · obtain ⟨vs, H1, I1, r, q⟩ := hh
    exact ⟨I1.kIn, run_mk tk M ok hr hb hd I1 r q⟩⟩
theorem ze_mk0 (M : Mk X.K C f) (ok : FnOk X.prog X.w X.K X.mg X.base (L2.CX X.prog X.w) k f fd ps (spI X.K n F)) (hr : Room (k + 1) X.A) (hm : X.mg x = some (.ref C)) (hb : Binds X.K fd ps ds) (hd : Vals dvs ds) (hdd : ∀ m B H, RDs X.K m B H dd dvs) (hg : Gl X x := by rfl) (hdb : (x == ("__debug__" : Str)) = false := by decide) :
    ZE X (.Call (.Name x p0) [] [] pos) (eMk C n F dd aN) := fun W tk => ⟨fun pins s σ H Q I ⟨m, B, ρ, S, rs, e, p⟩ => by
  refine wpAny_Call_Name_kw (ld_glob I hg hm ?_ hdb)
  exact PySem.W.callWith_K0 I.kIn M.kp (run_mk (us := []) (vs := []) tk M ok hr hb hd I .nil (mk_sp (das := [] ++ dd) rs (by simpa using hdd m B H) p))⟩
end

/-! ### what is raised nowhere, what is never reached -/
theorem zs_bad {X : Cx} {st : Stmt} : ZS X st fun _ _ => .bad := fun W tk => ⟨fun pins s σ H D I ⟨m, B, ρ, S, rs, e, p⟩ => p.elim⟩
theorem ze_bad {X : Cx} {e : Expr} : ZE X e fun _ _ => .bad := fun W tk => ⟨fun pins s σ H D I ⟨m, B, ρ, S, rs, e, p⟩ => p.elim⟩
end Z
namespace Z
open PySem PySem.Spec PyProof.Rows L2

/-! ### enumerate of a tuple -/
section
theorem meets_enum1 {v : Value} {o : Obj} {H : Heap → Prop} (B : Begins v o H) :
    Meets (Builtin.«enumerate.__new__» ⟨[.type "enumerate", v], []⟩) (fun _ R s => H s.heap ∧
      R (.ok (.ret (.ref (s.heap.push o).objs.size))) { s with heap := (s.heap.push o).push { cls := .type "enumerate", data := .fields #[.none, .bool false, .ref s.heap.objs.size, rawInt 0, .none, .none] } }) :=
  .of_wp fun prog w A R s h => by
    obtain ⟨hp, gs, dr, tk, os⟩ := s
    obtain ⟨hH, hR⟩ := h
    have sub := sub_enumerate
    have it : ∀ {A' : Around} {E : Value → Shared → Prop} {Q : Value → Shared → Prop}, Q (.ref hp.objs.size) ⟨hp.push o, gs, dr, tk, os⟩ → wpAny (model prog w) A' (pyIter v) Q E ⟨hp, gs, dr, tk, os⟩ :=
      fun q => B.iter prog w _ _ ⟨hp, gs, dr, tk, os⟩ _ hH q
    wp_walk using it
    refine wpAny_stack_any fun st => wpAny_pure ?_
    split
    · rename_i c _ _ _ _ _
      cases (c == Value.type "enumerate") <;> (wp_walk using it; exact ⟨_, rfl, hR⟩)
    · wp_walk using it
      exact ⟨_, rfl, hR⟩
end
section
variable {prog : Program} {w : World} {A : Around} {E : Value → Shared → Prop} {s : Shared}
theorem call_enum1 {v : Value} {o : Obj} {H : Heap → Prop} {Q : Value → Shared → Prop} (B : Begins v o H) (h1 : H s.heap)
    (h : ∀ h', IsEnum h' (s.heap.objs.size + 1) s.heap.objs.size 0 .none → h'.get? s.heap.objs.size = some o → (∀ b o, s.heap.get? b = some o → h'.get? b = some o) → Q (.ref (s.heap.objs.size + 1)) { s with heap := h' }) :
    wpAny (model prog w) A (call (.type "enumerate") [v]) Q E s := by
  refine callType_new F.called_enumerate (by decide) (F.typeCall_enumerate_1 _) (F.newCall_enumerate_1 _) (fun obj => F.args_object_init_2 obj _) F.entry_enumerate_new (meets_enum1 B) ⟨h1, ?_⟩
  show _ ∧ _
  have z1 : (s.heap.push o).objs.size = s.heap.objs.size + 1 := Heap.size_push ..
  rw [z1]
  have e1 : IsEnum ((s.heap.push o).push { cls := .type "enumerate", data := .fields #[.none, .bool false, .ref s.heap.objs.size, rawInt 0, .none, .none] }) (s.heap.objs.size + 1) s.heap.objs.size 0 .none := by
    have q := Heap.get?_push_size (s.heap.push o) (o := { cls := .type "enumerate", data := .fields #[.none, .bool false, .ref s.heap.objs.size, rawInt 0, .none, .none] }) rfl
    rw [z1] at q
    exact q
  exact ⟨⟨_, e1, rfl⟩, h _ e1 (Heap.get?_push_of_some _ (Heap.get?_push_size _ B.free)) fun b o x => Heap.get?_push_of_some _ (Heap.get?_push_of_some _ x)⟩
end
/-- the tuple at a at each turn, each item in a new pair -/
def IteT (K : PySem.W.Frag) (a : Addr) : It :=
  ⟨fun i H => ∃ (xs : List V) (x : V), SqT K H a xs ∧ xs[i]? = some x, fun i H v H' => ∃ T x, v = .ref T ∧ H T = none ∧ H' = upd H T (.tup [.int (i : Nat), x]) ∧ ∀ xs, SqT K H a xs → xs[i]? = some x, fun i H => ∃ xs : List V, SqT K H a xs ∧ xs.length ≤ i⟩
theorem turn_enumT {P : Program} {w : World} {K : PySem.W.Frag} {elts : List Expr} {kk : Nat} {tpos : Pos} (a e it : Addr) :
    Turn P w K (.Tuple elts kk tpos) (IteT K a) [e, it] e (fun i h => (∃ old, IsEnum h e it ((i : Nat) : Int) old) ∧ h.IsTupleIter it a i ∧ e ≠ it) where
  mem := List.mem_cons_self ..
  obj := fun i h st b hb => by
    obtain ⟨⟨old, he⟩, ⟨o, ho, hc, hd⟩, _⟩ := st
    rcases List.mem_cons.mp hb with z | z
    · rw [z]; exact ⟨_, he, fun v q => nomatch q⟩
    · rw [List.mem_singleton.mp z]; exact ⟨o, ho, fun v q => by rw [hd] at q; cases q⟩
  keep := fun i h h' st k => by
    obtain ⟨⟨old, he⟩, hi, ne⟩ := st
    exact ⟨⟨old, k e (List.mem_cons_self ..) _ he⟩, hi.at fun o q => k it (List.mem_cons_of_mem _ (List.mem_cons_self ..)) o q, ne⟩
  item := by
    intro X hP hw hK hc i pins s σ H E I hf st hg
    subst hP hw hK
    obtain ⟨⟨old, he⟩, hit, hne⟩ := st
    obtain ⟨xs, x, hq, hx⟩ := hg
    obtain ⟨its, rv, p, hz⟩ := I.tuple hq
    obtain ⟨u, hu, ru⟩ := rv.get hx
    have l1 : e < s.heap.objs.size := Heap.lt_size he
    have l2 : it < s.heap.objs.size := by obtain ⟨_, q, _⟩ := hit; exact Heap.lt_size q
    have nae : a ≠ e := fun z => by
      obtain ⟨o, ho, hc', _⟩ := id p
      rw [z, he] at ho
      cases ho
      exact absurd (show Value.type "enumerate" = .type "tuple" from hc') (by decide)
    have nai : a ≠ it := fun z => by
      obtain ⟨o, ho, hc', _⟩ := id p
      obtain ⟨o2, ho2, hc2, _⟩ := id hit
      rw [z, ho2] at ho
      cases ho
      rw [hc2] at hc'
      exact absurd hc' (by decide)
    have nef : e ∉ [it, a] := by simp [hne, Ne.symm nae]
    have hi : i < its.toArray.size := by simp; rw [← rv.length]; exact (List.getElem?_eq_some_iff.mp hx).1
    refine wpAny_pyNext_enum_itemC (Draws.tuple (A := X.A.in1) (I.ok.hd hc) it a nai its.toArray) he ⟨hit, p⟩ hi hne nef fun y h' tk hy ho hst hT hsz hk => ?_
    have hy' : its.toArray[i]? = some y := hy
    have ey : y = u := by simp at hy'; rw [hu] at hy'; cases hy'; rfl
    subst ey
    refine ⟨_, rfl, wpAny_letOwnedTupleGo_enum (s := { s with heap := h', toks := tk + 1 }) ho fun h2 he' sb => ?_⟩
    have hT2 : h2.get? s.heap.objs.size = some { cls := .type "tuple", data := .seq #[.int i tk, y] } := (sb.2 _ (Nat.ne_of_gt l1)).trans hT
    have new : ObjOk X.prog X.w (upd H s.heap.objs.size (.tup [.int (i : Nat), x])) h2 s.heap.objs.size (.tup [.int (i : Nat), x]) :=
      ⟨by show 2 ≤ sizeLine; decide, [.int i tk, y], .cons ⟨_, rfl⟩ (.cons ru .nil), ⟨_, hT2, rfl, _, rfl⟩⟩
    have J : Inv X pins σ (upd H s.heap.objs.size (.tup [.int (i : Nat), x])) { s with heap := h2, toks := tk + 1 } :=
      I.turnedNew (ch := [e, it]) (fun b ob hb q => (sb.2 b (fun z => hb (by simp [z]))).trans (hk b ob (fun z => hb (by simp [z])) (fun z => hb (by simp [z])) q)) hf (Nat.le_refl _) new
    refine ⟨.ref s.heap.objs.size, _, J, rfl, ⟨_, x, rfl, I.hok.fresh (Nat.le_refl _), rfl, fun ys hy => by rw [I.tuple_inj hy hq]; exact hx⟩, ⟨⟨y, ?_⟩, hst.1.at fun o q => (sb.2 it (Ne.symm hne)).trans q, hne⟩, fun b hb => ?_⟩
    · have e2 : ((i + 1 : Nat) : Int) = (i : Int) + 1 := by omega
      rw [e2]
      exact he'
    · have lb : b < s.heap.objs.size := by
        rcases List.mem_cons.mp hb with z | z
        · rw [z]; exact l1
        · rw [List.mem_singleton.mp z]; exact l2
      rw [upd_ne (Nat.ne_of_lt lb)]
      exact (hf b hb).1
  done := by
    intro X hP hw hK hc i pins s σ H E I hf st hg
    subst hP hw hK
    obtain ⟨⟨old, he⟩, hit, hne⟩ := st
    obtain ⟨xs, hq, hx⟩ := hg
    obtain ⟨its, rv, p, hz⟩ := I.tuple hq
    obtain ⟨f0, f1, f2, f3, f4, f5⟩ := hf it (by simp)
    have hl := rv.length
    have hT : s.TypeIs (.ref e) "enumerate" := ⟨_, he, rfl⟩
    unfold pyNext
    refine wpAny_bind (wpAny_attempt (wpAny_callSpecial?_slot (name := Str.ofString "__next__") hT F.slot_enumerate_next
      (wpAny_call_entry F.slot_enumerate_next hT F.entry_enumerate_next ?_ (F.args_enumerate_next_1 _))))
    show wpAny _ _ (field (.ref e) 2 >>= _) _ _ _
    refine wpAny_bind (wpAny_field he rfl (x := .ref it) rfl ?_)
    refine wpAny_bind (wpAny_nextOf_tuple_end (I.ok.hd hc) hit p (by simp; omega) fun h' x eb hx' => ?_)
    obtain ⟨o, ho, hco⟩ := hx'
    refine wpAny_bind (wpAny_isInstance (T := "StopIteration") (b := true) ⟨o, ho, hco⟩ isSubtype_stop ?_)
    exact wpAny_pure ⟨rfl, I.turned (t' := s.toks) (fun b o hb q => eb b o hb q) f0 f1 f3 f4 f5⟩
  self := fun A i s Q E st h => by
    obtain ⟨⟨_, he⟩, _⟩ := st
    exact wpAny_pyIter_enum he h
/-! ### what is walked, told by what it gives -/
/-- the thing at a has the items ds as long as the store is so -/
def SY (K : PySem.W.Frag) (Sq : Hp → Addr → List V → Prop) (a : Addr) (m0 B0 : List Addr) (H0 : Hp) (ds : List D) (chk : Sto → Prop) : Prop :=
  ∀ m B H S, Tr m0 B0 H0 m B H → RS K m B H S → chk S → ∃ vs, Sq H a vs ∧ RDs K m B H ds vs
def enumF (k : Nat) : List D → List D
  | [] => []
  | d :: ds => .tup [.int (k : Nat), d] :: enumF (k + 1) ds
theorem enumF_len : ∀ (k : Nat) (ds : List D), (enumF k ds).length = ds.length
  | _, [] => rfl
  | k, d :: ds => by simp [enumF, enumF_len (k + 1) ds]
theorem enumF_get : ∀ (ds : List D) (k i : Nat) (d : D), ds[i]? = some d → (enumF k ds)[i]? = some (.tup [.int ((k + i : Nat) : Int), d])
  | [], _, _, _, h => by simp at h
  | d :: ds, k, 0, _, h => by simp at h; simp [enumF, h]
  | d :: ds, k, i + 1, _, h => by
    simp at h
    simp only [enumF, List.getElem?_cons_succ]
    rw [enumF_get ds (k + 1) i _ h]
    congr 5
    omega
def zipD : List D → List D → List D
  | x :: xs, y :: ys => .tup [x, y] :: zipD xs ys
  | _, _ => []
theorem zipD_len : ∀ (xs ys : List D), (zipD xs ys).length = min xs.length ys.length
  | [], _ => by simp [zipD]
  | _ :: _, [] => by simp [zipD]
  | x :: xs, y :: ys => by simp [zipD, zipD_len xs ys]
theorem zipD_get : ∀ (xs ys : List D) (i : Nat) (x y : D), xs[i]? = some x → ys[i]? = some y → (zipD xs ys)[i]? = some (.tup [x, y])
  | [], _, _, _, _, h, _ => by simp at h
  | _ :: _, [], _, _, _, _, h => by simp at h
  | x :: xs, y :: ys, 0, _, _, h, h' => by simp_all [zipD]
  | x :: xs, y :: ys, i + 1, _, _, h, h' => by
    simp at h h'
    simp only [zipD, List.getElem?_cons_succ]
    exact zipD_get xs ys i _ _ h h'
section
variable {K : PySem.W.Frag} {m0 B0 : List Addr} {H0 : Hp} {ds es : List D} {a b : Addr} {chk chk2 : Sto → Prop}
theorem RDs.getD {m B : List Addr} {H : Hp} {vs : List V} {i : Nat} (r : RDs K m B H ds vs) (h : i < ds.length) : ∃ v, vs[i]? = some v ∧ RD K m B H (ds[i]) v := r.get (by simp [h])
theorem new_pair {m B : List Addr} {H : Hp} {S : Sto} {T : Addr} {xs : List V} {us : List D} (rs : RS K m B H S) (hT : H T = none) (r : RDs K m B H us xs) : (∀ b o, H b = some o → upd H T (.tup xs) b = some o) ∧ RD K m B (upd H T (.tup xs)) (.tup us) (.ref T) := by
  refine ⟨new_ext hT, ?_⟩
  unfold RD
  exact ⟨T, xs, rfl, .inl ⟨rs.notin hT, rs.notB hT, .inl upd_same⟩, RDs.mono (rs.new hT).1.tr _ _ r⟩
theorem jy_enum (s : SY K (SqL K) a m0 B0 H0 ds chk) : JY K (Ite K a) m0 B0 H0 (enumF 0 ds) chk where
  go := fun i m B H S t rs hc hi => by
    rw [enumF_len] at hi
    obtain ⟨vs, q, r⟩ := s m B H S t rs hc
    obtain ⟨v, hv, _⟩ := r.getD hi
    exact ⟨vs, v, q, hv⟩
  yl := fun i m B H S x H' d t rs hc hd y => by
    have hi := (List.getElem?_eq_some_iff.mp hd).1
    rw [enumF_len] at hi
    obtain ⟨vs, q, r⟩ := s m B H S t rs hc
    obtain ⟨v, hv, rv⟩ := r.getD hi
    obtain ⟨T, w, rfl, hT, rfl, hall⟩ := y
    have e := hall vs q
    rw [hv] at e
    cases e
    rw [enumF_get ds 0 i ds[i] (by simp [hi]), Nat.zero_add] at hd
    cases hd
    exact new_pair rs hT (RDs.cons (RDi _) (RDs.cons rv RDs.nil))
  st := fun i m B H S t rs hc hi => by
    rw [enumF_len] at hi
    obtain ⟨vs, q, r⟩ := s m B H S t rs hc
    exact ⟨vs, q, by rw [← r.len]; exact hi⟩
theorem jy_enumT (s : SY K (SqT K) a m0 B0 H0 ds chk) : JY K (IteT K a) m0 B0 H0 (enumF 0 ds) chk where
  go := fun i m B H S t rs hc hi => by
    rw [enumF_len] at hi
    obtain ⟨vs, q, r⟩ := s m B H S t rs hc
    obtain ⟨v, hv, _⟩ := r.getD hi
    exact ⟨vs, v, q, hv⟩
  yl := fun i m B H S x H' d t rs hc hd y => by
    have hi := (List.getElem?_eq_some_iff.mp hd).1
    rw [enumF_len] at hi
    obtain ⟨vs, q, r⟩ := s m B H S t rs hc
    obtain ⟨v, hv, rv⟩ := r.getD hi
    obtain ⟨T, w, rfl, hT, rfl, hall⟩ := y
    have e := hall vs q
    rw [hv] at e
    cases e
    rw [enumF_get ds 0 i ds[i] (by simp [hi]), Nat.zero_add] at hd
    cases hd
    exact new_pair rs hT (RDs.cons (RDi _) (RDs.cons rv RDs.nil))
  st := fun i m B H S t rs hc hi => by
    rw [enumF_len] at hi
    obtain ⟨vs, q, r⟩ := s m B H S t rs hc
    exact ⟨vs, q, by rw [← r.len]; exact hi⟩
theorem jy_zipT (s : SY K (SqT K) a m0 B0 H0 ds chk) (s2 : SY K (SqT K) b m0 B0 H0 es chk2) : JY K (RZ.ItzT K a b) m0 B0 H0 (zipD ds es) fun S => chk S ∧ chk2 S where
  go := fun i m B H S t rs hc hi => by
    rw [zipD_len] at hi
    obtain ⟨vs, q, r⟩ := s m B H S t rs hc.1
    obtain ⟨ws, q2, r2⟩ := s2 m B H S t rs hc.2
    obtain ⟨v, hv, _⟩ := r.getD (i := i) (by omega)
    obtain ⟨w, hw, _⟩ := r2.getD (i := i) (by omega)
    exact ⟨vs, ws, v, w, q, q2, hv, hw⟩
  yl := fun i m B H S x H' d t rs hc hd y => by
    have hi := (List.getElem?_eq_some_iff.mp hd).1
    rw [zipD_len] at hi
    obtain ⟨vs, q, r⟩ := s m B H S t rs hc.1
    obtain ⟨ws, q2, r2⟩ := s2 m B H S t rs hc.2
    have h1 : i < ds.length := by omega
    have h2 : i < es.length := by omega
    obtain ⟨v, hv, rv⟩ := r.getD h1
    obtain ⟨w, hw, rw'⟩ := r2.getD h2
    obtain ⟨T, x', y', rfl, hT, rfl, hall, hall2⟩ := y
    have e := hall vs q
    rw [hv] at e
    cases e
    have e := hall2 ws q2
    rw [hw] at e
    cases e
    rw [zipD_get ds es i ds[i] es[i] (by simp [h1]) (by simp [h2])] at hd
    cases hd
    exact new_pair rs hT (RDs.cons rv (RDs.cons rw' RDs.nil))
  st := fun i m B H S t rs hc hi => by
    rw [zipD_len] at hi
    obtain ⟨vs, q, r⟩ := s m B H S t rs hc.1
    obtain ⟨ws, q2, r2⟩ := s2 m B H S t rs hc.2
    exact ⟨vs, ws, q, q2, by rw [← r.len, ← r2.len]; omega⟩
theorem jy_zip (s : SY K (SqL K) a m0 B0 H0 ds chk) (s2 : SY K (SqL K) b m0 B0 H0 es chk2) : JY K (Itz K a b) m0 B0 H0 (zipD ds es) fun S => chk S ∧ chk2 S where
  go := fun i m B H S t rs hc hi => by
    rw [zipD_len] at hi
    obtain ⟨vs, q, r⟩ := s m B H S t rs hc.1
    obtain ⟨ws, q2, r2⟩ := s2 m B H S t rs hc.2
    obtain ⟨v, hv, _⟩ := r.getD (i := i) (by omega)
    obtain ⟨w, hw, _⟩ := r2.getD (i := i) (by omega)
    exact ⟨vs, ws, v, w, q, q2, hv, hw⟩
  yl := fun i m B H S x H' d t rs hc hd y => by
    have hi := (List.getElem?_eq_some_iff.mp hd).1
    rw [zipD_len] at hi
    obtain ⟨vs, q, r⟩ := s m B H S t rs hc.1
    obtain ⟨ws, q2, r2⟩ := s2 m B H S t rs hc.2
    have h1 : i < ds.length := by omega
    have h2 : i < es.length := by omega
    obtain ⟨v, hv, rv⟩ := r.getD h1
    obtain ⟨w, hw, rw'⟩ := r2.getD h2
    obtain ⟨T, x', y', rfl, hT, rfl, hall, hall2⟩ := y
    have e := hall vs q
    rw [hv] at e
    cases e
    have e := hall2 ws q2
    rw [hw] at e
    cases e
    rw [zipD_get ds es i ds[i] es[i] (by simp [h1]) (by simp [h2])] at hd
    cases hd
    exact new_pair rs hT (RDs.cons rv (RDs.cons rw' RDs.nil))
  st := fun i m B H S t rs hc hi => by
    rw [zipD_len] at hi
    obtain ⟨vs, q, r⟩ := s m B H S t rs hc.1
    obtain ⟨ws, q2, r2⟩ := s2 m B H S t rs hc.2
    exact ⟨vs, ws, q, q2, by rw [← r.len, ← r2.len]; omega⟩
end
/-- a list that may be walked: its items, and what the store must keep -/
def lstC (S : Sto) : D → Option (List D × (Sto → Prop))
  | .lst ds => some (ds, fun _ => True)
  | .scr ds => some (ds, fun _ => True)
  | .ref n => match S[n]? with
    | some (.lst ds) => some (ds, fun S' => S'[n]? = some (.lst ds))
    | _ => none
  | _ => none
section
variable {K : PySem.W.Frag} {m B : List Addr} {H : Hp} {S : Sto}
theorem lstC_ok {d : D} {v : V} {p : List D × (Sto → Prop)} (rs : RS K m B H S) (rd : RD K m B H d v) (h : lstC S d = some p) : ∃ a, v = .ref a ∧ SY K (SqL K) a m B H p.1 p.2 ∧ p.2 S := by
  cases d <;> try (cases h; done)
  · unfold RD at rd
    obtain ⟨a, vs, rfl, f, r⟩ := rd
    cases h
    exact ⟨a, rfl, fun m' B' H' S' t _ _ => ⟨vs, (f.mono t).sq, RDs.mono t _ _ r⟩, trivial⟩
  · unfold RD at rd
    obtain ⟨a, vs, rfl, f, r⟩ := rd
    cases h
    exact ⟨a, rfl, fun m' B' H' S' t _ _ => ⟨vs, (f.mono t).sq, RDs.mono t _ _ r⟩, trivial⟩
  · rename_i n
    unfold RD at rd
    obtain ⟨a, rfl, q⟩ := rd
    simp only [lstC] at h
    split at h
    · rename_i ds hn
      cases h
      refine ⟨a, rfl, fun m' B' H' S' t rs' hc => ?_, hn⟩
      obtain ⟨vs, ea, rv⟩ := rs'.ob n a _ (t.at_ _ _ q) hc
      exact ⟨vs, SqL.of ea, rv⟩
    · cases h
theorem tupC_ok {ds : List D} {v : V} (rd : RD K m B H (.tup ds) v) : ∃ a, v = .ref a ∧ SY K (SqT K) a m B H ds fun _ => True := by
  unfold RD at rd
  obtain ⟨a, vs, rfl, f, r⟩ := rd
  exact ⟨a, rfl, fun m' B' H' S' t _ _ => ⟨vs, (f.mono t).sq, RDs.mono t _ _ r⟩⟩
end
def iEnumD (a : DE) : DI := fun ρ S => (a ρ S).bind fun d S1 => match d with
  | .tup ds => .ok (enumF 0 ds, fun _ => True) S1
  | d => match lstC S1 d with
    | some p => .ok (enumF 0 p.1, p.2) S1
    | none => .bad
def fEnum : List D → Sto → R (List D × (Sto → Prop))
  | [.tup ds], S1 => .ok (enumF 0 ds, fun _ => True) S1
  | [d], S1 => match lstC S1 d with
    | some p => .ok (enumF 0 p.1, p.2) S1
    | none => .bad
  | _, _ => .bad
def fZip : List D → Sto → R (List D × (Sto → Prop))
  | [.tup xs, .tup ys], S => .ok (zipD xs ys, fun _ => True ∧ True) S
  | [d, e], S => match lstC S d, lstC S e with
    | some p, some q => .ok (zipD p.1 q.1, fun S' => p.2 S' ∧ q.2 S') S
    | _, _ => .bad
  | _, _ => .bad
def iCall (f : List D → Sto → R (List D × (Sto → Prop))) (a : DA) : DI := fun ρ S => (a ρ S).bind f
section
variable {X : Cx} {tg e e2 : Expr} {da db : DE} {t : DA} {p pos tpos : Pos} {elts : List Expr} {kk : Nat}
theorem zi_enum (hm : X.mg "enumerate" = none) (ha : ZA X [e] t) (hg : Gl X "enumerate" := by rfl) (hs : starEach [e] X.env = [(false, eval e X.env)] := by rfl) : ZI X (.Tuple elts kk tpos) (.Call (.Name "enumerate" p) [e] [] pos) (iCall fEnum t) := fun W tk => ⟨fun pins s σ H Q I ⟨m, B, ρ, S, rs, ev, p⟩ => by
  refine Call_ (ld_blt I hg hm boot_enumerate (PyProof.Rows.callWith_type1 (thn ((ha W tk).run pos pins s σ H (fun vs H1 => ∃ a, vs = [.ref a] ∧ ((∃ xs, SqL X.K H1 a xs ∧ Q (Ite X.K a) H1) ∨ (∃ xs, SqT X.K H1 a xs ∧ Q (IteT X.K a) H1))) I ?_) fun us s1 hh => ?_) hs rfl))
  · refine tAr.take rs ev p fun ds S1 m1 H1 vs g1 r1 e1 rds p1 => ?_
    match ds, rds, p1 with
    | [], _, p1 => exact p1.elim
    | _ :: _ :: _, _, p1 => exact (show False by revert p1; unfold fEnum; split <;> simp_all [Post]).elim
    | [d], rds, p1 =>
      obtain ⟨v, rfl, rv⟩ := rds.one
      by_cases ht : ∃ xs, d = .tup xs
      · obtain ⟨xs, rfl⟩ := ht
        obtain ⟨a, rfl, sy⟩ := tupC_ok rv
        obtain ⟨ws, q, _⟩ := sy m1 B H1 S1 .refl r1 trivial
        exact ⟨a, rfl, .inr ⟨ws, q, p1.now r1 trivial _ (jy_enumT sy)⟩⟩
      · have p2 : Post X.K m1 B H1 (fun c x H' => W c x σ H') (fun p S' m' H' => p.2 S' → ∀ J, JY X.K J m' B H' p.1 p.2 → Q J H') (match lstC S1 d with
          | some p => .ok (enumF 0 p.1, p.2) S1
          | none => .bad) := by
          cases d <;> first | exact p1 | exact absurd ⟨_, rfl⟩ ht
        cases hl : lstC S1 d with
        | none => rw [hl] at p2; exact p2.elim
        | some q =>
          rw [hl] at p2
          obtain ⟨a, rfl, sy, hc⟩ := lstC_ok r1 rv hl
          obtain ⟨ws, sq, _⟩ := sy m1 B H1 S1 .refl r1 hc
          exact ⟨a, rfl, .inl ⟨ws, sq, p2.now r1 hc _ (jy_enum sy)⟩⟩
  · obtain ⟨vs, H1, I1, r1, a, rfl, hh⟩ := hh
    cases r1 with
    | cons r rr =>
      cases rr
      cases r
      have fresh : ∀ b, b ∈ [s1.heap.objs.size + 1, s1.heap.objs.size] → FpOk X pins H1 b := fun b hb => by
        have le : s1.heap.objs.size ≤ b := by
          rcases List.mem_cons.mp hb with z | z
          · rw [z]; exact Nat.le_add_right _ _
          · rw [List.mem_singleton.mp z]; exact Nat.le_refl _
        exact I1.fpOk le (I1.hok.fresh le)
      rcases hh with ⟨xs, hq, q⟩ | ⟨xs, hq, q⟩
      · obtain ⟨its, rv, p', hz⟩ := I1.list hq
        refine call_enumerate_list p'.isList fun h' he hit hsz hk => wpAny_pyIter_enum he ?_
        have I2 : Inv X pins σ H1 { s1 with heap := h' } := I1.kept (t' := s1.toks) hk
        exact ⟨s1.heap.objs.size + 1, [s1.heap.objs.size + 1, s1.heap.objs.size], _, _, H1, rfl, I2, turn_enum a (s1.heap.objs.size + 1) s1.heap.objs.size, ⟨⟨.none, he⟩, hit, Nat.succ_ne_self _⟩, fresh, q⟩
      · obtain ⟨its, rv, p', hz⟩ := I1.tuple hq
        refine call_enum1 (begins_tuple a its.toArray) p' fun h' he hit hk => wpAny_pyIter_enum he ?_
        have I2 : Inv X pins σ H1 { s1 with heap := h' } := I1.kept (t' := s1.toks) hk
        exact ⟨s1.heap.objs.size + 1, [s1.heap.objs.size + 1, s1.heap.objs.size], _, _, H1, rfl, I2, turn_enumT a (s1.heap.objs.size + 1) s1.heap.objs.size, ⟨⟨.none, he⟩, ⟨_, hit, rfl, rfl⟩, Nat.succ_ne_self _⟩, fresh, q⟩⟩
theorem zi_zip (hm : X.mg "zip" = none) (ha : ZA X [e, e2] t) (hg : Gl X "zip" := by rfl) (hs : starEach [e, e2] X.env = (false, eval e X.env) :: starEach [e2] X.env := by rfl) (hpl : (backTo pos (starEach [e2] X.env)).any (·.1) = false := by rfl) :
    ZI X (.Tuple elts kk tpos) (.Call (.Name "zip" p) [e, e2] [] pos) (iCall fZip t) := fun W tk => pi_weak (RZ.pi_zipA hg hm (ha W tk) hs hpl) fun σ H Q ⟨m, B, ρ, S, rs, ev, p⟩ => tAr.take rs ev p fun ds S1 m1 H1 vs g1 r1 e1 rds p1 => by
  match ds, rds, p1 with
  | [], _, p1 => exact p1.elim
  | [_], _, p1 => exact (show False by revert p1; unfold fZip; split <;> simp_all [Post]).elim
  | _ :: _ :: _ :: _, _, p1 => exact (show False by revert p1; unfold fZip; split <;> simp_all [Post]).elim
  | [d, d2], rds, p1 =>
    obtain ⟨v, w, rfl, rv, rw'⟩ := rds.two
    by_cases ht : ∃ xs ys, d = .tup xs ∧ d2 = .tup ys
    · obtain ⟨xs, ys, rfl, rfl⟩ := ht
      obtain ⟨a, rfl, sy⟩ := tupC_ok rv
      obtain ⟨b, rfl, sy2⟩ := tupC_ok rw'
      obtain ⟨ws, q, _⟩ := sy m1 B H1 S1 .refl r1 trivial
      obtain ⟨us, q2, _⟩ := sy2 m1 B H1 S1 .refl r1 trivial
      exact ⟨a, b, ws, us, rfl, .inr ⟨q, q2, p1.now r1 ⟨trivial, trivial⟩ _ (jy_zipT sy sy2)⟩⟩
    · have p2 : Post X.K m1 B H1 (fun c x H' => W c x σ H') (fun p S' m' H' => p.2 S' → ∀ J, JY X.K J m' B H' p.1 p.2 → Q J H') (match lstC S1 d, lstC S1 d2 with
        | some p, some q => .ok (zipD p.1 q.1, fun S' => p.2 S' ∧ q.2 S') S1
        | _, _ => .bad) := by
        cases d <;> cases d2 <;> first | exact p1 | exact absurd ⟨_, _, rfl, rfl⟩ ht
      cases hl : lstC S1 d with
      | none => rw [hl] at p2; exact p2.elim
      | some x =>
        cases hl2 : lstC S1 d2 with
        | none => rw [hl, hl2] at p2; exact p2.elim
        | some y =>
          rw [hl, hl2] at p2
          obtain ⟨a, rfl, sy, hc⟩ := lstC_ok r1 rv hl
          obtain ⟨b, rfl, sy2, hc2⟩ := lstC_ok r1 rw' hl2
          obtain ⟨ws, sq, _⟩ := sy m1 B H1 S1 .refl r1 hc
          obtain ⟨us, sq2, _⟩ := sy2 m1 B H1 S1 .refl r1 hc2
          exact ⟨a, b, ws, us, rfl, .inl ⟨sq, sq2, p2.now r1 ⟨hc, hc2⟩ _ (jy_zip sy sy2)⟩⟩
end
end Z
namespace Z
open PySem L2

/-! ### comprehensions of two fors -/
open Classical in
noncomputable def lc2I (tg : Tg) (chk : Sto → Prop) (t : DT) (inn : DA) (ρ0 : Env) : List D → Sto → R (List D)
  | [], S => .ok [] S
  | d :: ds, S => match Tg.asg S tg d ρ0 with
    | none => .bad
    | some ρ1 => (t ρ1 S).safe.bind fun k S1 => if k = true then (inn ρ1 S1).safe.bind fun ys S2 => if chk S2 then (lc2I tg chk t inn ρ0 ds S2).bind fun zs S3 => .ok (ys ++ zs) S3 else .bad
      else if chk S1 then lc2I tg chk t inn ρ0 ds S1 else .bad
noncomputable def innI (tg : Tg) (i : DI) (t : DT) (e : DE) (vs : List Nat) : DA := fun ρ S => (i ρ S).safe.bind fun p S1 => lcI tg p.2 t e (wipeD ρ vs) p.1 S1
noncomputable def lLc2 (tg : Tg) (i : DI) (t : DT) (tg1 : Tg) (i1 : DI) (t1 : DT) (e : DE) (vs vs1 : List Nat) : DA := fun ρ S => (i ρ S).bind fun p S1 => (lc2I tg p.2 t (innI tg1 i1 t1 e vs1) (wipeD ρ vs) p.1 S1).safe.bind fun L S2 => if L.length ≤ 16777216 then .ok L S2 else .bad
/-- what is wanted of the list once it is longer -/
def Kont (K : PySem.W.Frag) (mO : List Addr) (HO : Hp) (mi Bi : List Addr) (Hi : Hp) (Dl : Addr) (N : List Addr → Sto → Hp → List V → List D → Prop) : R (List D) → Prop
  | .ok acc S' => acc.length ≤ 16777216 ∧ ∀ m' H' va, Ge mO HO m' H' → Tr mi Bi Hi m' Bi H' → RS K m' Bi H' S' → H' Dl = some (.lst va) → RDs K m' Bi H' acc va → N m' S' H' va acc
  | _ => False
section
variable {K : PySem.W.Frag} {tg : Tg} {dt : DT} {de : DE} {vs : List Nat} {ρ : Env} {σ : L2.St} {J : It} {ds : List D} {chk : Sto → Prop} {mO mi B : List Addr} {HO Hi : Hp} {Si : Sto} {Dl : Addr} {acc : List D} {va : List V} {Nx : Hp → Prop}
theorem lc_inner (hD : HO Dl = none) (gO : Ge mO HO mi Hi) (rs : RS K mi (Dl :: B) Hi Si) (e : REs K mi (Dl :: B) Hi ρ σ) (hc : chk Si) (jy : JY K J mi (Dl :: B) Hi ds chk) (hix : ∀ i ∈ tg.ix, i ∈ vs) (hl0 : Hi Dl = some (.lst va)) (ra0 : RDs K mi (Dl :: B) Hi acc va)
    (p : Kont K mO HO mi (Dl :: B) Hi Dl (fun _ _ H' _ _ => Nx H') ((lcI tg chk dt de (wipeD ρ vs) ds Si).bind fun ys S' => .ok (acc ++ ys) S')) : ∃ W1 : Nat → Nat → Hp → Prop, (∃ m, W1 0 m Hi) ∧ ∀ j k H, W1 j k H →
      (J.stop j H ∧ Nx H) ∨ (J.go j H ∧ ∃ Nx1 : Hp → Prop, (∀ H', Nx1 H' → ∃ k', k' < k ∧ W1 (j + 1) k' H') ∧ ∀ x H', J.yld j H x H' → gT K tg x (wipe σ vs) H' fun σ3 H5 => wipe σ3 vs = wipe σ vs ∧ tTe WF K dt σ3 H5 fun b H6 =>
        if b = true then tE WF K de σ3 H6 fun y H7 => ∃ acc, H7 Dl = some (.lst acc) ∧ acc.length < sizeLine ∧ Nx1 (upd H7 Dl (.lst (acc ++ [y]))) else Nx1 H6) := by
  let St := fun (i : Nat) (H : Hp) => i ≤ ds.length ∧ ∃ m S acc va, Ge mO HO m H ∧ Tr mi (Dl :: B) Hi m (Dl :: B) H ∧ RS K m (Dl :: B) H S ∧ chk S ∧ H Dl = some (.lst va) ∧ RDs K m (Dl :: B) H acc va ∧
    Kont K mO HO mi (Dl :: B) Hi Dl (fun _ _ H' _ _ => Nx H') ((lcI tg chk dt de (wipeD ρ vs) (ds.drop i) S).bind fun ys S' => .ok (acc ++ ys) S')
  refine ⟨fun i k H => k = ds.length - i ∧ St i H, ⟨_, rfl, Nat.zero_le _, mi, Si, acc, va, gO, .refl, rs, hc, hl0, ra0, p⟩, ?_⟩
  rintro i k H ⟨rfl, hi, m, S, acc, va, g, tr, r, hch, hl, ra, p2⟩
  by_cases hlt : i < ds.length
  · refine .inr ⟨jy.go i m (Dl :: B) H S tr r hch hlt, St (i + 1), fun H' h => ⟨ds.length - (i + 1), by omega, rfl, h⟩, fun x H3 y => ?_⟩
    obtain ⟨ext, rx⟩ := jy.yl i m (Dl :: B) H S x H3 ds[i] tr r hch (by simp [hlt]) y
    obtain ⟨g3, r3⟩ := r.ext ext
    rw [List.drop_eq_getElem_cons hlt] at p2
    unfold lcI at p2
    have ew : REs K m (Dl :: B) H3 (wipeD ρ vs) (wipe σ vs) := (e.mono (tr.trans g3.tr)).wipe vs
    cases ha : Tg.asg S tg ds[i] (wipeD ρ vs) with
    | none => rw [ha] at p2; exact (show False from p2).elim
    | some ρ1 =>
      rw [ha] at p2
      simp only at p2
      refine ⟨m, Dl :: B, S, _, wipeD ρ vs, ρ1, r3, rx, ew, ha, fun σ2 e2 sam => ⟨by rw [sam vs hix, wipe_wipe], m, Dl :: B, ρ1, S, r3, e2, ?_⟩⟩
      cases ht : dt ρ1 S with
      | exc _ _ _ => rw [ht] at p2; exact (show False from p2).elim
      | bad => rw [ht] at p2; exact (show False from p2).elim
      | ok b S1 =>
        rw [ht] at p2
        simp only [R.safe_ok, R.bind_ok] at p2
        refine fun m4 H4 g4 r4 => ?_
        have hl4 : H4 Dl = some (.lst va) := (g4.keep Dl _ (fun q => r3.dis Dl q (List.mem_cons_self ..)) (ext _ _ hl) (fun ps e => by cases e)).2
        have ra4 := RDs.mono (g3.tr.trans g4.tr) _ _ ra
        cases b with
        | false =>
          rw [if_neg Bool.false_ne_true] at p2
          show St (i + 1) H4
          split at p2
          · rename_i hc1
            exact ⟨hlt, m4, S1, acc, va, (g.trans g3).trans g4, (tr.trans g3.tr).trans g4.tr, r4, hc1, hl4, ra4, p2⟩
          · exact (show False from p2).elim
        | true =>
          rw [if_pos rfl] at p2
          show tE WF K de σ2 H4 _
          refine ⟨m4, Dl :: B, ρ1, S1, r4, e2.mono g4.tr, ?_⟩
          cases he : de ρ1 S1 with
          | exc _ _ _ => rw [he] at p2; exact (show False from p2).elim
          | bad => rw [he] at p2; exact (show False from p2).elim
          | ok y S2 =>
            rw [he] at p2
            simp only [R.safe_ok, R.bind_ok] at p2
            refine fun m5 H5 g5 r5 v rv => ?_
            have hl5 : H5 Dl = some (.lst va) := (g5.keep Dl _ (fun q => r4.dis Dl q (List.mem_cons_self ..)) hl4 (fun ps e => by cases e)).2
            have ra5 := RDs.mono g5.tr _ _ ra4
            split at p2
            · rename_i hc2
              have p3 : Kont K mO HO mi (Dl :: B) Hi Dl (fun _ _ H' _ _ => Nx H') ((lcI tg chk dt de (wipeD ρ vs) (ds.drop (i + 1)) S2).bind fun ys S' => .ok ((acc ++ [y]) ++ ys) S') := by
                cases hr : lcI tg chk dt de (wipeD ρ vs) (ds.drop (i + 1)) S2 with
                | ok ys S3 =>
                  rw [hr] at p2
                  simp only [R.bind_ok, List.append_assoc, List.singleton_append] at p2 ⊢
                  exact p2
                | exc _ _ _ => rw [hr] at p2; exact (show False from p2).elim
                | bad => rw [hr] at p2; exact (show False from p2).elim
              have hlen : acc.length < 16777216 := by
                cases hr : lcI tg chk dt de (wipeD ρ vs) (ds.drop (i + 1)) S2 with
                | ok ys S3 =>
                  rw [hr] at p3
                  have := p3.1
                  simp at this
                  omega
                | exc _ _ _ => rw [hr] at p3; exact (show False from p3).elim
                | bad => rw [hr] at p3; exact (show False from p3).elim
              refine ⟨va, hl5, ?_, hlt, m5, S2, acc ++ [y], va ++ [v], ?_, ?_, ?_, hc2, upd_same, ?_, p3⟩
              · rw [← ra5.len, sizeLine_eq]
                exact hlen
              · have g6 := ((g.trans g3).trans g4).trans g5
                exact ⟨g6.pre, fun b o hb q nt => ⟨(g6.keep b o hb q nt).1, by rw [upd_ne (ne_of_none q hD)]; exact (g6.keep b o hb q nt).2⟩⟩
              · exact (((tr.trans g3.tr).trans g4.tr).trans g5.tr).trans (Tr.chg (List.mem_cons_self ..))
              · exact r5.chg (List.mem_cons_self ..)
              · exact RDs.mono (Tr.chg (List.mem_cons_self ..)) _ _ (ra5.app (RDs.cons rv RDs.nil))
            · exact (show False from p2).elim
  · have e' : i = ds.length := by omega
    subst e'
    rw [List.drop_length] at p2
    simp only [lcI, R.bind_ok, List.append_nil] at p2
    exact .inl ⟨jy.st _ m (Dl :: B) H S tr r hch (Nat.le_refl _), p2.2 m H va g tr r hl ra⟩
end
section
variable {K : PySem.W.Frag} {tg tg1 : Tg} {dt dt1 : DT} {di1 : DI} {de : DE} {vs vs1 : List Nat} {ρ : Env} {σ : L2.St} {J : It} {ds : List D} {chk : Sto → Prop} {m0 B : List Addr} {H0 : Hp} {S0 : Sto} {Q : VK}
def PostL2 (K : PySem.W.Frag) (m B : List Addr) (H : Hp) (Q : VK) : R (List D) → Prop
  | .ok ds S' => ds.length ≤ 16777216 ∧ ∀ m' H' p vs, Ge m H m' H' → RS K m' (p :: B) H' S' → p ∉ B → Nw H p → H' p = some (.lst vs) → RDs K m' (p :: B) H' ds vs → Q (.ref p) H'
  | _ => False
theorem lc2_core (rs : RS K m0 B H0 S0) (e : REs K m0 B H0 ρ σ) (hc : chk S0) (jy : JY K J m0 B H0 ds chk) (hix : ∀ i ∈ tg.ix, i ∈ vs) (hix1 : ∀ i ∈ tg1.ix, i ∈ vs1)
    (p : PostL2 K m0 B H0 Q (lc2I tg chk dt (innI tg1 di1 dt1 de vs1) (wipeD ρ vs) ds S0)) : ∀ Dl, H0 Dl = none → ∃ W : Nat → Nat → Hp → Prop, (∃ m, W 0 m (upd H0 Dl (.lst []))) ∧ ∀ i m H, W i m H →
      (J.stop i H ∧ Q (.ref Dl) H) ∨ (J.go i H ∧ ∃ Nx : Hp → Prop, (∀ H', Nx H' → ∃ m', m' < m ∧ W (i + 1) m' H') ∧ ∀ x H', J.yld i H x H' → gT K tg x (wipe σ vs) H' fun σ2 H2 => wipe σ2 vs = wipe σ vs ∧ tTe WF K dt σ2 H2 fun b H3 =>
        if b = true then tI WF K di1 σ2 H3 fun J1 H4 => ∃ W1 : Nat → Nat → Hp → Prop, (∃ m, W1 0 m H4) ∧ ∀ j k H, W1 j k H →
          (J1.stop j H ∧ Nx H) ∨ (J1.go j H ∧ ∃ Nx1 : Hp → Prop, (∀ H', Nx1 H' → ∃ k', k' < k ∧ W1 (j + 1) k' H') ∧ ∀ x H', J1.yld j H x H' → gT K tg1 x (wipe σ2 vs1) H' fun σ3 H5 => wipe σ3 vs1 = wipe σ2 vs1 ∧ tTe WF K dt1 σ3 H5 fun b H6 =>
            if b = true then tE WF K de σ3 H6 fun y H7 => ∃ acc, H7 Dl = some (.lst acc) ∧ acc.length < sizeLine ∧ Nx1 (upd H7 Dl (.lst (acc ++ [y]))) else Nx1 H6)
        else Nx H3) := by
  intro Dl hD
  have hDm : Dl ∉ m0 := rs.notin hD
  have hDB : Dl ∉ B := rs.notB hD
  let St := fun (i : Nat) (H : Hp) => i ≤ ds.length ∧ ∃ m S acc va, Ge m0 H0 m H ∧ Tr m0 B H0 m (Dl :: B) H ∧ RS K m (Dl :: B) H S ∧ chk S ∧ H Dl = some (.lst va) ∧ RDs K m (Dl :: B) H acc va ∧
    PostL2 K m0 B H0 Q ((lc2I tg chk dt (innI tg1 di1 dt1 de vs1) (wipeD ρ vs) (ds.drop i) S).bind fun ys S' => .ok (acc ++ ys) S')
  refine ⟨fun i k H => k = ds.length - i ∧ St i H, ⟨_, rfl, Nat.zero_le _, m0, S0, [], [], (rs.new hD).1, Tr.ban hD, rs.ban hD, hc, upd_same, RDs.nil, ?_⟩, ?_⟩
  · show PostL2 K m0 B H0 Q ((lc2I tg chk dt (innI tg1 di1 dt1 de vs1) (wipeD ρ vs) ds S0).bind fun ys S' => .ok ys S')
    cases h : lc2I tg chk dt (innI tg1 di1 dt1 de vs1) (wipeD ρ vs) ds S0 with
    | ok ys S' => rw [h] at p; exact p
    | exc c d S' => rw [h] at p; exact p
    | bad => rw [h] at p; exact p
  · rintro i k H ⟨rfl, hi, m, S, acc, va, g, tr, r, hch, hl, ra, p2⟩
    by_cases hlt : i < ds.length
    · refine .inr ⟨jy.go i m (Dl :: B) H S tr r hch hlt, St (i + 1), fun H' h => ⟨ds.length - (i + 1), by omega, rfl, h⟩, fun x H3 y => ?_⟩
      obtain ⟨ext, rx⟩ := jy.yl i m (Dl :: B) H S x H3 ds[i] tr r hch (by simp [hlt]) y
      obtain ⟨g3, r3⟩ := r.ext ext
      rw [List.drop_eq_getElem_cons hlt] at p2
      unfold lc2I at p2
      have ew : REs K m (Dl :: B) H3 (wipeD ρ vs) (wipe σ vs) := (e.mono (tr.trans g3.tr)).wipe vs
      cases ha : Tg.asg S tg ds[i] (wipeD ρ vs) with
      | none => rw [ha] at p2; exact (show False from p2).elim
      | some ρ1 =>
        rw [ha] at p2
        simp only at p2
        refine ⟨m, Dl :: B, S, _, wipeD ρ vs, ρ1, r3, rx, ew, ha, fun σ2 e2 sam => ⟨by rw [sam vs hix, wipe_wipe], m, Dl :: B, ρ1, S, r3, e2, ?_⟩⟩
        cases ht : dt ρ1 S with
        | exc _ _ _ => rw [ht] at p2; exact (show False from p2).elim
        | bad => rw [ht] at p2; exact (show False from p2).elim
        | ok b S1 =>
          rw [ht] at p2
          simp only [R.safe_ok, R.bind_ok] at p2
          refine fun m4 H4 g4 r4 => ?_
          have hl4 : H4 Dl = some (.lst va) := (g4.keep Dl _ (fun q => r3.dis Dl q (List.mem_cons_self ..)) (ext _ _ hl) (fun ps e => by cases e)).2
          have ra4 := RDs.mono (g3.tr.trans g4.tr) _ _ ra
          have gg := (g.trans g3).trans g4
          have tt := (tr.trans g3.tr).trans g4.tr
          cases b with
          | false =>
            rw [if_neg Bool.false_ne_true] at p2
            show St (i + 1) H4
            split at p2
            · rename_i hc1
              exact ⟨hlt, m4, S1, acc, va, gg, tt, r4, hc1, hl4, ra4, p2⟩
            · exact (show False from p2).elim
          | true =>
            rw [if_pos rfl] at p2
            show tI WF K di1 σ2 H4 _
            refine ⟨m4, Dl :: B, ρ1, S1, r4, e2.mono g4.tr, ?_⟩
            unfold innI at p2
            cases hi1 : di1 ρ1 S1 with
            | exc _ _ _ => rw [hi1] at p2; exact (show False from p2).elim
            | bad => rw [hi1] at p2; exact (show False from p2).elim
            | ok q S2 =>
              rw [hi1] at p2
              simp only [R.safe_ok, R.bind_ok] at p2
              refine fun m5 H5 g5 r5 hc5 J1 jy1 => ?_
              have hl5 : H5 Dl = some (.lst va) := (g5.keep Dl _ (fun q => r4.dis Dl q (List.mem_cons_self ..)) hl4 (fun ps e => by cases e)).2
              have ra5 := RDs.mono g5.tr _ _ ra4
              refine lc_inner (acc := acc) (va := va) hD (gg.trans g5) r5 ((e2.mono g4.tr).mono g5.tr) hc5 jy1 hix1 hl5 ra5 ?_
              cases hin : lcI tg1 q.2 dt1 de (wipeD ρ1 vs1) q.1 S2 with
              | exc _ _ _ => rw [hin] at p2; exact (show False from p2).elim
              | bad => rw [hin] at p2; exact (show False from p2).elim
              | ok ys S3 =>
                rw [hin] at p2
                simp only [R.safe_ok, R.bind_ok] at p2 ⊢
                split at p2
                · rename_i hc3
                  have p3 : PostL2 K m0 B H0 Q ((lc2I tg chk dt (innI tg1 di1 dt1 de vs1) (wipeD ρ vs) (ds.drop (i + 1)) S3).bind fun zs S' => .ok ((acc ++ ys) ++ zs) S') := by
                    unfold innI
                    cases hr : lc2I tg chk dt (fun ρ S => (di1 ρ S).safe.bind fun p S1 => lcI tg1 p.2 dt1 de (wipeD ρ vs1) p.1 S1) (wipeD ρ vs) (ds.drop (i + 1)) S3 with
                    | ok zs S4 =>
                      rw [hr] at p2
                      simp only [R.bind_ok, List.append_assoc] at p2 ⊢
                      exact p2
                    | exc _ _ _ => rw [hr] at p2; exact (show False from p2).elim
                    | bad => rw [hr] at p2; exact (show False from p2).elim
                  refine ⟨?_, fun m6 H6 vb g6 t6 r6 hl6 ra6 => ⟨hlt, m6, S3, acc ++ ys, vb, g6, (tt.trans g5.tr).trans t6, r6, hc3, hl6, ra6, p3⟩⟩
                  cases hr : lc2I tg chk dt (innI tg1 di1 dt1 de vs1) (wipeD ρ vs) (ds.drop (i + 1)) S3 with
                  | ok zs S4 =>
                    rw [hr] at p3
                    have := p3.1
                    simp at this ⊢
                    omega
                  | exc _ _ _ => rw [hr] at p3; exact (show False from p3).elim
                  | bad => rw [hr] at p3; exact (show False from p3).elim
                · exact (show False from p2).elim
    · have e' : i = ds.length := by omega
      subst e'
      rw [List.drop_length] at p2
      simp only [lc2I, R.bind_ok, List.append_nil] at p2
      exact .inl ⟨jy.st _ m (Dl :: B) H S tr r hch (Nat.le_refl _), p2.2 m H Dl va g r hDB (nw_none hD) hl ra⟩
end
section
variable {X : Cx} {pos spos : Pos} {elt t iter t1 iter1 : Expr} {ifs ifs1 : List Expr} {scope : Scope} {own : List (Str × Nat)} {tg tg1 : Tg} {di di1 : DI} {dt dt1 : DT} {de : DE}
theorem tlc2_weak {K : PySem.W.Frag} {W : WX} {vs vs1 : List Nat} (hix : ∀ i ∈ tg.ix, i ∈ vs) (hix1 : ∀ i ∈ tg1.ix, i ∈ vs1) (σ : L2.St) (H : Hp) (Q : VK) (h : tL W K (lLc2 tg di dt tg1 di1 dt1 de vs vs1) σ H Q) : tLc2 (tI W K di) (gT K tg) (tTe WF K dt) (tI WF K di1) (gT K tg1) (tTe WF K dt1) (tE WF K de) vs vs1 σ H Q := by
  obtain ⟨m, B, ρ, S, rs, e, p⟩ := h
  refine ⟨m, B, ρ, S, rs, e, ?_⟩
  unfold lLc2 at p
  cases hd : di ρ S with
  | ok q S1 =>
    rw [hd] at p
    simp only [R.bind_ok] at p
    refine fun m1 H1 g1 r1 hc J jy => ?_
    refine lc2_core r1 (e.mono g1.tr) hc jy hix hix1 ?_
    cases h : lc2I tg q.2 dt (innI tg1 di1 dt1 de vs1) (wipeD ρ vs) q.1 S1 with
    | ok ys S' =>
      rw [h] at p
      simp only [R.safe_ok, R.bind_ok] at p
      split at p
      · rename_i hz
        refine ⟨hz, fun m2 H2 pp va g2 r2 hB h0 h2 rv => p m2 H2 pp va (g1.trans g2) r2 hB ?_ h2 rv⟩
        exact g1.new_wasN (r2.out g2) h0
      · exact (show False from p).elim
    | exc c d S' => rw [h] at p; exact (show False from p).elim
    | bad => rw [h] at p; exact (show False from p).elim
  | exc c d S1 => rw [hd] at p; exact p
  | bad => rw [hd] at p; exact p
theorem zl_lc2 {vs1 : List Nat} (hc : X.calm = true) (hN : X.N.Nodup) (hi : ZI X t iter di) (ok : BlkOk X.N X.env.scope scope own) (hix : ∀ i ∈ tg.ix, i ∈ own.map (·.2)) (hix1 : ∀ i ∈ tg1.ix, i ∈ vs1) (hv : ∀ i ∈ vs1, i ∈ own.map (·.2))
    (hg : ∀ (s : Shared) (H : Hp) (C : Addr) (cl : List (Str × Addr)) (fp : List Addr), ZG (X.blk s H scope (compEnvC scope cl C X.env) fp) t tg) (ht : ∀ (s : Shared) (H : Hp) (C : Addr) (cl : List (Str × Addr)) (fp : List Addr), ZTs (X.blk s H scope (compEnvC scope cl C X.env) fp) ifs dt)
    (hi1 : ∀ (s : Shared) (H : Hp) (C : Addr) (cl : List (Str × Addr)) (fp : List Addr), ZI (X.blk s H scope (compEnvC scope cl C X.env) fp) t1 iter1 di1)
    (hg1 : ∀ (s : Shared) (H : Hp) (C : Addr) (cl : List (Str × Addr)) (fp : List Addr), ZG (X.blk s H scope (compEnvC scope cl C X.env) fp) t1 tg1) (ht1 : ∀ (s : Shared) (H : Hp) (C : Addr) (cl : List (Str × Addr)) (fp : List Addr), ZTs (X.blk s H scope (compEnvC scope cl C X.env) fp) ifs1 dt1)
    (he : ∀ (s : Shared) (H : Hp) (C : Addr) (cl : List (Str × Addr)) (fp : List Addr), ZE (X.blk s H scope (compEnvC scope cl C X.env) fp) elt de) (hs : ∀ x, foldedSetIterable iter X.env x = pure x := by intro _; rfl) (hs1 : ∀ env x, foldedSetIterable iter1 env x = pure x := by intro _ _; rfl) :
    ZL X (.ListComp elt [⟨t, iter, ifs, 0⟩, ⟨t1, iter1, ifs1, 0⟩] scope pos) (lLc2 tg di dt tg1 di1 dt1 de (own.map (·.2)) vs1) := fun W tk =>
  pe_weak (pe_lc2 (g := gT X.K tg) (tt := tTe WF X.K dt) (wi1 := tI WF X.K di1) (g1 := gT X.K tg1) (tt1 := tTe WF X.K dt1) (te := tE WF X.K de) hc hN (hi W tk) ok hv (fun s H C cl fp => hg s H C cl fp) (fun s H C cl fp => ht s H C cl fp WF takes0)
    (fun s H C cl fp => hi1 s H C cl fp WF takes0) (fun s H C cl fp => hg1 s H C cl fp) (fun s H C cl fp => ht1 s H C cl fp WF takes0) (fun s H C cl fp => he s H C cl fp WF takes0) hs hs1) fun σ H Q h => tlc2_weak hix hix1 σ H Q h
end
end Z
namespace Z
open PySem PySem.W PySem.Calls PyProof.Rows PySem.HandSPX

/-! ### an own error whose __init__ says super().__init__(at); self.at = at -/
/-- the text of that __init__ -/
def eiBody (p0 p1 p2 p3 p4 p5 q1 q2 q3 q4 : Pos) : List Stmt :=
  [.Expr (.Call (.Attribute (.Call (.Name "super" p0) [] [] p1) "__init__" p2) [.Name "at" p3] [] p4) p5, .Assign [.Attribute (.Name "self" q1) "at" q2] (.Name "at" q3) q4]
def eiArgs (p1 p2 : Pos) : Arguments := { posonlyargs := [], args := [{ arg := "self", annotation := none, pos := p1 }, { arg := "at", annotation := none, pos := p2 }], vararg := none, kwonlyargs := [], kw_defaults := [], kwarg := none, defaults := [] }
def eiScope : Scope := { kind := .function, names := [(PySem.Str.ofString "self", .local), (PySem.Str.ofString "at", .local), (PySem.Str.ofString "__class__", .free), (PySem.Str.ofString "super", .globalImplicit)], isGenerator := false, isCoroutine := false, more := [] }
/-- the call of super().__init__ is a plain call of a method: so at the text's own places -/
def EiCall (p0 p1 p2 p3 p4 : Pos) : Prop := ∀ env : PySem.Env, ∃ pl : Sem Bool, eval (.Call (.Attribute (.Call (.Name "super" p0) [] [] p1) "__init__" p2) [.Name "at" p3] [] p4) env = (do
  let ov ← attributeBase (.Call (.Name "super" p0) [] [] p1) "__init__" env (eval (.Call (.Name "super" p0) [] [] p1) env)
  standAt p2.atName
  let (f, first) ← holding [ov] (getMethod ov "__init__" pl)
  callWith p4 f first (backTo p4 (starEach [.Name "at" p3] env)) [])
/-- what the written part says of such a class, at C -/
structure ErrC (K : Frag) (prog : Program) (C : Addr) : Prop where
  cls : ∃ nm q N bs bm sn sub ab col dd k0 k1 k2 k3 k5, K.lookup C = some (excClassObj nm q C N bs bm true sn sub ab col dd k0 k1 k2 k3 k5 "ValueError.__new__") ∧ refsVE bm = true ∧ alongIn K "__init__" bm = some (some (.builtin "ValueError.__init__"))
  sa : findIn K (.ref C) "__setattr__" = some (some (.builtin "object.__setattr__"))
  no : findIn K (.ref C) "at" = some none
  sub : subIn K (.ref C) (.type "BaseException") = some true
  ty : typeIn K (.ref C) = some (.type "type")
  kp : keepIn K (.ref C) = true
  op : nsIn K cStatics "thirdparty.any" = some none
  file : (prog.main.scope.names.lookup ("super" : Str)).isSome = false
  fn : ∃ (fI cc cda : Addr) (qual : Str) (p0 p1 p2 p3 p4 p5 q1 q2 q3 q4 r1 r2 : Pos) (oc doc pm ct ccl cl : Value) (od an cdd cld : Option Addr) (osl ccs csl : Array (Option Value)) (vs : Array Value) (fs : Str) (tf : Tok),
    findIn K (.ref C) "__init__" = some (some (.ref fI)) ∧ typeIn K (.ref fI) = some (.type "function") ∧
    K.lookup fI = some ⟨oc, od, .func (ksFn "__init__" qual (eiArgs r1 r2) (eiBody p0 p1 p2 p3 p4 p5 q1 q2 q3 q4) eiScope .none .none doc pm an (.ref cda) ct cc), osl⟩ ∧ codeIn K (.ref cda) qual = true ∧
    K.lookup cda = some ⟨ccl, cdd, .fields vs, ccs⟩ ∧ vs[2]? = some (.str fs tf) ∧ ((prog.main.file : Str) == fs) = true ∧ EiCall p0 p1 p2 p3 p4 ∧ K.lookup cc = some ⟨cl, cld, .cell (some (.ref C)), csl⟩
/-- what is left of a fresh error at x -/
structure EiEnd (h h' : Heap) (x C dx : Addr) (v : Value) : Prop where
  keep : ∀ b o, b ≠ x → h.get? b = some o → h'.get? b = some o
  obj : ∃ t1, h'.get? x = some { cls := .ref C, dict := some dx, data := .fields #[.ref t1, .none, .none, .none, .bool false, .none] }
  dbig : h.objs.size ≤ dx
  dne : dx ≠ x
  ns : h'.Ns1 dx (fun y => if y = "at" then some v else none)
section
variable {prog : Program} {w : World} {A : Around} {E : Value → Shared → Prop} {R : Result → Shared → Prop} {s : Shared} {K : Frag}
theorem mw_call {h : Heap} {g : Array GenState} {d : Drawn} {t : Nat} {os : OsState} {nm q : Str} {C N u e t0 : Addr} {bs bm : List Value} {hdct : Bool} {sn : List Str} {sub : List Value} {ab : Bool} {col : Option Bool} {dd : Option Addr} {k0 k1 k2 k3 k5 : Option Value} {rest : List Value} {Q : Value → Shared → Prop}
    (hC : h.get? C = some (excClassObj nm q C N bs bm hdct sn sub ab col dd k0 k1 k2 k3 k5 "ValueError.__new__")) (he : h.get? e = some (HandSPX.excO C t0)) (hu : h.get? u = some (kxs_mw "ValueError.__init__" e)) (hz : rest.length ≤ sizeLine)
    (hq : ∀ h' t1, (∀ b o, b ≠ e → h.get? b = some o → h'.get? b = some o) → h'.get? e = some (HandSPX.excO C t1) → Q .none ⟨h', g, d, t, os⟩) : wpAny (model prog w) A (call (.ref u) rest) Q E ⟨h, g, d, t, os⟩ := by
  refine wpAny_call (codeAny_of_tree ?_)
  show wpAny _ A.in1 (callAny (.ref u) ⟨rest, []⟩) _ _ _
  simp only [callAny]
  refine wpAny_bind (wpAny_load hu ?_)
  have e1 : (Value.type "method-wrapper" == Value.type "method" || Value.type "method-wrapper" == Value.type "builtin_function_or_method" || Value.type "method-wrapper" == Value.type "method-wrapper") = true := by decide
  simp only [kxs_mw, e1, if_true]
  refine KFB.if_so (by decide) ?_
  refine wpAny_bind (check_bound_init F.excBase_ValueError.toExcCallFacts hC he rfl ?_)
  refine wpAny_bind (wpAny_pure (wpAny_pure ?_))
  refine ⟨plainId_quiet F.excBase_ValueError.init.plain _, codeAny_builtin F.excBase_ValueError.initEntry ?_⟩
  exact exc_init_tree (cls := .ref C) (t0 := t0) (dv := none) (c2 := .none) (c3 := .none) (b4 := .bool false) he hz fun h' k e' _ => hq h' _ k e'
theorem ei_run {C fI x t0 : Addr} {v : Value} {mg mb : Str → Option Value} (T : ErrC K prog C) (X : K.In s.heap) (hg : s.heap.Ns mainGlobals mg) (hmg : mg "super" = none) (hb : s.heap.Ns builtinsNs mb) (hmb : mb "super" = some (.type "super")) (hlim : s.heap.NoLimit)
    (hi : findIn K (.ref C) "__init__" = some (some (.ref fI))) (hx : s.heap.get? x = some (HandSPX.excO C t0)) (hxK : K.lookup x = none) (hroom : A.depth < recursionLimit)
    (hq : ∀ h' tk dx, EiEnd s.heap h' x C dx v → R (.ok (.ret .none)) { s with heap := h', toks := tk }) : codeAny (model prog w) A (.call (.ref fI) ⟨[.ref x, v], []⟩) R s := by
  obtain ⟨fI', cc, cda, qual, p0, p1, p2, p3, p4, p5, q1, q2, q3, q4, r1, r2, oc, doc, pm, ct, ccl, cl, od, an, cdd, cld, osl, ccs, csl, vs, fs, tf, hi', tI, ho, hcd, hcode, hvs, hfile, hec, hcell⟩ := T.fn
  rw [hi] at hi'
  cases hi'
  obtain ⟨nm, q, N, bs, bm, sn, sub, ab, col, dd, k0, k1, k2, k3, k5, hC, hbm, hal⟩ := T.cls
  have hcl : clsIn K C = some { name := nm, bases := bs, mro := .ref C :: bm, ns := N, qualname := q, hasDict := true, slotNames := sn, subclasses := sub, abstract := ab, collection := col, hasDel := false } := by unfold clsIn; rw [hC] <;> rfl
  have hmro : mroIn K C (.ref C) = some true := by
    unfold mroIn
    rw [hcl]
    simp
  refine ks_codeAny_call_defAt (fd := ksFn "__init__" qual (eiArgs r1 r2) (eiBody p0 p1 p2 p3 p4 p5 q1 q2 q3 q4) eiScope .none .none doc pm an (.ref cda) ct cc) (args := ⟨[.ref x, v], []⟩) (binds := [("self", .ref x), ("at", v)]) hroom (X _ _ ho) rfl hlim (codeRec_of X hcd) rfl
    (BindsTo.of_eq (by first | rfl | with_unfolding_all rfl)) (by show ∀ x ∈ eiScope.names, x.2 ≠ .cell; decide) (fun y hy => by
      rcases List.mem_cons.mp hy with e | e
      · rw [e]; rfl
      · rw [List.mem_singleton.mp e]; rfl) (fun h₁ hns hk => ?_)
  have X1 : K.In h₁ := X.keeps hk
  have hx1 := hk _ _ hx
  have hnx : x ≠ C := by
    intro e
    have q := X _ _ hC
    rw [← e, hx] at q
    cases q
  obtain ⟨oD, hD1, hD2⟩ : ∃ oD, h₁.get? C = some oD ∧ oD.data = .cls { name := nm, bases := bs, mro := .ref C :: bm, ns := N, qualname := q, hasDict := true, slotNames := sn, subclasses := sub, abstract := ab, collection := col, hasDel := false } := ⟨_, X1 _ _ hC, rfl⟩
  obtain ⟨hp0, g, dr, tk0, os⟩ := s
  obtain ⟨pl, hpl⟩ := hec (callEnv (ksFn "__init__" qual (eiArgs r1 r2) (eiBody p0 p1 p2 p3 p4 p5 q1 q2 q3 q4) eiScope .none .none doc pm an (.ref cda) ct cc) hp0.objs.size fI)
  refine ks_wpAt_execs_cons (ks_wpAt_Expr_any (ks_wpAt_MethodCall (pl := pl) ?_ hpl))
  refine ks_wpAt_super_base (prog := prog) (w := w) rfl rfl rfl rfl (X1 _ _ ho) rfl rfl rfl (X1 _ _ hcode) rfl hvs hfile T.file ?_
  refine ks_loadName_global rfl rfl (loadGlobal_builtin (hg.keeps hk) hmg (hb.keeps hk) hmb ⟨rfl, ?_⟩)
  refine wpAny_loadName_free rfl rfl rfl ⟨_, X1 _ _ hcell, rfl⟩ ?_
  refine wpAny_loadName_local rfl rfl hns rfl ?_
  refine ks_wpAny_isType_cls hD1 hD2 ⟨rfl, ?_⟩
  refine ks_wpAny_call_super hD1 hD2 hx1 rfl (fun c e => by cases e) (looks_mroIn X1 hmro) (fun h2 e2 kk2 => ?_)
  have X2 : K.In h2 := X1.keeps kk2
  have hx2 := kk2 _ _ hx1
  have I2 : InstAt h2 x (HandSPX.excO C t0) C none := ⟨hx2, rfl, rfl, trivial⟩
  have hVE : subIn K (.ref C) (.type "ValueError") = some true := by
    show mroIn K C (.type "ValueError") = some true
    have q2 := refsVE_contains "ValueError" bm hbm
    unfold mroIn
    rw [hcl]
    have q3 : (Value.ref C :: bm).contains (.type "ValueError") = true := by
      rw [List.contains_cons, q2]
      rfl
    simp only [Option.bind_some]
    rw [q3]
    rfl
  refine kxs_getMethod kxs_ValueError e2 (looks_opaque X2 T.op) (l₀ := .ref C :: bm) (fun A Q E s k q => wpAny_bind ((looks_clsIn X2 hcl) A _ E s k (wpAny_pure q))) (l := bm) (by simp [List.dropWhile_cons]) X2 hal (I2.type.andThen (looks_subIn X2 hVE)) hnx rfl ?_
  have hk3 : ∀ b o, h2.get? b = some o → (h2.push (kxs_mw "ValueError.__init__" x)).get? b = some o := fun b o e => Heap.get?_push_of_some _ e
  have hu3 : (h2.push (kxs_mw "ValueError.__init__" x)).get? h2.objs.size = some (kxs_mw "ValueError.__init__" x) := Heap.get?_push_size _ rfl
  have hns3 := (hns.keeps kk2).keeps hk3
  refine kxs_callWith (i := "ValueError.__init__") (x := x) rfl ?_
  refine evalArgs_plain (spliced_more (e := .Name "at" p3) (rest := []) (pos := p4) (wpAny_Name (wpAny_loadName_local rfl rfl hns3 rfl ?_) (by decide)) rfl)
  refine spliced_none ⟨hu3, ?_⟩
  refine mw_call (hk3 _ _ (X2 _ _ hC)) (hk3 _ _ hx2) hu3 (by show 1 ≤ sizeLine; rw [sizeLine_eq]; decide) fun h4 t1 k4 hx4 => ?_
  have X4 : K.In h4 := fun a o e => k4 a o (fun z => by rw [z, hxK] at e; cases e) (hk3 _ _ (X2 _ _ e))
  -- self.at = at
  have hnsL : ∀ b o, h₁.get? b = some o → b ≠ x → h4.get? b = some o := fun b o e ne => k4 b o ne (hk3 _ _ (kk2 _ _ e))
  have hxL : hp0.objs.size ≠ x := Nat.ne_of_gt (Heap.lt_size hx)
  have hns4 : h4.Ns hp0.objs.size (fun y => ([("self", .ref x), ("at", v)] : List (Str × Value)).reverse.lookup y) := hns3.at fun o e => k4 _ o hxL e
  refine wpAt_of_wpAny ?_
  show wpAny _ _ (execs _ _) _ _ _
  refine wpAny_execs_cons (plainObj_wpAny_Assign_Attribute ?_)
  refine wpAny_Name (wpAny_loadName_local rfl rfl hns4 rfl ?_) (by decide)
  refine wpAny_Name (wpAny_loadName_local rfl rfl hns4 rfl ?_) (by decide)
  refine set_plain X4 (ox := HandSPX.excO C t1) (od := none) ⟨hx4, rfl, rfl, trivial⟩ T.sa ?_
  refine exc_osa X4 hx4 hcl (show refsVE (.ref C :: bm) = true from hbm) rfl T.no (fun h5 tk5 dx k5 dn dne hx5 hn5 => ?_)
  show wpAny _ _ (execs _ _) _ _ _
  have old : ∀ b o, hp0.get? b = some o → b ≠ x → h4.get? b = some o := fun b o e ne => hnsL b o (hk b o e) ne
  refine wpAny_execs_nil (hq h5 tk5 dx ⟨fun b o hb e => k5 b o hb (old b o e hb), ⟨_, hx5⟩, ?_, dne, hn5⟩)
  exact Nat.le_trans (Nat.le_of_lt hns4.lt) dn
end
end Z
namespace Z
open PySem PySem.Spec PyProof.Rows L2

/-! ### raise E(at) -/
/-- a made error at e, its dict at d -/
structure ErrMade (h h' : Heap) (e C d : Addr) (v : Value) : Prop where
  keep : ∀ b o, h.get? b = some o → h'.get? b = some o
  big : h.objs.size ≤ e
  obj : ∃ t1, h'.get? e = some { cls := .ref C, dict := some d, data := .fields #[.ref t1, .none, .none, .none, .bool false, .none] }
  dbig : h.objs.size ≤ d
  dne : d ≠ e
  ns : h'.Ns1 d (fun y => if y = "at" then some v else none)
theorem err_made {prog : Program} {w : World} {A : Around} {R : Result → Shared → Prop} {s : Shared} {K : PySem.W.Frag} {C : Addr} {v : Value} {mg mb : Str → Option Value} (T : ErrC K prog C) (X : K.In s.heap) (hg : s.heap.Ns mainGlobals mg) (hmg : mg "super" = none) (hb : s.heap.Ns builtinsNs mb) (hmb : mb "super" = some (.type "super"))
    (hlim : s.heap.NoLimit) (hroom : A.depth + 1 < recursionLimit) (hq : ∀ h' tk e d, ErrMade s.heap h' e C d v → R (.ok (.ret (.ref e))) { s with heap := h', toks := tk }) : codeAny (model prog w) A (.call (.ref C) ⟨[v], []⟩) R s := by
  obtain ⟨nm, q, N, bs, bm, sn, sub, ab, col, dd, k0, k1, k2, k3, k5, hC, hbm, _⟩ := T.cls
  obtain ⟨fI, _, _, _, _, _, _, _, _, _, _, _, _, _, _, _, _, _, _, _, _, _, _, _, _, _, _, _, _, _, _, _, hi, tI, _⟩ := T.fn
  obtain ⟨hp, g, dr, tk, os⟩ := s
  have k : ∀ b o, hp.get? b = some o → ((hp.push (PySem.W.kdv_tup [v])).push (PySem.HandSPX.excO C hp.objs.size)).get? b = some o := fun b o e => Heap.get?_push_of_some _ (Heap.get?_push_of_some _ e)
  have hget : ((hp.push (PySem.W.kdv_tup [v])).push (PySem.HandSPX.excO C hp.objs.size)).get? (hp.objs.size + 1) = some (PySem.HandSPX.excO C hp.objs.size) := by heap_get
  have hnx : K.lookup (hp.objs.size + 1) = none := by
    cases e : K.lookup (hp.objs.size + 1) with
    | none => rfl
    | some o =>
      have lt := Heap.lt_size (X _ _ e)
      have lt' : hp.objs.size + 1 < hp.objs.size := lt
      exact absurd lt' (by omega)
  have hsz : [v].length ≤ sizeLine := by rw [sizeLine_eq]; exact (by decide : 1 ≤ 16777216)
  refine PySem.HandSPX.call_own F.excBase_ValueError (fun X => PySem.HandSPX.refsVE_contains X bm hbm) (X _ _ hC) (PySem.W.looks_findIn X hi) (fun self => PySem.W.bind_fn X self tI) hsz ?_
  refine ei_run (s := ⟨(hp.push (PySem.W.kdv_tup [v])).push (PySem.HandSPX.excO C hp.objs.size), g, dr, tk, os⟩) T (X.keeps k) (hg.keeps k) hmg (hb.keeps k) hmb (hlim.keeps k) hi hget hnx hroom fun h' tk' dx ⟨k', hx, dn, dne, hns⟩ => ?_
  have old : ∀ b o, hp.get? b = some o → h'.get? b = some o := fun b o e => k' b o (Nat.ne_of_lt (Nat.lt_succ_of_lt (Heap.lt_size e))) (k b o e)
  have z : hp.objs.size ≤ dx := by
    have q := dn
    rw [Heap.size_push, Heap.size_push] at q
    omega
  exact ⟨rfl, hq h' tk' (hp.objs.size + 1) dx ⟨old, Nat.le_succ _, hx, z, dne, hns⟩⟩
theorem relO_at {v : V} {v' : Value} (r : RelV v v') (f : Str) : RelO (List.lookup f [(("at" : Str), v)]) (if f = "at" then some v' else none) := by
  by_cases hw : f = "at"
  · subst hw
    rw [if_pos rfl]
    have q : List.lookup ("at" : Str) [(("at" : Str), v)] = some v := by simp [List.lookup]
    rw [q]
    exact r
  · rw [if_neg hw]
    have qw : (f == ("at" : Str)) = false := by simpa using hw
    have q2 : List.lookup f [(("at" : Str), v)] = none := by simp [List.lookup, qw]
    rw [q2]
    trivial
/-- E(x) -/
def tMkE (C : Addr) (ta : TA) : L2.St → Hp → XK → Prop := fun σ H Q => ta σ H fun vs H1 => ∃ v, vs = [v] ∧ ∀ d, H1 d = none → Q (.ref C) (some d) (upd H1 d (.xd [(("at" : Str), v)]))
section
variable {X : Cx} {C : Addr} {x : Str} {a : Expr} {ta : TA} {p pos pos2 : Pos} {k : Nat} {da : DE}
theorem pmk_err (T : ErrC X.K X.prog C) (hm : X.mg x = some (.ref C)) (hms : X.mg "super" = none) (hr : Room k X.A) (ha : PA X [a] ta) (hg : Gl X x := by rfl) (hdb : (x == ("__debug__" : Str)) = false := by decide)
    (he : starEach (a :: []) X.env = (false, eval a X.env) :: starEach [] X.env := by rfl) (hpl : (backTo pos (starEach [] X.env)).any (·.1) = false := by rfl) : PMk X (.Call (.Name x p) [a] [] pos) (tMkE C ta) := by
  intro pins s σ H Q I h
  refine wpAny_Call_Name_kw (ld_glob I hg hm ?_ hdb)
  refine PySem.W.callWith_K (h₀ := X.base) I.ok.mod.kin T.kp (thn (ha.run pos pins s σ H _ I h) fun us s1 hh => ?_) he hpl
  obtain ⟨vs, H1, I1, r1, v, ev, q1⟩ := hh
  subst ev
  refine ⟨I1.kIn, ?_⟩
  obtain ⟨v', rfl, rv⟩ : ∃ v', us = [v'] ∧ RelV v v' := by
    cases r1 with
    | cons rv rn => cases rn; exact ⟨_, rfl, rv⟩
  have hlim := I1.nolimit
  obtain ⟨mb, hb1, hb2⟩ := I1.mod.blt
  have gl : s1.heap.Ns mainGlobals X.mg := I1.mod.glob.keeps I1.bk
  have bl : s1.heap.Ns builtinsNs mb := hb1.keeps I1.bk
  obtain ⟨hp, g, dr, tk, os⟩ := s1
  refine wpAny_call (err_made T I1.kIn gl hms bl ((hb2 _ (by decide +kernel)).trans (by decide +kernel)) hlim (by have := hr.dp; omega) fun h' tk' e d M => ?_)
  show MkP X pins σ Q (.ref e) ⟨h', g, dr, tk', os⟩
  obtain ⟨t1, hoe⟩ := M.obj
  have hns := M.ns
  obtain ⟨G', g1, g2⟩ := restrict h' fun b => decide (b ≠ e)
  have gk : ∀ b, b ≠ e → G'.get? b = h'.get? b := fun b hb => g1 b (decide_eq_true hb)
  have ge : G'.get? e = none := g2 e (by simp)
  have old : ∀ b o, hp.get? b = some o → G'.get? b = some o := fun b o q => (gk b (Nat.ne_of_lt (Nat.lt_of_lt_of_le (Heap.lt_size q) M.big))).trans (M.keep b o q)
  have ob : ObjOk X.prog X.w (upd H1 d (.xd [(("at" : Str), v)])) G' d (.xd [(("at" : Str), v)]) := ⟨_, hns.at (fun o q => (gk d M.dne).trans q), fun f => relO_at rv f⟩
  have J : Inv X pins σ (upd H1 d (.xd [(("at" : Str), v)])) ⟨G', g, dr, tk', os⟩ := I1.laid (t' := tk') old M.dbig ob
  refine ⟨e, _, _, ⟨G', g, dr, tk', os⟩, _, .ref C, some d, rfl, J, fun b o q => ?_, ge, hoe, ⟨rfl, rfl⟩, rfl, rfl, ?_, rfl, I1.bare, raises_own T.sub T.ty, q1 d (I1.hok.fresh M.dbig)⟩
  · by_cases hb : b = e
    · have q' : G'.get? b = some o := q
      rw [hb, ge] at q'
      cases q'
    · exact (gk b hb).symm.trans q
  · rw [upd_ne (Ne.symm M.dne)]
    exact I1.hok.fresh M.big
def sRaise (C : Addr) (a : DE) : DS := fun ρ S => (a ρ S).to ρ fun d S1 => .exc ρ C d S1
theorem zs_raise (hc : X.calm = true) (T : ErrC X.K X.prog C) (hm : X.mg x = some (.ref C)) (hms : X.mg "super" = none) (hr : Room k X.A) (ha : ZE X a da) (hg : Gl X x := by rfl) (hdb : (x == ("__debug__" : Str)) = false := by decide)
    (he : starEach (a :: []) X.env = (false, eval a X.env) :: starEach [] X.env := by rfl) (hpl : (backTo pos (starEach [] X.env)).any (·.1) = false := by rfl) : ZS X (.Raise (some (.Call (.Name x p) [a] [] pos)) none pos2) (sRaise C da) := fun W tk =>
  ps_weak (ps_raise hc tk (pmk_err T hm hms hr ((za_cons ha za_nil he) W tk) hg hdb he hpl)) fun E σ H ⟨m, B, ρ, S, rs, e, p⟩ => by
    unfold sRaise at p
    refine ⟨m, B, ρ, S, rs, e, ?_⟩
    unfold aC
    cases h1 : da ρ S with
    | bad => rw [h1] at p; exact p
    | exc c d S' => rw [h1] at p; exact fun m' H' x v g r hx rv => p m' H' σ x v g r (e.mono g.tr) hx rv
    | ok d S1 =>
      rw [h1] at p
      refine fun m1 H1 g1 r1 vs rv => ?_
      obtain ⟨v, rfl, rv1⟩ := rv.one
      refine ⟨v, rfl, fun q hq => ?_⟩
      obtain ⟨g2, r2⟩ := r1.new (u := .xd [(("at" : Str), v)]) hq
      exact p m1 _ σ q v (g1.trans g2) r2 ((e.mono g1.tr).mono g2.tr) upd_same (rv1.mono g2.tr)
end
end Z
namespace Z
open PySem PySem.W PySem.Spec PySem.Calls PyProof.Rows L2

/-! ### isinstance of a caught error that has its dict -/
section
variable {prog : Program} {w : World} {A : Around} {E : Value → Shared → Prop} {s : Shared} {K : Frag} {x D : Addr} {ox : Obj} {od : Obj}
theorem classE {Q : Option Value → Shared → Prop} (T : ExcC K D) (X : K.In s.heap) (I : InstAt s.heap x ox D (some od)) (h : Q (some (.ref D)) { s with toks := s.toks + 1 }) : wpAny (model prog w) A (getAttr? (.ref x) "__class__") Q E s := by
  have hf : findObj K D (some od) "__class__" = some (.bind (.builtin "getset_descriptor.__get__") (.builtin "object.__class__")) := findObj_data (by obtain ⟨cd, hc, _⟩ := any_some T.hd; rw [hc]; rfl) T.ha T.hn T.ht
  obtain ⟨hp, g, d, t, os⟩ := s
  have L0 := I.type (M := model prog w)
  have l1 := looks_findIn (M := model prog w) X T.hg
  have l2 := looks_findIn (M := model prog w) X T.hk
  have l3 := looks_find (M := model prog w) X I hf
  have sub : Looks (model prog w) hp (isInstance (.ref x) (.type "BaseException")) true := L0.andThen (looks_subIn X T.hs)
  have n0 : (false && onTheHeap (Value.builtin "BaseException.__getattribute__")) = false := rfl
  have n2 : (Value.builtin "BaseException.__getattribute__" == Value.builtin "object.__getattribute__") = false := by decide +kernel
  have n1 : (onTheHeap (Value.ref D) && Value.builtin "BaseException.__getattribute__" == Value.builtin "object.__getattribute__") = false := by rw [n2]; rfl
  unfold getAttr? getAttrBy? getAttrBy
  refine wpAny_bind (wpAny_mkText (wpAny_bind (wpAny_attempt (wpAny_holding (wpAny_bind (L0.at (wpAny_bind (l1.at ?_))))))))
  show wpAny _ _ (if (onTheHeap (Value.ref D) && Value.builtin "BaseException.__getattribute__" == Value.builtin "object.__getattribute__") = true then _ else _) _ _ _
  rw [n1, if_neg Bool.false_ne_true]
  unfold getAttrByItsOwn hookBefore
  refine wpAny_bind ?_
  rw [if_pos (show onTheHeap (Value.ref D) = true from rfl)]
  refine l2.at (wpAny_bind (wpAny_attempt (wpAny_holding ?_)))
  unfold callGetattribute
  rw [n0, if_neg Bool.false_ne_true]
  unfold boundAndCalled
  rw [PySem.F.excAttr_ValueError.ga.bind (.ref x)]
  refine wpAny_bind (wpAny_pure ?_)
  show wpAny _ _ (call (.builtin "BaseException.__getattribute__") [.ref x, .str "__class__" t]) _ _ _
  refine wpAny_call (codeAny_call_builtin PySem.F.excAttr_ValueError.ga.plain PySem.F.entry_bexc_ga ?_)
  refine @check_slot (model prog w) _ _ ⟨hp, g, d, t + 1, os⟩ "BaseException.__getattribute__" "BaseException" "__getattribute__" (.ref x) [.str "__class__" t] [] _ (by decide +kernel) (by decide +kernel) sub (PySem.F.args_bexc_ga (.ref x) (.str "__class__" t)) ?_
  unfold Builtin.«object.__getattribute__»
  refine wpAny_bind (wpAny_of_eq (a := ((Value.ref x : Value), [Value.str "__class__" t])) (by first | rfl | (simp only [slotArgs]; rfl)) ?_)
  refine wpAny_bind (wpAny_pure (wpAny_bind (L0.at (wpAny_bind (l3.at ?_)))))
  show wpAny _ _ (holding [Value.builtin "object.__class__"] (call (.builtin "getset_descriptor.__get__") [.builtin "object.__class__", .ref x, .ref D]) >>= ret) _ _ _
  refine wpAny_bind (wpAny_holding (wpAny_call (class_get (s := ⟨hp, g, d, t + 1, os⟩) (ox := ox) (od := some od) X I T.hm ?_)))
  refine wpAny_pure ?_
  show wpAny _ _ (handedOut (.ref D)) _ _ _
  rw [handedOut_of (v := .ref D) rfl]
  first
    | exact wpAny_pure (wpAny_pure h)
    | exact wpAny_pure h
    | exact wpAny_pure (wpAny_bind (wpAny_pure (wpAny_pure h)))
theorem kitx_err (T : ExcC K D) : KitX K (.ref x) (.ref D) (fun h => InstAt h x ox D (some od)) where
  ty := fun _ _ _ I => I.type
  it := fun _ _ X _ => by
    obtain ⟨cd, hc, _⟩ := any_some T.hd
    unfold clsIn at hc
    split at hc
    · rename_i c' d' cd' sl' ho
      exact fun A' Q' E' s' k q => by
        unfold isType loadHead
        exact wpAny_bind (wpAny_loadPart (k _ _ (X _ _ ho)) (wpAny_pure q))
    · cases hc
  ne := fun h tp dd its n sl X htp => by
    obtain ⟨cd, hc, _⟩ := any_some T.hd
    refine Bool.eq_false_iff.mpr fun q => ?_
    have e : D = tp := Value.ref.inj (beq_iff_eq.mp q)
    subst e
    unfold clsIn at hc
    split at hc
    · rename_i c' d' cd' sl' ho
      have z := (X _ _ ho).symm.trans htp
      cases z
    · cases hc
  ca := fun X I k => classE T X I k
end
/-- isinstance(e, c), e the error that the suite holds -/
def rIsX (K : PySem.W.Frag) (a : Addr) (cls : Value) (dd : Option Addr) : List V → Hp → VK → Prop := fun xs H Q => ∃ (c : V) (cv : Value) (D x : Addr) (fs : List (Str × V)) (b : Bool), xs = [.ref a, c] ∧ (∀ u, RelV c u → u = cv) ∧ cls = .ref D ∧ dd = some x ∧ H x = some (.xd fs) ∧ ExcC K D ∧ PySem.W.kitOne K (.ref D) cv = some b ∧ Q (.bl b) H
theorem call_isX {X : Cx} {a : Addr} {cls : Value} {dd : Option Addr} {oe : Obj} {pn : List (Addr × Obj)} (hz : Zc cls dd oe) (hf : ∃ vs, oe.data = .fields vs) : CallR (X.suite a ((a, oe) :: pn)) (.builtin "isinstance") (rIsX X.K a cls dd) := by
  intro pins s σ H xs us Q I r h
  obtain ⟨c, cv, D, x, fs, b, rfl, hcv, rfl, rfl, hx, T, e, q⟩ := h
  obtain ⟨u1, u2, rfl, r1, r2⟩ := vals2 r
  obtain rfl : u1 = Value.ref a := r1
  obtain rfl := hcv _ r2
  obtain ⟨hget, _⟩ := I.pin (a, oe) (List.mem_append.mpr (.inl List.mem_cons_self))
  obtain ⟨vs, hv⟩ := hf
  have hxo : ObjOk X.prog X.w H s.heap x (.xd fs) := I.hok x _ hx
  obtain ⟨mA, hns, _⟩ := hxo
  obtain ⟨od, ho, _⟩ := lookIn_ns hns
  have J : PySem.W.InstAt s.heap a oe D (some od) := ⟨hget, hz.1, by unfold PySem.W.notCls; rw [hv] <;> rfl, by rw [hz.2]; exact ho⟩
  exact PySem.W.kia_one (kitx_err T) I.kIn J e (fun z => nomatch z) fun tk => ⟨.bl b, H, I.kept (t' := tk) fun _ _ z => z, rfl, q⟩

/-! ### expressions of an except suite -/
abbrev DX := Addr → D → DE
def tX (K : PySem.W.Frag) (i : Nat) (a : Addr) (cls : Value) (dd : Option Addr) (den : DX) : TE := fun σ H Q => ∃ m B ρ S C x va de, RS K m B H S ∧ REs K m B H ρ σ ∧ σ[i]? = some (some (.ref a)) ∧ cls = .ref C ∧ dd = some x ∧ H x = some (.xd [("at", va)]) ∧ RD K m B H de va ∧
  Post K m B H (fun _ _ _ => False) (fun d _ m' H' => ∀ v, RD K m' B H' d v → Q v H') (den C de ρ S)
def tXA (K : PySem.W.Frag) (i : Nat) (a : Addr) (cls : Value) (dd : Option Addr) (den : Addr → D → DA) : TA := fun σ H Q => ∃ m B ρ S C x va de, RS K m B H S ∧ REs K m B H ρ σ ∧ σ[i]? = some (some (.ref a)) ∧ cls = .ref C ∧ dd = some x ∧ H x = some (.xd [("at", va)]) ∧ RD K m B H de va ∧
  Post K m B H (fun _ _ _ => False) (fun ds _ m' H' => ∀ vs, RDs K m' B H' ds vs → Q vs H') (den C de ρ S)
def ZX (X : Cx) (i : Nat) (e : Expr) (den : DX) : Prop := ∀ (a : Addr) (oe : Obj) (cls : Value) (dd : Option Addr) (pn : List (Addr × Obj)), Zc cls dd oe → (∃ vs, oe.data = .fields vs) → PE (X.suite a ((a, oe) :: pn)) e (tX X.K i a cls dd den)
def ZXA (X : Cx) (i : Nat) (es : List Expr) (den : Addr → D → DA) : Prop := ∀ (a : Addr) (oe : Obj) (cls : Value) (dd : Option Addr) (pn : List (Addr × Obj)), Zc cls dd oe → (∃ vs, oe.data = .fields vs) → PA (X.suite a ((a, oe) :: pn)) es (tXA X.K i a cls dd den)
theorem xd_stays {K : PySem.W.Frag} {m m' B : List Addr} {H H' : Hp} {S : Sto} {x : Addr} {fs : List (Str × V)} (rs : RS K m B H S) (h : H x = some (.xd fs)) (g : Ge m H m' H') : H' x = some (.xd fs) := by
  refine (g.keep x _ (fun hm => ?_) h (fun ps e => by cases e)).2
  obtain ⟨n, hn⟩ := List.mem_iff_getElem?.mp hm
  have hl : n < S.length := by rw [← rs.len]; exact (List.getElem?_eq_some_iff.mp hn).1
  have q := rs.ob n x S[n] hn (by simp [hl])
  cases ho : S[n] with
  | lst ds => rw [ho] at q; obtain ⟨vs, e, _⟩ := q; rw [h] at e; cases e
  | ins C fs => rw [ho] at q; obtain ⟨dx, vs, e, _⟩ := q; rw [h] at e; cases e
  | dct kvs => rw [ho] at q; obtain ⟨vs, e, _⟩ := q; rw [h] at e; cases e
  | dcT kvs => rw [ho] at q; obtain ⟨vs, e, _⟩ := q; rw [h] at e; cases e
  | iset p n => rw [ho] at q; have e : _ = _ := q; rw [h] at e; cases e
  | lck od vs kvs => rw [ho] at q; obtain ⟨e, _⟩ := q; rw [h] at e; cases e
  | tab P q0 => rw [ho] at q; obtain ⟨rfl, ps, e, _⟩ := q; rw [h] at e; cases e
section
variable {X : Cx} {i : Nat} {e c b : Expr} {es : List Expr} {den dc db : DX} {da : Addr → D → DA} {pos p1 p0 : Pos} {n : Str}
theorem tX.take {β : Type} {K : PySem.W.Frag} {a : Addr} {cls : Value} {dd : Option Addr} {d0 : DX} {f : D → Sto → R β} {σ : L2.St} {H : Hp} {Q' : VK} {m B : List Addr} {ρ : Env} {S : Sto} {C x : Addr} {va : V} {de : D} {P : β → Sto → List Addr → Hp → Prop} (r : RS K m B H S) (e : REs K m B H ρ σ)
    (h1 : σ[i]? = some (some (.ref a))) (h2 : cls = .ref C) (h3 : dd = some x) (h4 : H x = some (.xd [("at", va)])) (h5 : RD K m B H de va) (h : Post K m B H (fun _ _ _ => False) P ((d0 C de ρ S).bind f))
    (k : ∀ d S1 m1 H1 v, Ge m H m1 H1 → RS K m1 B H1 S1 → REs K m1 B H1 ρ σ → RD K m1 B H1 d v → H1 x = some (.xd [("at", va)]) → RD K m1 B H1 de va → Post K m1 B H1 (fun _ _ _ => False) P (f d S1) → Q' v H1) : tX K i a cls dd d0 σ H Q' :=
  ⟨m, B, ρ, S, C, x, va, de, r, e, h1, h2, h3, h4, h5, (Post.bind h).imp fun d S1 m1 H1 g1 r1 p v rv => k d S1 m1 H1 v g1 r1 (e.mono g1.tr) rv (xd_stays r h4 g1) (h5.mono g1.tr) p⟩
theorem tXA.take {β : Type} {K : PySem.W.Frag} {a : Addr} {cls : Value} {dd : Option Addr} {d0 : Addr → D → DA} {f : List D → Sto → R β} {σ : L2.St} {H : Hp} {Q' : List V → Hp → Prop} {m B : List Addr} {ρ : Env} {S : Sto} {C x : Addr} {va : V} {de : D} {P : β → Sto → List Addr → Hp → Prop} (r : RS K m B H S) (e : REs K m B H ρ σ)
    (h1 : σ[i]? = some (some (.ref a))) (h2 : cls = .ref C) (h3 : dd = some x) (h4 : H x = some (.xd [("at", va)])) (h5 : RD K m B H de va) (h : Post K m B H (fun _ _ _ => False) P ((d0 C de ρ S).bind f))
    (k : ∀ d S1 m1 H1 v, Ge m H m1 H1 → RS K m1 B H1 S1 → REs K m1 B H1 ρ σ → RDs K m1 B H1 d v → H1 x = some (.xd [("at", va)]) → RD K m1 B H1 de va → Post K m1 B H1 (fun _ _ _ => False) P (f d S1) → Q' v H1) : tXA K i a cls dd d0 σ H Q' :=
  ⟨m, B, ρ, S, C, x, va, de, r, e, h1, h2, h3, h4, h5, (Post.bind h).imp fun d S1 m1 H1 g1 r1 p v rv => k d S1 m1 H1 v g1 r1 (e.mono g1.tr) rv (xd_stays r h4 g1) (h5.mono g1.tr) p⟩
/-- what does not touch the error -/
theorem zx_lift {d0 : DE} (h : ∀ (a : Addr) (pn : List (Addr × Obj)), ZE (X.suite a pn) e d0) : ZX X i e fun _ _ => d0 := fun a oe cls dd pn hz hf => pe_weak (h a _ WF takes0) fun σ H Q ⟨m, B, ρ, S, C, x, va, de, rs, ee, h1, h2, h3, h4, h5, p⟩ => ⟨m, B, ρ, S, rs, ee, p⟩
def xAt (cs : List Addr) : DX := fun C d _ S => if C ∈ cs then .ok d S else .bad
def xIs (f : Addr → Option Bool) : DX := fun C _ _ S => match f C with
  | some k => .ok (.bl k) S
  | none => .bad
theorem pe_err {a : Addr} {oe : Obj} {pn : List (Addr × Obj)} (hi : X.N[i]? = some n) (hv : Vis X.env.scope n) (hd : (n == ("__debug__" : Str)) = false) (hcd : (n == ("__classdict__" : Str)) = false) :
    PE (X.suite a ((a, oe) :: pn)) (.Name n p0) (fun σ H Q => σ[i]? = some (some (.ref a)) ∧ Q (.ref a) H) := pe_weak (pe_var (X := X.suite a ((a, oe) :: pn)) (i := i) hi hv hd hcd) fun σ H Q ⟨h, q⟩ => ⟨_, h, q⟩
/-- e.at -/
theorem zx_at {cs : List Addr} (hc : ∀ C ∈ cs, XfC X.K C ∧ PySem.W.findIn X.K (.ref C) "at" = some none) (hi : X.N[i]? = some n := by rfl) (hv : Vis X.env.scope n := by first | exact Or.inl rfl | exact Or.inr (Or.inl rfl) | exact Or.inr (Or.inr rfl)) (hd : (n == ("__debug__" : Str)) = false := by decide) (hcd : (n == ("__classdict__" : Str)) = false := by decide)
    (hb : attributeBase (.Name n p0) "at" X.env (eval (.Name n p0) X.env) = eval (.Name n p0) X.env := by rfl) : ZX X i (.Attribute (.Name n p0) "at" pos) (xAt cs) := fun a oe cls dd pn hz hf => ⟨fun pins s σ H Q I ⟨m, B, ρ, S, C, x, va, de, rs, ee, h1, h2, h3, h4, h5, p⟩ => by
  unfold xAt at p
  split at p
  · rename_i hC
    refine (pe_xf (hc C hC).1 (hc C hC).2 hz hf (pe_err (i := i) hi hv hd hcd) hb).run pins s σ H Q I ?_
    exact ⟨h1, rfl, h2, x, _, va, h3, h4, by simp [List.lookup], p.now rs va h5⟩
  · exact p.elim⟩
theorem zxa_nil : ZXA X i [] fun _ _ => aN := fun a oe cls dd pn hz hf => pa_weak pa_nil fun σ H Q ⟨m, B, ρ, S, C, x, va, de, rs, ee, h1, h2, h3, h4, h5, p⟩ => p.now rs [] RDs.nil
theorem zxa_cons (ha : ZX X i e den) (hr : ZXA X i es da) (hs : starEach (e :: es) X.env = (false, eval e X.env) :: starEach es X.env := by rfl) : ZXA X i (e :: es) fun C d => aC (den C d) (da C d) := fun a oe cls dd pn hz hf => pa_weak (pa_cons (ha a oe cls dd pn hz hf) (hr a oe cls dd pn hz hf) hs) fun σ H Q ⟨m, B, ρ, S, C, x, va, de, rs, ee, h1, h2, h3, h4, h5, p⟩ =>
  tX.take (f := fun d S1 => (da C de ρ S1).bind fun ds S2 => .ok (d :: ds) S2) rs ee h1 h2 h3 h4 h5 p fun d S1 m1 H1 v g1 r1 e1 rd x1 rd1 p1 => tXA.take r1 e1 h1 h2 h3 x1 rd1 p1 fun ds S2 m2 H2 vs g2 r2 e2 rds x2 rd2 p2 => p2.now r2 (v :: vs) (RDs.cons (rd.mono g2.tr) rds)
theorem zx_tup {k x1 : Nat} (h : ZXA X i es da) (hl : ∀ C d, LenA k (da C d)) (hn : k ≤ 1000 := by decide) : ZX X i (.Tuple es x1 pos) fun C d => eTup (da C d) := fun a oe cls dd pn hz hf => pe_weak (pe_tup (h a oe cls dd pn hz hf)) fun σ H Q ⟨m, B, ρ, S, C, x, va, de, rs, ee, h1, h2, h3, h4, h5, p⟩ => by
  have hl := hl C de ρ S
  have p : Post X.K m B H (fun _ _ _ => False) (fun d _ m' H' => ∀ v, RD X.K m' B H' d v → Q v H') ((da C de ρ S).bind fun ds S1 => .ok (.tup ds) S1) := p
  refine ⟨m, B, ρ, S, C, x, va, de, rs, ee, h1, h2, h3, h4, h5, ?_⟩
  cases hr : da C de ρ S with
  | ok ds S1 =>
    rw [hr] at p hl
    refine fun m1 H1 g1 r1 vs rv => ⟨?_, fun q hq => ?_⟩
    · rw [← rv.len, hl, sizeLine_eq]
      omega
    · obtain ⟨g2, r2⟩ := r1.new (u := .tup vs) hq
      refine (show Post X.K m B H _ _ (R.ok (D.tup ds) S1) from p) m1 _ (g1.trans g2) r2 _ ?_
      unfold RD
      exact ⟨q, vs, rfl, .inl ⟨r1.notin hq, r1.notB hq, .inl upd_same⟩, RDs.mono g2.tr _ _ rv⟩
  | exc c d S1 => rw [hr] at p; exact fun m' H' x v g r hx rv => p m' H' x v g r hx rv
  | bad => rw [hr] at p; exact p
/-- isinstance(e, E) -/
theorem zx_is {f : Addr → Option Bool} {y : Str} {E : Addr} {p2 : Pos} (hf' : ∀ C b, f C = some b → ExcC X.K C ∧ PySem.W.kitOne X.K (.ref C) (.ref E) = some b) (hm : X.mg "isinstance" = none) (hE : X.mg y = some (.ref E)) (hi : X.N[i]? = some n := by rfl) (hv : Vis X.env.scope n := by first | exact Or.inl rfl | exact Or.inr (Or.inl rfl) | exact Or.inr (Or.inr rfl)) (hd : (n == ("__debug__" : Str)) = false := by decide) (hcd : (n == ("__classdict__" : Str)) = false := by decide)
    (hg : Gl X "isinstance" := by rfl) (hgE : Gl X y := by rfl) (hdE : (y == ("__debug__" : Str)) = false := by decide) (he : starEach [.Name n p0, .Name y p1] X.env = (false, eval (.Name n p0) X.env) :: starEach [.Name y p1] X.env := by rfl) (he2 : starEach [.Name y p1] X.env = (false, eval (.Name y p1) X.env) :: starEach [] X.env := by rfl) (hpl : (backTo pos (starEach [.Name y p1] X.env)).any (·.1) = false := by rfl) :
    ZX X i (.Call (.Name "isinstance" p2) [.Name n p0, .Name y p1] [] pos) (xIs f) := fun a oe cls dd pn hz hf => ⟨fun pins s σ H Q I ⟨m, B, ρ, S, C, x, va, de, rs, ee, h1, h2, h3, h4, h5, p⟩ => by
  have hgs : Gl (X.suite a ((a, oe) :: pn)) "isinstance" := hg
  unfold xIs at p
  split at p
  · rename_i k hk
    refine (pe_callB (X := X.suite a ((a, oe) :: pn)) (call_isX hz hf) hgs hm (show bootBuiltins "isinstance" = some (.builtin "isinstance") by decide +kernel) (pa_cons (pe_err (i := i) hi hv hd hcd) (pa_cons (pe_glob (X := X.suite a ((a, oe) :: pn)) (v := .ref E) hgE hE rfl hdE) pa_nil he2) he) (by decide) (by decide) he hpl).run pins s σ H Q I ?_
    exact ⟨h1, .ref E, .ref E, C, x, _, k, rfl, fun u ru => ru, h2, h3, h4, (hf' C k hk).1, (hf' C k hk).2, p.now rs _ (RDb _)⟩
  · exact p.elim⟩
/-- a if c else b -/
def xIf (c a b : DX) : DX := fun C d ρ S => (c C d ρ S).bind fun k S1 => match tru S1 k with
  | some true => a C d ρ S1
  | some false => b C d ρ S1
  | none => .bad
theorem zx_ifx (hc : ZX X i c dc) (ha : ZX X i e den) (hb : ZX X i b db) (he : ∀ whole, isTrue c X.env whole = (do let v ← whole; standAt c.pos; holding [v] (truthy v)) := by intro _; rfl) : ZX X i (.IfExp c e b pos) (xIf dc den db) := fun a oe cls dd pn hz hf =>
  pe_weak (pe_ifExp (pt_truth (X := X.suite a ((a, oe) :: pn)) (hc a oe cls dd pn hz hf) he) (ha a oe cls dd pn hz hf) (hb a oe cls dd pn hz hf)) fun σ H Q ⟨m, B, ρ, S, C, x, va, de, rs, ee, h1, h2, h3, h4, h5, p⟩ =>
    tX.take (f := fun k S1 => match tru S1 k with
      | some true => den C de ρ S1
      | some false => db C de ρ S1
      | none => .bad) rs ee h1 h2 h3 h4 h5 p fun d S1 m1 H1 v g1 r1 e1 rd x1 rd1 p1 => by
      cases h : tru S1 d with
      | none => simp only [h] at p1; exact p1.elim
      | some b =>
        simp only [h] at p1
        refine ⟨b, tru_is r1 rd h, ?_⟩
        cases b with
        | true => exact ⟨m1, B, ρ, S1, C, x, va, de, r1, e1, h1, h2, h3, x1, rd1, p1⟩
        | false => exact ⟨m1, B, ρ, S1, C, x, va, de, r1, e1, h1, h2, h3, x1, rd1, p1⟩
end

/-! ### try: .. except E as e: return .. -/
/-- mt: is the error's class one that is caught; i: e's slot; su: what is returned -/
def sTry (mt : Addr → Option Bool) (i : Nat) (db : DS) (su : DX) : DS := fun ρ S => match db ρ S with
  | .exc ρ' C d S' => match mt C with
    | some true => if i < ρ'.length then (su C d (ρ'.set i none) S').safe.to ρ' fun v S2 => .rt v S2 else .bad
    | some false => .exc ρ' C d S'
    | none => .bad
  | r => r
theorem REs.setX {K : PySem.W.Frag} {m B : List Addr} {H : Hp} : ∀ {ρ : Env} {σ : L2.St} (i : Nat) (x : Option V), REs K m B H ρ σ → REs K m B H (ρ.set i none) (σ.set i x)
  | [], _, _, _, h => by
    have h' : _ = _ := h
    rw [h']
    rfl
  | o :: ρ, σ, 0, y, ⟨x, r, e, h1, h2⟩ => by
    subst e
    exact ⟨y, r, rfl, fun d' q => (nomatch q), h2⟩
  | o :: ρ, σ, i + 1, y, ⟨x, r, e, h1, h2⟩ => by
    subst e
    exact ⟨x, _, rfl, h1, REs.setX i y h2⟩
def tSu (K : PySem.W.Frag) (i : Nat) (su : DX) (a : Addr) (cls : Value) (d : Option Addr) : TS := fun D σ H => tX K i a cls d su σ H fun v H' => D.rt v H'
section
variable {X : Cx} {i : Nat} {x n : Str} {c : Addr} {body : List Stmt} {re : Expr} {np pos pos' rp : Pos} {db : DS} {su : DX} {mt : Addr → Option Bool}
theorem zs_try (hst : X.stack = X.env :: X.outer) (hfr : X.env.frame = some X.env.locals) (hN : X.N.Nodup) (hm : X.mg x = some (.ref c)) (hmt : ∀ C b, mt C = some b → PySem.W.exmOne X.K (.ref C) (.ref c) = some b)
    (hb : ∀ (pn : List (Addr × Obj)) (xe : Value → Shared → Prop), PassesOwn (model X.prog X.w) X.A X.env xe → ZB (X.tr pn xe) body db) (hs : ZX X i re su) (hi : X.N[i]? = some n := by rfl) (hln : X.env.kindOf n = some .local := by rfl) (hg : Gl X x := by rfl) (hdb : (x == ("__debug__" : Str)) = false := by decide) :
    ZS X (.Try body [.ExceptHandler (some (.Name x np)) (some n) [.Return (some re) rp] pos'] [] [] pos) (sTry mt i db su) := fun W tk =>
  ps_weak (ps_try_as (tb := fun W => tS W X.K db) (ts := tSu X.K i su) (Wout := W) hst hfr hN hi hln ⟨hg, hdb, .inl hm⟩ tk (fun W' pn xe tk' hp => hb pn xe hp W' tk') fun a oe cls d pn hz hf => pss_one (ps_weak (ps_ret (hs a oe cls d pn hz hf)) fun E σ H h => h)) fun E σ H ⟨m, B, ρ, S, rs, e, p⟩ => by
    unfold sTry at p
    refine ⟨m, B, ρ, S, rs, e, ?_⟩
    cases hd : db ρ S with
    | nx ρ' S' => rw [hd] at p; exact p
    | rt d S' => rw [hd] at p; exact p
    | bk ρ' S' => rw [hd] at p; exact p
    | ct ρ' S' => rw [hd] at p; exact p
    | bad => rw [hd] at p; exact p
    | exc ρ' C d S' =>
      rw [hd] at p
      simp only at p
      intro m1 H1 σ1 xd v g1 r1 e1 hx rv
      cases hmC : mt C with
      | none => rw [hmC] at p; exact p.elim
      | some b =>
        rw [hmC] at p
        refine ⟨b, hmt C b hmC, fun hb' a ha => ?_, fun hb' => ?_⟩
        · subst hb'
          simp only at p
          split at p
          case isFalse => exact p.elim
          rename_i hlt
          have hσ : i < σ1.length := by rw [← e1.len]; exact hlt
          refine ⟨m1, B, ρ'.set i none, S', C, xd, v, d, r1, REs.setX i _ e1, by simp [hσ], rfl, rfl, hx, rv, ?_⟩
          cases hsu : su C d (ρ'.set i none) S' with
          | ok w S2 => rw [hsu] at p; exact fun m2 H2 g2 r2 v2 rv2 => p m2 H2 v2 (g1.trans g2) r2 rv2
          | exc _ _ _ => rw [hsu] at p; exact (show False from p).elim
          | bad => rw [hsu] at p; exact p
        · subst hb'
          exact p m1 H1 σ1 xd v g1 r1 e1 hx rv
end
end Z
namespace Z
open PySem PySem.W PySem.Calls PyProof.Rows L2 He

/-! ### facts by checks -/
theorem band {a b : Bool} (h : (a && b) = true) : a = true ∧ b = true := Bool.and_eq_true_iff.mp h
def nnB : Value → Value → Bool
  | .none, .none => true
  | _, _ => false
theorem nnB_ok {a b : Value} (h : nnB a b = true) : a = .none ∧ b = .none := by
  cases a <;> cases b <;> first | exact ⟨rfl, rfl⟩ | cases h
def strB (file : Str) : Option Value → Bool
  | some (.str fs _) => file == fs
  | _ => false
theorem strB_ok {file : Str} {o : Option Value} (h : strB file o = true) : ∃ fs tf, o = some (.str fs tf) ∧ (file == fs) = true := by
  cases o with
  | none => cases h
  | some v => cases v <;> first | exact ⟨_, _, rfl, h⟩ | cases h
def vsB (file : Str) : Option Obj → Bool
  | some ⟨_, _, .fields vs, _⟩ => strB file (vs[2]? : Option Value)
  | _ => false
theorem vsB_ok {file : Str} {o : Option Obj} (h : vsB file o = true) : ∃ a b vs c, o = some ⟨a, b, .fields vs, c⟩ ∧ strB file (vs[2]? : Option Value) = true := by
  cases o with
  | none => cases h
  | some o =>
    obtain ⟨a, b, dt, c⟩ := o
    cases dt <;> first | exact ⟨_, _, _, _, rfl, h⟩ | cases h
def codB (K : Frag) (file : Str) : Value → Bool
  | .ref cda => vsB file (K.lookup cda)
  | _ => false
theorem codB_ok {K : Frag} {file : Str} {v : Value} (h : codB K file v = true) : ∃ cda, v = .ref cda ∧ vsB file (K.lookup cda) = true := by
  cases v <;> first | exact ⟨_, rfl, h⟩ | cases h
def celB (D : Addr) : Option Obj → Bool
  | some ⟨_, _, .cell (some (.ref E)), _⟩ => decide (E = D)
  | _ => false
theorem celB_ok {D : Addr} {o : Option Obj} (h : celB D o = true) : ∃ a b c, o = some ⟨a, b, .cell (some (.ref D)), c⟩ := by
  cases o with
  | none => cases h
  | some o =>
    obtain ⟨a, b, dt, c⟩ := o
    cases dt <;> try (cases h; done)
    rename_i v
    cases v with
    | none => cases h
    | some v =>
      cases v <;> try (cases h; done)
      rename_i E
      have e : E = D := of_decide_eq_true h
      subst e
      exact ⟨_, _, _, rfl⟩
def cloB (K : Frag) (D : Addr) : List (Str × Addr) → Bool
  | [p] => celB D (K.lookup p.2)
  | _ => false
/-- an own error's class: its __init__ as the text has it -/
def errB (K : Frag) (prog : Program) (x : Str) : Bool :=
  (match K.lookup (ga K x) with
    | some ⟨.type t, _, .cls cd, sl⟩ => decide (t = "type") && (cd.hasDict && (!cd.hasDel && ((match cd.mro with
      | .ref c :: bm => decide (c = ga K x) && (PySem.HandSPX.refsVE bm && (match alongIn K "__init__" bm with
        | some (some (.builtin b)) => decide (b = "ValueError.__init__")
        | _ => false))
      | _ => false) && (match sl with
      | ⟨[_, _, _, _, some (.builtin b), _]⟩ => decide (b = "ValueError.__new__")
      | _ => false))))
    | _ => false) &&
  ((Fa.noat x "at").ok K && (eqO (findIn K (.ref (ga K x)) "__setattr__") (some (some (.builtin "object.__setattr__"))) && (decide (subIn K (.ref (ga K x)) (.type "BaseException") = some true) && (decide (typeIn K (.ref (ga K x)) = some (.type "type")) &&
  (keepIn K (.ref (ga K x)) && (eqO (nsIn K cStatics "thirdparty.any") (some none) && (!(prog.main.scope.names.lookup ("super" : Str)).isSome &&
  (eqO (findIn K (.ref (ga K x)) "__init__") (some (some (.ref (ma K (ga K x) "__init__")))) && (decide (typeIn K (.ref (ma K (ga K x) "__init__")) = some (.type "function")) &&
  (match K.lookup (ma K (ga K x) "__init__") with
    | some ⟨_, _, .func fd, _⟩ => nnB fd.defaults fd.kwdefaults && (codeIn K fd.code fd.qualname && (codB K prog.main.file fd.code && cloB K (ga K x) fd.closure))
    | _ => false))))))))))
theorem errB_ok {K : Frag} {prog : Program} {x : Str} {qual : Str} {p0 p1 p2 p3 p4 p5 q1 q2 q3 q4 r1 r2 : Pos} (h : errB K prog x = true) (hc : EiCall p0 p1 p2 p3 p4)
    (e : ∃ cc, fnW K (x, some "__init__") = some ((("__init__" : Str), qual, eiArgs r1 r2, FuncBody.stmts (eiBody p0 p1 p2 p3 p4 p5 q1 q2 q3 q4), eiScope, mainGlobals, [(("__class__" : Str), cc)], builtinsNs) : Str × Str × Arguments × FuncBody × Scope × Addr × List (Str × Addr) × Addr)) : ErrC K prog (ga K x) := by
  obtain ⟨a1, h⟩ := band h
  obtain ⟨a2, h⟩ := band h
  obtain ⟨a3, h⟩ := band h
  obtain ⟨a4, h⟩ := band h
  obtain ⟨a5, h⟩ := band h
  obtain ⟨a6, h⟩ := band h
  obtain ⟨a7, h⟩ := band h
  obtain ⟨a8, h⟩ := band h
  obtain ⟨a9, h⟩ := band h
  obtain ⟨a10, a11⟩ := band h
  refine ⟨?_, eqO_ok a3, eqO_ok a2, of_decide_eq_true a4, of_decide_eq_true a5, a6, eqO_ok a7, by simpa using a8, ?_⟩
  · split at a1
    · rename_i t od cd sl hl
      obtain ⟨b1, a1⟩ := band a1
      obtain ⟨b2, a1⟩ := band a1
      obtain ⟨b3, a1⟩ := band a1
      obtain ⟨b4, b5⟩ := band a1
      obtain ⟨nm, bs, mro, ns, qn, hd, sn, sb, ab, col, hdel⟩ := cd
      simp only at b2 b3 b4
      split at b4
      · rename_i c bm
        obtain ⟨c1, b4⟩ := band b4
        obtain ⟨c2, c3⟩ := band b4
        split at c3
        · rename_i b hb
          split at b5
          · rename_i k0 k1 k2 k3 b' k5
            have e1 := of_decide_eq_true b1
            have e2 := of_decide_eq_true c1
            have e3 := of_decide_eq_true c3
            have e4 := of_decide_eq_true b5
            have e5 : hdel = false := by cases hdel <;> simp_all
            subst e1 e3 e4 e5 b2 e2
            exact ⟨_, _, _, _, _, _, _, _, _, _, _, _, _, _, _, hl, c2, hb⟩
          · cases b5
        · cases c3
      · cases b4
    · cases a1
  · obtain ⟨cc, e⟩ := e
    have eA : fAd K (x, some "__init__") = ma K (ga K x) "__init__" := rfl
    unfold fnW at e
    rw [eA] at e
    split at a11
    · rename_i oc od fd osl hl
      obtain ⟨b1, a11⟩ := band a11
      obtain ⟨b2, a11⟩ := band a11
      obtain ⟨b3, b4⟩ := band a11
      rw [hl] at e
      obtain ⟨n1, n2, n3, n4, n5, n6, n7, n8, n9, n10, n11, n12, n13, n14, n15⟩ := fd
      simp only [Option.some.injEq, Prod.mk.injEq] at e
      obtain ⟨h1, h2, h3, h4, h5, h6, h7, h8⟩ := e
      subst h1 h2 h3 h4 h5 h6 h7 h8
      obtain ⟨e8, e9⟩ := nnB_ok b1
      have e8 : n8 = .none := e8
      have e9 : n9 = .none := e9
      obtain ⟨cda, e13, b3⟩ := codB_ok b3
      have e13 : n13 = .ref cda := e13
      subst e8 e9 e13
      obtain ⟨ccl, cdd, vs, ccs, hcl, b3⟩ := vsB_ok b3
      obtain ⟨fs, tf, hvs, b3⟩ := strB_ok b3
      obtain ⟨cl, cld, csl, hcell⟩ := celB_ok (show celB (ga K x) (K.lookup cc) = true from b4)
      exact ⟨_, cc, cda, _, p0, p1, p2, p3, p4, p5, q1, q2, q3, q4, r1, r2, _, _, _, _, _, _, _, _, _, _, _, _, _, vs, fs, tf, eqO_ok a9, of_decide_eq_true a10, hl, b2, hcl, hvs, b3, hc, hcell⟩
    · cases a11
/-- what isinstance needs of an error's class -/
def excCB (K : Frag) (x : Str) : Bool := eqO (findIn K (.ref (ga K x)) "__getattribute__") (some (some (.builtin "BaseException.__getattribute__"))) && (eqO (findIn K (.ref (ga K x)) "__getattr__") (some none) && (decide (subIn K (.ref (ga K x)) (.type "BaseException") = some true) && (hasDictIn K (ga K x) &&
  (eqO (findIn K (.ref (ga K x)) "__class__") (some (some (.builtin "object.__class__"))) && (decide (specialIn K (.builtin "object.__class__") "__get__" = some (some (.builtin "getset_descriptor.__get__"))) && (decide (takesIn K (.builtin "object.__class__") = some true) && decide (mroIn K (ga K x) (.type "object") = some true)))))))
theorem excCB_ok {K : Frag} {x : Str} (h : excCB K x = true) : ExcC K (ga K x) := by
  obtain ⟨a1, h⟩ := band h
  obtain ⟨a2, h⟩ := band h
  obtain ⟨a3, h⟩ := band h
  obtain ⟨a4, h⟩ := band h
  obtain ⟨a5, h⟩ := band h
  obtain ⟨a6, h⟩ := band h
  obtain ⟨a7, a8⟩ := band h
  exact ⟨eqO_ok a1, eqO_ok a2, of_decide_eq_true a3, a4, eqO_ok a5, of_decide_eq_true a6, of_decide_eq_true a7, of_decide_eq_true a8⟩
/-- the own classes at cs, for isinstance -/
def kitB (K : Frag) (xs : List Str) : Bool :=
  xs.all (fun x => (Fa.cls x).ok K && (eqO (findIn K (.ref (ga K x)) "__class__") (some (some (.builtin "object.__class__"))) && (decide (mroIn K (ga K x) (.type "object") = some true) &&
    (tNames.all (fun T => decide (kitOne K (.ref (ga K x)) (.type T) = some false) && decide (kitOne K (.type T) (.ref (ga K x)) = some false)) && xs.all (fun y => decide (kitOne K (.ref (ga K x)) (.ref (ga K y)) = some (decide (ga K x = ga K y)))))))) &&
  (decide (specialIn K (.builtin "object.__class__") "__get__" = some (some (.builtin "getset_descriptor.__get__"))) && decide (takesIn K (.builtin "object.__class__") = some true))
theorem kitB_ok {K : Frag} {xs : List Str} (h : kitB K xs = true) : Kit K (xs.map (ga K)) := by
  obtain ⟨h, a2⟩ := band h
  obtain ⟨a2, a3⟩ := band a2
  have h := List.all_eq_true.mp h
  have key : ∀ c ∈ xs.map (ga K), ∃ x ∈ xs, c = ga K x := fun c hc => by
    obtain ⟨x, hx, e⟩ := List.mem_map.mp hc
    exact ⟨x, hx, e.symm⟩
  refine ⟨fun c hc => ?_, fun c hc => ?_, of_decide_eq_true a2, of_decide_eq_true a3, fun c hc => ?_, fun c hc T hT => ?_, fun c hc T hT => ?_, fun c hc D hD => ?_⟩
  all_goals
    obtain ⟨x, hx, rfl⟩ := key _ hc
    obtain ⟨b1, b⟩ := band (h x hx)
    obtain ⟨b2, b⟩ := band b
    obtain ⟨b3, b⟩ := band b
    obtain ⟨b4, b5⟩ := band b
  · exact cls_ok b1
  · exact eqO_ok b2
  · exact of_decide_eq_true b3
  · exact of_decide_eq_true (band (List.all_eq_true.mp b4 T hT)).1
  · exact of_decide_eq_true (band (List.all_eq_true.mp b4 T hT)).2
  · obtain ⟨y, hy, rfl⟩ := key _ hD
    exact of_decide_eq_true (List.all_eq_true.mp b5 y hy)
/-- a name that is no attribute of the classes -/
def noAttB (K : Frag) (xs : List Str) (f : Str) : Bool := xs.all fun x => (Fa.cls x).ok K && (Fa.noat x f).ok K
theorem noAttB_ok {K : Frag} {xs : List Str} {f : Str} (h : noAttB K xs f = true) : NoAtt K (xs.map (ga K)) f := fun c hc => by
  obtain ⟨x, hx, rfl⟩ := List.mem_map.mp hc
  obtain ⟨b1, b2⟩ := band (List.all_eq_true.mp h x hx)
  exact ⟨cls_ok b1, noat_ok b2⟩
def kitOneB (K : Frag) (x y : Str) (b : Bool) : Bool := decide (kitOne K (.ref (ga K x)) (.ref (ga K y)) = some b)
theorem kitOneB_ok {K : Frag} {x y : Str} {b : Bool} (h : kitOneB K x y b = true) : kitOne K (.ref (ga K x)) (.ref (ga K y)) = some b := of_decide_eq_true h

/-! ### a def as the callers see it -/
/-- dl: its defaults -/
structure Df (P : Program) (w : World) (K : Frag) (mg : Str → Option Value) (base : Heap) (x : Str) (k n : Nat) (F : List D → Sto → R D) (dl : List D) : Prop where
  ex : ∃ (f : Addr) (fd : FuncData) (ps : List Str), FnOk P w K mg base (L2.CX P w) k f fd ps (spI K n F) ∧ mg x = some (.ref f) ∧ keepIn K (.ref f) = true ∧ ∀ j, j ≤ dl.length → ∃ ds dvs, Binds K fd ps ds ∧ Vals dvs ds ∧ ∀ m B H, RDs K m B H (dl.drop j) dvs
/-- a class that is called: its __init__ -/
structure Dk (P : Program) (w : World) (K : Frag) (mg : Str → Option Value) (base : Heap) (x : Str) (C : Addr) (k n : Nat) (F : List D → Sto → R D) (dl : List D) : Prop where
  ex : ∃ f, Mk K C f ∧ ∃ (fd : FuncData) (ps : List Str), FnOk P w K mg base (L2.CX P w) k f fd ps (spI K n F) ∧ ∀ j, j ≤ dl.length → ∃ ds dvs, Binds K fd ps ds ∧ Vals dvs ds ∧ ∀ m B H, RDs K m B H (dl.drop j) dvs
  mg : mg x = some (.ref C)
/-- a method -/
structure Dm (P : Program) (w : World) (K : Frag) (mg : Str → Option Value) (base : Heap) (C : Addr) (mt : Str) (k n : Nat) (F : List D → Sto → R D) (dl : List D) : Prop where
  cl : Cls K C
  ex : ∃ (f : Addr) (fd : FuncData) (ps : List Str), Meth K C mt f ∧ FnOk P w K mg base (L2.CX P w) k f fd ps (spI K n F) ∧ ∀ j, j ≤ dl.length → ∃ ds dvs, Binds K fd ps ds ∧ Vals dvs ds ∧ ∀ m B H, RDs K m B H (dl.drop j) dvs
section
variable {X : Cx} {x : Str} {k n : Nat} {F : List D → Sto → R D} {dl : List D} {pos p0 apos : Pos} {e o : Expr} {es : List Expr} {t : DA} {dobj : DE} {C : Addr}
theorem zd_call (G : Df X.prog X.w X.K X.mg X.base x k n F dl) (j : Nat) (hr : Room k X.A) (ha : ZA X (e :: es) t) (hj : j ≤ dl.length := by decide) (hg : Gl X x := by rfl) (hdb : (x == ("__debug__" : Str)) = false := by decide)
    (he : starEach (e :: es) X.env = (false, eval e X.env) :: starEach es X.env := by rfl) (hpl : (backTo pos (starEach es X.env)).any (·.1) = false := by rfl) : ZE X (.Call (.Name x p0) (e :: es) [] pos) (eFn n F (dl.drop j) t) := by
  obtain ⟨f, fd, ps, ok, hm, hk, hb⟩ := G.ex
  obtain ⟨ds, dvs, b1, b2, b3⟩ := hb j hj
  exact ze_call ⟨ok, hm, hk⟩ hr b1 b2 b3 ha hg hdb he hpl
theorem zd_call0 (G : Df X.prog X.w X.K X.mg X.base x k n F dl) (j : Nat) (hr : Room k X.A) (hj : j ≤ dl.length := by decide) (hg : Gl X x := by rfl) (hdb : (x == ("__debug__" : Str)) = false := by decide) : ZE X (.Call (.Name x p0) [] [] pos) (eFn n F (dl.drop j) aN) := by
  obtain ⟨f, fd, ps, ok, hm, hk, hb⟩ := G.ex
  obtain ⟨ds, dvs, b1, b2, b3⟩ := hb j hj
  exact ze_call0 ⟨ok, hm, hk⟩ hr b1 b2 b3 hg hdb
theorem zd_mk (G : Dk X.prog X.w X.K X.mg X.base x C k n F dl) (j : Nat) (hr : Room (k + 1) X.A) (ha : ZA X (e :: es) t) (hj : j ≤ dl.length := by decide) (hg : Gl X x := by rfl) (hdb : (x == ("__debug__" : Str)) = false := by decide)
    (he : starEach (e :: es) X.env = (false, eval e X.env) :: starEach es X.env := by rfl) (hpl : (backTo pos (starEach es X.env)).any (·.1) = false := by rfl) : ZE X (.Call (.Name x p0) (e :: es) [] pos) (eMk C n F (dl.drop j) t) := by
  obtain ⟨f, M, fd, ps, ok, hb⟩ := G.ex
  obtain ⟨ds, dvs, b1, b2, b3⟩ := hb j hj
  exact ze_mk M ok hr G.mg b1 b2 b3 ha hg hdb he hpl
theorem zd_mk0 (G : Dk X.prog X.w X.K X.mg X.base x C k n F dl) (j : Nat) (hr : Room (k + 1) X.A) (hj : j ≤ dl.length := by decide) (hg : Gl X x := by rfl) (hdb : (x == ("__debug__" : Str)) = false := by decide) : ZE X (.Call (.Name x p0) [] [] pos) (eMk C n F (dl.drop j) aN) := by
  obtain ⟨f, M, fd, ps, ok, hb⟩ := G.ex
  obtain ⟨ds, dvs, b1, b2, b3⟩ := hb j hj
  exact ze_mk0 M ok hr G.mg b1 b2 b3 hg hdb
theorem zd_meth {cs : List Addr} {mt : Str} {pl : Sem Bool} (G : Dm X.prog X.w X.K X.mg X.base C mt k n F dl) (j : Nat) (hr : Room k X.A) (ho : ZE X o dobj) (ha : ZA X (e :: es) t) (hj : j ≤ dl.length := by decide)
    (hst : starEach (e :: es) X.env = (false, eval e X.env) :: starEach es X.env := by rfl) (hpl : (backTo pos (starEach es X.env)).any (·.1) = false := by rfl)
    (ht : eval (.Call (.Attribute o mt apos) (e :: es) [] pos) X.env = (do
      let ov ← eval o X.env
      standAt apos.atName
      let (f, first) ← holding [ov] (getMethod ov mt pl)
      callWith pos f first (backTo pos (starEach (e :: es) X.env)) (backToKw pos (keywordEach [] X.env))) := by rfl) : ZE X (.Call (.Attribute o mt apos) (e :: es) [] pos) (eMt cs mt C n F (dl.drop j) dobj t) := by
  obtain ⟨f, fd, ps, hm, ok, hb⟩ := G.ex
  obtain ⟨ds, dvs, b1, b2, b3⟩ := hb j hj
  exact ze_meth (pl := pl) ho G.cl hm ok hr b1 b2 b3 ha hst hpl ht
theorem zd_meth0 {cs : List Addr} {mt : Str} {pl : Sem Bool} (G : Dm X.prog X.w X.K X.mg X.base C mt k n F dl) (j : Nat) (hr : Room k X.A) (ho : ZE X o dobj) (hj : j ≤ dl.length := by decide)
    (ht : eval (.Call (.Attribute o mt apos) [] [] pos) X.env = (do
      let ov ← eval o X.env
      standAt apos.atName
      let (f, first) ← holding [ov] (getMethod ov mt pl)
      callWith pos f first (backTo pos (starEach [] X.env)) (backToKw pos (keywordEach [] X.env))) := by rfl) : ZE X (.Call (.Attribute o mt apos) [] [] pos) (eMt cs mt C n F (dl.drop j) dobj aN) := by
  obtain ⟨f, fd, ps, hm, ok, hb⟩ := G.ex
  obtain ⟨ds, dvs, b1, b2, b3⟩ := hb j hj
  exact ze_meth0 (pl := pl) ho G.cl hm ok hr b1 b2 b3 ht
end
/-- no defaults -/
theorem binds_none {K : Frag} {x qual : Str} {params : Arguments} {body : List Stmt} {scope : Scope} {kws : List (Str × V)} {f : Addr} {fd : FuncData} {ps : List Str} (F : FunD K x qual params body scope [] kws f fd)
    (h : ∀ (kV doc pm : Value) (an : Option Addr) (cdv ct : Value) (us : List Value), us.length = ps.length → bindArgs (PySem.W.fnOf x qual params body scope .none kV doc pm an cdv ct) ⟨us, []⟩ = pure (ps.zip us)) :
    ∀ j, j ≤ ([] : List D).length → ∃ ds dvs, Binds K fd ps ds ∧ Vals dvs ds ∧ ∀ m B H, RDs K m B H (([] : List D).drop j) dvs := fun j _ => ⟨[], [], F.bindsN h, .nil, fun _ _ _ => by rw [List.drop_nil]; exact RDs.nil⟩
end Z
namespace Z
open PySem L2
theorem hu65 {k : Nat} {A : Around} (r : Room k A) : A.units + 65 < cLine := by
  have := r.un
  omega
theorem exB {l : List Bool} (e : l.all id = true) (i : Nat) {x : Bool} (h : l[i]? = some x) : x = true := List.all_eq_true.mp e x (List.mem_of_getElem? h)
/-- the class's cell that its __init__ holds -/
def cel (K : PySem.W.Frag) (x : Str) : Addr := match K.lookup (He.ma K (He.ga K x) "__init__") with
  | some ⟨_, _, .func fd, _⟩ => (match fd.closure with
    | [p] => p.2
    | _ => 0)
  | _ => 0
def He_xfB (K : PySem.W.Frag) (x : Str) : Bool := xfB K (He.ga K x)
theorem zb_bad {X : Cx} {sts : List Stmt} : ZB X sts fun _ _ => .bad := fun W tk => ⟨fun pins s σ H D I ⟨m, B, ρ, S, rs, e, p⟩ => p.elim⟩
def fNotB : D → D → Sto → R D
  | .bl a, .bl b, S => .ok (.bl (!decide (a = b))) S
  | _, _, _ => .bad
theorem okNotB {K : PySem.W.Frag} : OkOp K rNotB fNotB := by
  intro m B H S d e x y W Q rs rd re p
  cases d <;> try exact p.elim
  rename_i i
  cases e <;> try exact p.elim
  rename_i j
  unfold RD at rd re
  subst rd re
  exact ⟨i, j, rfl, rfl, p.now rs _ (RDb _)⟩
section
variable {X : Cx} {pos : Pos} {a b : Expr} {da db : DE}
theorem ze_notB (ha : ZE X a da) (hb : ZE X b db) : ZE X (.Compare a [.IsNot] [b] pos) (e2 fNotB da db) := ze_cmp op_notBl okNotB ha hb (nomark _)
theorem zt_notB (ha : ZE X a da) (hb : ZE X b db) : ZT X (.Compare a [.IsNot] [b] pos) (tVB (e2 fNotB da db)) := zt_cmp op_notBl okNotB ha hb (nomark _)
end
end Z
namespace Z
open PySem L2

/-! ### plain laws: what comprehensions, loops, places come to -/
theorem lcI_map {tg : Tg} {chk : Sto → Prop} {e : DE} {ρ0 : Env} {S : Sto} (g : D → D) (hc : chk S) : ∀ ds : List D, (∀ d ∈ ds, ∃ ρ1, Tg.asg S tg d ρ0 = some ρ1 ∧ e ρ1 S = .ok (g d) S) → lcI tg chk tYes e ρ0 ds S = .ok (ds.map g) S
  | [], _ => by simp [lcI]
  | d :: ds, h => by
    obtain ⟨ρ1, h1, h2⟩ := h d (List.mem_cons_self ..)
    have ih := lcI_map g hc ds fun d hd => h d (List.mem_cons_of_mem _ hd)
    simp [lcI, h1, tYes, h2, hc, ih]
theorem lcI_filter {tg : Tg} {chk : Sto → Prop} {t : DT} {e : DE} {ρ0 : Env} {S : Sto} (p : D → Bool) (g : D → D) (hc : chk S) : ∀ ds : List D, (∀ d ∈ ds, ∃ ρ1, Tg.asg S tg d ρ0 = some ρ1 ∧ t ρ1 S = .ok (p d) S ∧ (p d = true → e ρ1 S = .ok (g d) S)) → lcI tg chk t e ρ0 ds S = .ok ((ds.filter p).map g) S
  | [], _ => by simp [lcI]
  | d :: ds, h => by
    obtain ⟨ρ1, h1, h2, h3⟩ := h d (List.mem_cons_self ..)
    have ih := lcI_filter p g hc ds fun d hd => h d (List.mem_cons_of_mem _ hd)
    cases hp : p d with
    | true => simp [lcI, h1, h2, hp, h3 hp, hc, ih]
    | false => simp [lcI, h1, h2, hp, hc, ih]
theorem iRow_mem {lo : Int} {n : Nat} {d : D} (h : d ∈ iRow lo n) : ∃ i, i < n ∧ d = .int (lo + (i : Nat)) := by
  unfold iRow at h
  obtain ⟨i, hi, rfl⟩ := List.mem_map.mp h
  exact ⟨i, List.mem_range.mp hi, rfl⟩
def dI : D → Int
  | .int i => i
  | _ => 0
@[simp] theorem dI_int (i : Int) : dI (.int i) = i := rfl
theorem iRow_map (lo : Int) (n : Nat) (g : D → D) : (iRow lo n).map g = (List.range n).map fun i => g (.int (lo + (i : Nat))) := by simp [iRow, Function.comp_def]
/-- over a range -/
theorem lcI_range {j : Nat} {chk : Sto → Prop} {e : DE} {ρ0 : Env} {S : Sto} {n : Nat} {lo : Int} (g : Nat → D) (hc : chk S) (h : ∀ i, i < n → e (ρ0.set j (some (.int (lo + (i : Nat))))) S = .ok (g i) S) : lcI (.nm j) chk tYes e ρ0 (iRow lo n) S = .ok ((List.range n).map g) S := by
  rw [lcI_map (fun d => g (dI d - lo).toNat) hc (iRow lo n) fun d hd => ?_]
  · rw [iRow_map]
    congr 1
    apply List.map_congr_left
    intro i _
    simp only [dI_int]
    congr 1
    omega
  · obtain ⟨i, hi, rfl⟩ := iRow_mem hd
    refine ⟨_, rfl, ?_⟩
    rw [h i hi]
    simp only [dI_int]
    congr 2
    omega
theorem lc2I_flat {tg : Tg} {chk : Sto → Prop} {inn : DA} {ρ0 : Env} {S : Sto} (g : D → List D) (hc : chk S) : ∀ ds : List D, (∀ d ∈ ds, ∃ ρ1, Tg.asg S tg d ρ0 = some ρ1 ∧ inn ρ1 S = .ok (g d) S) → lc2I tg chk tYes inn ρ0 ds S = .ok (ds.flatMap g) S
  | [], _ => by simp [lc2I]
  | d :: ds, h => by
    obtain ⟨ρ1, h1, h2⟩ := h d (List.mem_cons_self ..)
    have ih := lc2I_flat g hc ds fun d hd => h d (List.mem_cons_of_mem _ hd)
    simp [lc2I, h1, tYes, h2, hc, ih]
/-- a loop whose turns keep P -/
theorem forI_inv {tg : Tg} {chk : Sto → Prop} {b : DS} (P : List D → Env → Sto → Prop) : ∀ (ds : List D) (ρ : Env) (S : Sto), P ds ρ S → (∀ d r ρ S, P (d :: r) ρ S → ∃ ρ1, Tg.asg S tg d ρ = some ρ1 ∧ ∃ ρ' S', (b ρ1 S = .nx ρ' S' ∨ b ρ1 S = .ct ρ' S') ∧ chk S' ∧ P r ρ' S') → ∃ ρ' S', forI tg b chk ds ρ S = .nx ρ' S' ∧ P [] ρ' S'
  | [], ρ, S, h, _ => ⟨ρ, S, rfl, h⟩
  | d :: ds, ρ, S, h, step => by
    obtain ⟨ρ1, h1, ρ', S', h2, h3, h4⟩ := step d ds ρ S h
    obtain ⟨ρ2, S2, h5, h6⟩ := forI_inv P ds ρ' S' h4 step
    refine ⟨ρ2, S2, ?_, h6⟩
    rcases h2 with h2 | h2 <;> simp [forI, h1, h2, h3, h5]
theorem forI_keep {tg : Tg} {chk : Sto → Prop} {b : DS} (P : Env → Sto → Prop) (ds : List D) (ρ : Env) (S : Sto) (h : P ρ S) (step : ∀ d ∈ ds, ∀ ρ S, P ρ S → ∃ ρ1, Tg.asg S tg d ρ = some ρ1 ∧ ∃ ρ' S', (b ρ1 S = .nx ρ' S' ∨ b ρ1 S = .ct ρ' S') ∧ chk S' ∧ P ρ' S') : ∃ ρ' S', forI tg b chk ds ρ S = .nx ρ' S' ∧ P ρ' S' := by
  obtain ⟨ρ', S', h1, h2, h3⟩ := forI_inv (tg := tg) (chk := chk) (b := b) (fun r ρ S => (∀ d ∈ r, d ∈ ds) ∧ P ρ S) ds ρ S ⟨fun _ h => h, h⟩ fun d r ρ S ⟨g1, g2⟩ => by
    obtain ⟨ρ1, h1, ρ', S', h2, h3, h4⟩ := step d (g1 d (List.mem_cons_self ..)) ρ S g2
    exact ⟨ρ1, h1, ρ', S', h2, h3, fun d hd => g1 d (List.mem_cons_of_mem _ hd), h4⟩
  exact ⟨ρ', S', h1, h3⟩
theorem fLt_ii (i j : Int) (S : Sto) : fLt (.int i) (.int j) S = .ok (.bl (decide (i < j))) S := rfl
theorem fLe_ii (i j : Int) (S : Sto) : fLe (.int i) (.int j) S = .ok (.bl (decide (i ≤ j))) S := rfl
theorem fGt_ii (i j : Int) (S : Sto) : fGt (.int i) (.int j) S = .ok (.bl (decide (j < i))) S := rfl
theorem fGe_ii (i j : Int) (S : Sto) : fGe (.int i) (.int j) S = .ok (.bl (decide (j ≤ i))) S := rfl
theorem fSub_ii (i j : Int) (S : Sto) : fSub (.int i) (.int j) S = .ok (.int (i - j)) S := rfl
theorem fMod_ii (i j : Int) (S : Sto) : fMod (.int i) (.int j) S = if 0 < j then .ok (.int (i % j)) S else .bad := by
  by_cases h : 0 < j <;> simp [fMod, fI, h]
theorem fMul_ii (i j : Int) (S : Sto) : fMul (.int i) (.int j) S = if mulOk i j = true then .ok (.int (i * j)) S else .bad := rfl
theorem fDiv_ii (i j : Int) (S : Sto) : fDiv (.int i) (.int j) S = if divOk i j = true then .ok (.int (i / j)) S else .bad := rfl
theorem fPow_ii (i j : Int) (S : Sto) : fPow (.int i) (.int j) S = if powOk i j = true then .ok (.int (i ^ j.toNat)) S else .bad := rfl
theorem mulOk_l {i j : Int} (h : i.natAbs < 18446744073709551616) : mulOk i j = true := decide_eq_true (.inl h)
theorem mulOk_r {i j : Int} (h : j.natAbs < 18446744073709551616) : mulOk i j = true := decide_eq_true (.inr (.inl h))
theorem divOk_of {i j : Int} (h : 0 < j) (h2 : j.natAbs < 2 ^ 9000) : divOk i j = true := by
  refine decide_eq_true ⟨h, ?_⟩
  by_cases h0 : j.natAbs = 0
  · omega
  · exact (Nat.log2_lt h0).mpr h2
theorem seq_set {i : Nat} {a : DE} {r : DS} {ρ : Env} {S S' : Sto} {d : D} (h : a ρ S = .ok d S') : sSeq (sSet i a) r ρ S = r (ρ.set i (some d)) S' := by simp [sSeq, sSet, h]
theorem seq_par {i j : Nat} {a b : DE} {r : DS} {ρ : Env} {S S1 S' : Sto} {d e : D} (h : a ρ S = .ok d S1) (h2 : b ρ S1 = .ok e S') : sSeq (sPar i j a b) r ρ S = r ((ρ.set i (some d)).set j (some e)) S' := by simp [sSeq, sPar, h, h2]
theorem seq_nx {a r : DS} {ρ ρ' : Env} {S S' : Sto} (h : a ρ S = .nx ρ' S') : sSeq a r ρ S = r ρ' S' := by simp [sSeq, h]
theorem for_nx {tg : Tg} {i : DI} {b : DS} {ρ : Env} {S S1 : Sto} {ds : List D} {chk : Sto → Prop} (h : i ρ S = .ok (ds, chk) S1) : sFor tg i b ρ S = forI tg b chk ds ρ S1 := by simp [sFor, h]
theorem ret_rt {a : DE} {ρ : Env} {S S' : Sto} {d : D} (h : a ρ S = .ok d S') : sRet a ρ S = .rt d S' := by simp [sRet, h]
theorem run_rt {N : Nat} {den : DS} {ds : List D} {S S' : Sto} {d : D} (h : den (env0 N ds) S = .rt d S') : runB N den ds S = .ok d S' := by simp [runB, h]
theorem seq_asg {tg : Tg} {a : DE} {r : DS} {ρ ρ' : Env} {S S' : Sto} {d : D} (h : a ρ S = .ok d S') (h2 : Tg.asg S' tg d ρ = some ρ') : sSeq (sAsg tg a) r ρ S = r ρ' S' := by simp [sSeq, sAsg, h, h2]
theorem seq_iff {t : DT} {x y r : DS} {ρ ρ' : Env} {S S' S2 : Sto} (h : t ρ S = .ok false S') (h2 : y ρ S' = .nx ρ' S2) : sSeq (sIf t x y) r ρ S = r ρ' S2 := by simp [sSeq, sIf, h, h2]
theorem seq_ift {t : DT} {x y r : DS} {ρ ρ' : Env} {S S' S2 : Sto} (h : t ρ S = .ok true S') (h2 : x ρ S' = .nx ρ' S2) : sSeq (sIf t x y) r ρ S = r ρ' S2 := by simp [sSeq, sIf, h, h2]
theorem seq_skip {t : DT} {x r : DS} {ρ : Env} {S S' : Sto} (h : t ρ S = .ok false S') : sSeq (sIf t x sNx) r ρ S = r ρ S' := by simp [sSeq, sIf, h, sNx]
theorem seq_drop {a : DE} {r : DS} {ρ : Env} {S S' : Sto} {d : D} (h : a ρ S = .ok d S') : sSeq (sDrop a) r ρ S = r ρ S' := by simp [sSeq, sDrop, h]
theorem set_nx {i : Nat} {a : DE} {ρ : Env} {S S' : Sto} {d : D} (h : a ρ S = .ok d S') : sSet i a ρ S = .nx (ρ.set i (some d)) S' := by simp [sSet, h]
theorem if_f {t : DT} {x y : DS} {ρ : Env} {S S' : Sto} (h : t ρ S = .ok false S') : sIf t x y ρ S = y ρ S' := by simp [sIf, h]
theorem if_t {t : DT} {x y : DS} {ρ : Env} {S S' : Sto} (h : t ρ S = .ok true S') : sIf t x y ρ S = x ρ S' := by simp [sIf, h]
theorem e2_ok {f : D → D → Sto → R D} {a b : DE} {ρ : Env} {S S1 S2 : Sto} {x y : D} (ha : a ρ S = .ok x S1) (hb : b ρ S1 = .ok y S2) : Z.e2 f a b ρ S = f x y S2 := by simp [Z.e2, ha, hb]
theorem e1_ok {f : D → Sto → R D} {a : DE} {ρ : Env} {S S1 : Sto} {x : D} (ha : a ρ S = .ok x S1) : Z.e1 f a ρ S = f x S1 := by simp [Z.e1, ha]
theorem fn1_ok {F : List D → Sto → R D} {a : DE} {ρ : Env} {S S1 : Sto} {x : D} (ha : a ρ S = .ok x S1) : eFn 1 F [] (aC a aN) ρ S = F [x] S1 := by simp [eFn, aC, aN, ha]
theorem fn2_ok {F : List D → Sto → R D} {a b : DE} {ρ : Env} {S S1 S2 : Sto} {x y : D} (ha : a ρ S = .ok x S1) (hb : b ρ S1 = .ok y S2) : eFn 2 F [] (aC a (aC b aN)) ρ S = F [x, y] S2 := by simp [eFn, aC, aN, ha, hb]
theorem fn3_ok {F : List D → Sto → R D} {a b d : DE} {ρ : Env} {S S1 S2 S3 : Sto} {x y z : D} (ha : a ρ S = .ok x S1) (hb : b ρ S1 = .ok y S2) (hd : d ρ S2 = .ok z S3) : eFn 3 F [] (aC a (aC b (aC d aN))) ρ S = F [x, y, z] S3 := by simp [eFn, aC, aN, ha, hb, hd]
theorem asg_nm (S : Sto) (i : Nat) (a : D) (ρ : Env) : Tg.asg S (.nm i) a ρ = some (ρ.set i (some a)) := by simp [Tg.asg]
theorem asg_p2 (S : Sto) (i j : Nat) (a b : D) (ρ : Env) : Tg.asg S (.tp [.nm i, .nm j]) (.tup [a, b]) ρ = some ((ρ.set i (some a)).set j (some b)) := by simp [Tg.asg, Tg.asgs, seqOf]
theorem asg_p3 (S : Sto) (i j l : Nat) (a b d : D) (ρ : Env) : Tg.asg S (.tp [.nm i, .nm j, .nm l]) (.tup [a, b, d]) ρ = some (((ρ.set i (some a)).set j (some b)).set l (some d)) := by simp [Tg.asg, Tg.asgs, seqOf]
theorem asg_n2 (S : Sto) (i j l : Nat) (a b d : D) (ρ : Env) : Tg.asg S (.tp [.nm i, .tp [.nm j, .nm l]]) (.tup [a, .tup [b, d]]) ρ = some (((ρ.set i (some a)).set j (some b)).set l (some d)) := by simp [Tg.asg, Tg.asgs, seqOf]
theorem rgOk_nat {n : Nat} (h : n ≤ 1000000) : rgOk ((n : Nat) : Int) = true := by
  unfold rgOk
  exact Nat.blt_eq.mpr (by omega)
theorem iR1_nat {a : DE} {ρ : Env} {S S' : Sto} {n : Nat} (h : a ρ S = .ok (.int (n : Nat)) S') (hn : n ≤ 1000000) : iR1 a ρ S = .ok (iRow 0 n, fun _ => True) S' := by
  unfold iR1
  rw [h]
  simp only [R.bind_ok]
  rw [if_pos (rgOk_nat hn)]
  rfl
theorem iR2_nat {a b : DE} {ρ : Env} {S S' S2 : Sto} {i n : Nat} (h : a ρ S = .ok (.int (i : Nat)) S') (h2 : b ρ S' = .ok (.int (n : Nat)) S2) (hi : i ≤ 1000000) (hn : n ≤ 1000000) : iR2 a b ρ S = .ok (iRow i (n - i), fun _ => True) S2 := by
  unfold iR2
  rw [h]
  simp only [R.bind_ok]
  rw [h2]
  simp only [R.bind_ok]
  rw [if_pos ⟨rgOk_nat hi, rgOk_nat hn⟩]
  congr 3
  omega
theorem atI_nat {α : Type} (xs : List α) (i : Nat) : L2.atI xs ((i : Nat) : Int) = xs[i]? := by
  unfold L2.atI ixN
  by_cases h : i < xs.length
  · rw [if_pos (by omega), if_pos (by omega)]
    simp
  · rw [if_pos (by omega), if_neg (by omega)]
    simp at h
    simp [h]
theorem atI_0 {α : Type} (x : α) (xs : List α) : L2.atI (x :: xs) 0 = some x := by
  have := atI_nat (x :: xs) 0
  simpa using this
theorem atI_1 {α : Type} (x y : α) (xs : List α) : L2.atI (x :: y :: xs) 1 = some y := by
  have := atI_nat (x :: y :: xs) 1
  simpa using this
theorem atI_2 {α : Type} (x y z : α) (xs : List α) : L2.atI (x :: y :: z :: xs) 2 = some z := by
  have := atI_nat (x :: y :: z :: xs) 2
  simpa using this
theorem ixN_nat (n i : Nat) (h : i < n) : ixN n ((i : Nat) : Int) = some i := by
  unfold ixN
  rw [if_pos (by omega), if_pos (by omega)]
  simp
theorem ixN_m1 (n : Nat) (h : 0 < n) : ixN n (-1) = some (n - 1) := by
  unfold ixN
  rw [if_neg (by omega), if_pos (by omega)]
  congr 1
  omega
theorem bools_map {α : Type} (f : α → Bool) : ∀ xs : List α, bools (xs.map fun x => D.bl (f x)) = some (xs.map f)
  | [] => rfl
  | x :: xs => by simp [bools, bools_map f xs]
theorem bools_true {α : Type} (xs : List α) : bools (xs.map fun _ => D.bl true) = some (xs.map fun _ => true) := bools_map (fun _ => true) xs
theorem enumF_mem : ∀ {k : Nat} {ds : List D} {d : D}, d ∈ enumF k ds → ∃ i x, ds[i]? = some x ∧ d = .tup [.int ((k + i : Nat) : Int), x]
  | _, [], _, h => by simp [enumF] at h
  | k, x :: ds, d, h => by
    simp only [enumF, List.mem_cons] at h
    rcases h with rfl | h
    · exact ⟨0, x, by simp, by simp⟩
    · obtain ⟨i, y, h1, rfl⟩ := enumF_mem h
      refine ⟨i + 1, y, by simpa using h1, ?_⟩
      congr 4
      omega
theorem eqD_int (S : Sto) (i j : Int) : eqD S (.int i) (.int j) = some (decide (i = j)) := by
  have e : SeqAt.shaped (.int i) = true := rfl
  have e' : SeqAt.shaped (.int j) = true := rfl
  unfold eqD
  simp only [toP, e, e', and_self, if_true, PyData.eqv]
  congr 1
end Z
namespace Z
open PySem L2
/-! ### the end: a law's walk from its plain law -/
def scrD (xs : List Int) : List D := xs.map .int
theorem sp_scr (K : PySem.W.Frag) {F : List D → Sto → R D} (H : Hp) (a : Addr) (ns : List Int) (hS : SqL K H a (ns.map V.int)) (hl : ∃ S, F [.scr (scrD ns)] [] = .ok (.bl true) S) : spI K 1 F [.ref a] H (fun v _ => v = .bl true) fun _ _ _ => False := by
  obtain ⟨S, hl⟩ := hl
  refine ⟨[], [], [.scr (scrD ns)], [], ⟨rfl, List.nodup_nil, fun a h => absurd h (by simp), fun b h => absurd h (by simp), fun n a o h => by simp at h, fun n P q h => by simp at h⟩, ?_, rfl, ?_⟩
  · refine RDs.cons ?_ RDs.nil
    unfold RD
    refine ⟨a, ns.map V.int, rfl, ?_, ?_⟩
    · rcases hS with h | h
      · exact .inl ⟨by simp, by simp, h⟩
      · exact .inr h
    · clear hl hS
      induction ns with
      | nil => exact RDs.nil
      | cons n ns ih => exact RDs.cons (RDi n) ih
  · rw [hl]
    intro m' H' g r v rv
    unfold RD at rv
    exact rv
theorem walk_Z {l : PySem.W.OpenLaw} {k : Nat} {q : Program} {loose : List Str} {XP : (Str → Option Value) → Heap → Prop} {YP : World → Heap → Prop} {d : DefRec} {K : Params → PySem.W.Frag} {F : PySem.W.Frag → List D → Sto → R D}
    (hn : l.most = some 63) (hdf : d.params.defaults = []) (hr : Room k callerA) (hY : ∀ (w : World) (h : Heap), YP w h → (K w.params).In h)
    (hF : ∀ (w : World) (mg : Str → Option Value) (fa : Addr) (h : Heap), (K w.params).In h → h.Ns mainGlobals mg → mg d.name = some (.ref fa) →
      ∃ fd : FuncData, (∀ (s : Shared) (u : Value), BindsTo s fd ⟨[u], []⟩ [("script", u)]) ∧ ∀ base : Heap, (K w.params).In base → base.Ns mainGlobals mg → FnOk l.prog w (K w.params) mg base (L2.CX l.prog w) k fa fd ["script"] (spI (K w.params) 1 (F (K w.params))))
    (hl : ∀ (K : PySem.W.Frag) (ns : List Int), ns.length ≤ 63 → ∃ S, F K [.scr (scrD ns)] [] = .ok (.bl true) S) : PySem.W.WalkO q loose XP YP l.row.toRowW d [] (fun f vs => PySem.call f vs) :=
  L2.walk_of (l := l) (n := 63) (k := k) (K := K) (x := "script") (CX := fun w => L2.CX l.prog w) (sp := fun w => spI (K w.params) 1 (F (K w.params))) hn (by decide) hdf hr hY hF (fun w H a ns h1 _ hS => sp_scr _ H a ns hS (hl _ ns h1)) fun w H s e s' h => by
    obtain ⟨_, _, _, _, _, _, _, _, _, _, _, _, h⟩ := h
    exact h
end Z
namespace Z
open PySem L2

/-! ### a list made out of parts -/
section
variable {K : PySem.W.Frag} {m m' B : List Addr} {H H' : Hp} {W : Value → Option Addr → Hp → Prop} {Q : VK}
theorem PostL.ge {r : R (List D)} (h : PostL K m B H W Q r) (g : Ge m H m' H') : PostL K m' B H' W Q r := by
  cases r with
  | ok ds S => exact fun m2 H2 p vs g2 r2 hB h0 h2 rv => h m2 H2 p vs (g.trans g2) r2 hB (g.new_wasN (fun hm => r2.dis p (by obtain ⟨⟨l, e⟩, _⟩ := g2; rw [e]; exact List.mem_append_left _ hm) (List.mem_cons_self ..)) h0) h2 rv
  | exc c d S => exact fun m2 H2 x v g2 r2 e2 d2 => h m2 H2 x v (g.trans g2) r2 e2 d2
  | bad => exact h
theorem PostL.bind {α : Type} {r : R α} {f : α → Sto → R (List D)} (h : PostL K m B H W Q (r.bind f)) : Post K m B H W (fun a S' m' H' => PostL K m' B H' W Q (f a S')) r := by
  cases r with
  | ok a S => exact fun m2 H2 g2 r2 => PostL.ge (show PostL K m B H W Q (f a S) from h) g2
  | exc c d S => exact h
  | bad => exact h
/-- the list is there: a new one -/
theorem PostL.put {ds : List D} {vs : List V} {S : Sto} (h : PostL K m B H W Q (.ok ds S)) (rs : RS K m B H S) (rv : RDs K m B H ds vs) {p : Addr} (hp : H p = none) : Q (.ref p) (upd H p (.lst vs)) :=
  h m _ p vs (rs.new hp).1 (rs.ban hp) (rs.notB hp) (nw_none hp) upd_same (RDs.mono (Tr.ban hp) _ _ rv)
end
theorem tE.takeL {W : WX} {K : PySem.W.Frag} {da : DE} {f : D → Sto → R (List D)} {σ : L2.St} {H : Hp} {Q Q' : VK} {m B : List Addr} {ρ : Env} {S : Sto} (r : RS K m B H S) (e : REs K m B H ρ σ) (h : PostL K m B H (fun c x H' => W c x σ H') Q ((da ρ S).bind f))
    (k : ∀ d S1 m1 H1 v, Ge m H m1 H1 → RS K m1 B H1 S1 → REs K m1 B H1 ρ σ → RD K m1 B H1 d v → PostL K m1 B H1 (fun c x H' => W c x σ H') Q (f d S1) → Q' v H1) : tE W K da σ H Q' :=
  ⟨m, B, ρ, S, r, e, (PostL.bind h).imp fun d S1 m1 H1 g1 r1 p v rv => k d S1 m1 H1 v g1 r1 (e.mono g1.tr) rv p⟩
theorem tAr.takeL {W : WX} {K : PySem.W.Frag} {da : DA} {f : List D → Sto → R (List D)} {σ : L2.St} {H : Hp} {Q : VK} {Q' : List V → Hp → Prop} {m B : List Addr} {ρ : Env} {S : Sto} (r : RS K m B H S) (e : REs K m B H ρ σ) (h : PostL K m B H (fun c x H' => W c x σ H') Q ((da ρ S).bind f))
    (k : ∀ d S1 m1 H1 v, Ge m H m1 H1 → RS K m1 B H1 S1 → REs K m1 B H1 ρ σ → RDs K m1 B H1 d v → PostL K m1 B H1 (fun c x H' => W c x σ H') Q (f d S1) → Q' v H1) : tAr W K da σ H Q' :=
  ⟨m, B, ρ, S, r, e, (PostL.bind h).imp fun d S1 m1 H1 g1 r1 p v rv => k d S1 m1 H1 v g1 r1 (e.mono g1.tr) rv p⟩
/-- a list that stands in the heap itself -/
def lstH (S : Sto) : D → Option (List D)
  | .lst ds => some ds
  | .ref n => match S[n]? with
    | some (.lst ds) => some ds
    | _ => none
  | _ => none
theorem lstH_ok {K : PySem.W.Frag} {m B : List Addr} {H : Hp} {S : Sto} (rs : RS K m B H S) {d : D} {v : V} {ds : List D} (rd : RD K m B H d v) (h : lstH S d = some ds) : ∃ a vs, v = .ref a ∧ H a = some (.lst vs) ∧ RDs K m B H ds vs := by
  cases d with
  | lst xs =>
    unfold RD at rd
    obtain ⟨a, vs, rfl, f, r⟩ := rd
    cases h
    exact ⟨a, vs, rfl, f.2.2, r⟩
  | ref n =>
    unfold RD at rd
    obtain ⟨a, rfl, q⟩ := rd
    simp only [lstH] at h
    split at h
    · rename_i xs hn
      cases h
      obtain ⟨vs, ea, rv⟩ := rs.ob n a _ q hn
      exact ⟨a, vs, rfl, ea, rv⟩
    · cases h
  | _ => cases h
def gCat (S : Sto) (x y : D) : R (List D) := match lstH S x, lstH S y with
  | some xs, some ys => if xs.length + ys.length ≤ 16777216 then .ok (xs ++ ys) S else .bad
  | _, _ => .bad
def lCat (a b : DE) : DA := fun ρ S => (a ρ S).bind fun x S1 => (b ρ S1).bind fun y S2 => gCat S2 x y
section
variable {X : Cx} {pos p0 apos : Pos} {a b e o i : Expr} {da db de dobj di : DE} {t : DA}
theorem zl_cat (ha : ZE X a da) (hb : ZE X b db) : ZL X (.BinOp a .Add b pos) (lCat da db) := fun W tk => pe_weak (pe_op op_cat (ha W tk) (hb W tk)) fun σ H Q ⟨m, B, ρ, S, rs, e, p⟩ =>
  tE.takeL rs e p fun x S1 m1 H1 v g1 r1 e1 rx p1 => tE.takeL r1 e1 p1 fun y S2 m2 H2 u g2 r2 e2 ry p2 => by
    unfold gCat at p2
    split at p2
    · rename_i xs ys h1 h2
      split at p2
      · rename_i hl
        obtain ⟨a1, vs, rfl, q1, w1⟩ := lstH_ok r2 (rx.mono g2.tr) h1
        obtain ⟨a2, us, rfl, q2, w2⟩ := lstH_ok r2 ry h2
        exact ⟨a1, a2, vs, us, rfl, rfl, q1, q2, by rw [← w1.len, ← w2.len, sizeLine_eq]; exact hl, fun p hp => p2.put r2 (w1.app w2) hp⟩
      · exact p2.elim
    · exact p2.elim

/-! ### a tuple so many times -/
def fRepT : D → D → Sto → R D
  | .tup ds, .int k, S => if ds ≠ [] ∧ 2 ≤ k ∧ k ≤ 1000 ∧ ds.length ≤ 1000 then .ok (.tup (List.replicate k.toNat ds).flatten) S else .bad
  | _, _, _ => .bad
theorem RDs.rep {K : PySem.W.Frag} {m B : List Addr} {H : Hp} {ds : List D} {vs : List V} (h : RDs K m B H ds vs) : ∀ n, RDs K m B H (List.replicate n ds).flatten (List.replicate n vs).flatten
  | 0 => RDs.nil
  | n + 1 => by
    rw [List.replicate_succ, List.replicate_succ, List.flatten_cons, List.flatten_cons]
    exact h.app (h.rep n)
theorem okRepT {K : PySem.W.Frag} : OkOp K (rRepT K) fRepT := by
  intro m B H S d e x y W Q rs rd re p
  cases d with
  | tup ds =>
    cases e with
    | int k =>
      unfold RD at rd re
      obtain ⟨a, vs, rfl, f, r⟩ := rd
      subst re
      simp only [fRepT] at p
      split at p
      · rename_i h
        refine ⟨a, k, vs, rfl, rfl, f.sq, fun e0 => h.1 (List.length_eq_zero_iff.mp (by rw [r.len, e0]; rfl)), h.2.1, h.2.2.1, by rw [← r.len]; exact h.2.2.2, fun q hq => ?_⟩
        obtain ⟨g2, r2⟩ := rs.new (u := .tup (List.replicate k.toNat vs).flatten) hq
        refine p m _ g2 r2 _ ?_
        unfold RD
        exact ⟨q, _, rfl, .inl ⟨rs.notin hq, rs.notB hq, .inl upd_same⟩, RDs.mono g2.tr _ _ (r.rep _)⟩
      · exact p.elim
    | _ => exact p.elim
  | _ => cases e <;> exact p.elim
theorem ze_repT (ha : ZE X a da) (hb : ZE X b db) : ZE X (.BinOp a .Mult b pos) (e2 fRepT da db) := ze_op op_repT okRepT ha hb

/-! ### a < b: numbers, tuples of numbers -/
def intsD : List D → Option (List Int)
  | [] => some []
  | .int i :: r => (intsD r).map fun l => i :: l
  | _ :: _ => none
theorem intsD_ok {K : PySem.W.Frag} {m B : List Addr} {H : Hp} : ∀ {ds : List D} {vs : List V} {ns : List Int}, RDs K m B H ds vs → intsD ds = some ns → vs = ns.map V.int
  | [], _, _, h, e => by unfold RDs at h; simp only [intsD] at e; cases e; exact h
  | d :: ds, _, _, h, e => by
    unfold RDs at h
    obtain ⟨x, r, rfl, h1, h2⟩ := h
    cases d with
    | int b =>
      unfold RD at h1
      subst h1
      simp only [intsD, Option.map_eq_some_iff] at e
      obtain ⟨bs, e1, rfl⟩ := e
      rw [intsD_ok h2 e1]
      rfl
    | _ => simp only [intsD] at e; cases e
def fLtA : D → D → Sto → R D
  | .int i, .int j, S => .ok (.bl (decide (i < j))) S
  | .tup xs, .tup ys, S => match intsD xs, intsD ys with
    | some ns, some ks => .ok (.bl (HT.lexLt ns ks)) S
    | _, _ => .bad
  | _, _, _ => .bad
def rLtA (K : PySem.W.Frag) : R2 := fun x y H Q => rI0 (fun i j => .bl (decide (i < j))) x y H Q ∨ rLtT K x y H Q
theorem okLtA {K : PySem.W.Frag} : OkOp K (rLtA K) fLtA := by
  intro m B H S d e x y W Q rs rd re p
  cases d with
  | int i =>
    cases e with
    | int j => unfold RD at rd re; subst rd re; exact .inl ⟨i, j, rfl, rfl, p.now rs _ (RDb _)⟩
    | _ => exact p.elim
  | tup xs =>
    cases e with
    | tup ys =>
      unfold RD at rd re
      obtain ⟨a, vs, rfl, f, r⟩ := rd
      obtain ⟨b, us, rfl, f2, r2⟩ := re
      simp only [fLtA] at p
      split at p
      · rename_i ns ks h1 h2
        have e1 := intsD_ok r h1
        have e2 := intsD_ok r2 h2
        subst e1 e2
        exact .inr ⟨a, b, ns, ks, rfl, rfl, f.sq, f2.sq, p.now rs _ (RDb _)⟩
      · exact p.elim
    | _ => exact p.elim
  | _ => cases e <;> exact p.elim
theorem op_ltA (hu : X.A.units < cLine) : OpR X (compareOp .Lt) (rLtA X.K) := op_lt.or (op_ltT hu)
theorem ze_ltA (hu : X.A.units < cLine) (ha : ZE X a da) (hb : ZE X b db) : ZE X (.Compare a [.Lt] [b] pos) (e2 fLtA da db) := ze_cmp (op_ltA hu) okLtA ha hb (nomark _)
theorem zt_ltA (hu : X.A.units < cLine) (ha : ZE X a da) (hb : ZE X b db) : ZT X (.Compare a [.Lt] [b] pos) (tVB (e2 fLtA da db)) := zt_cmp (op_ltA hu) okLtA ha hb (nomark _)
/-! ### name += number -/
def sAug (n : Nat) (a : DE) : DS := fun ρ S => match ρ[n]? with
  | some (some (.int i)) => (a ρ S).to ρ fun y S1 => match y with
    | .int j => .nx (ρ.set n (some (.int (i + j)))) S1
    | _ => .bad
  | _ => .bad
theorem zs_aug {n : Nat} {x : Str} {p1 : Pos} (hN : X.N.Nodup) (ha : ZE X a da) (hi : X.N[n]? = some x := by rfl) (hx : Loc X.env.scope x := by first | exact .inl rfl | exact .inr rfl) (hf : X.fn x = true ∨ X.env.scope.names.lookup x = some .local := by first | exact .inl rfl | exact .inr rfl | assumption) :
    ZS X (.AugAssign (.Name x p1) .Add a pos) (sAug n da) := fun W tk => ps_weak (ps_aug hN hi hx (ha W tk) ip_add hf) fun E σ H ⟨m, B, ρ, S, rs, e, p⟩ => by
  unfold sAug at p
  split at p
  · rename_i k hk
    obtain ⟨v, h1, rv⟩ := e.getE hk
    unfold RD at rv
    subst rv
    refine ⟨_, h1, tE.takeS rs e p fun d S1 m1 H1 u g1 r1 e1 rd p1 => ?_⟩
    cases d <;> try exact p1.elim
    rename_i j
    unfold RD at rd
    subst rd
    exact ⟨k, j, rfl, rfl, p1 m1 H1 _ (.refl _ _) r1 (e1.set n (RDi _))⟩
  · exact p.elim

/-! ### xs.extend(ys) -/
def fExt : D → List D → Sto → R D
  | .ref n, [y], S => match S[n]?, lstH S y with
    | some (.lst ds), some es => if ds.length + es.length ≤ 16777216 then .ok .non (S.set n (.lst (ds ++ es))) else .bad
    | _, _ => .bad
  | _, _, _ => .bad
theorem okExt {K : PySem.W.Frag} : OkM K rExtend fExt := by
  intro m B H S d ds x vs W Q rs rd rds p
  cases d <;> try exact p.elim
  rename_i n
  match ds, rds, p with
  | [], _, p => exact p.elim
  | _ :: _ :: _, _, p => exact p.elim
  | [y], rds, p =>
    obtain ⟨w, rfl, rw'⟩ := rds.one
    unfold RD at rd
    obtain ⟨a, rfl, hq⟩ := rd
    simp only [fExt] at p
    split at p
    · rename_i ds es hn hy
      split at p
      · rename_i hz
        obtain ⟨us, hv, rv⟩ := rs.ob n a _ hq hn
        obtain ⟨b, ws, rfl, hb, rb⟩ := lstH_ok rs rw' hy
        refine ⟨a, b, us, ws, rfl, rfl, hv, hb, by rw [← rv.len, ← rb.len, sizeLine_eq]; exact hz, ?_⟩
        obtain ⟨g4, r4⟩ := rs.put (u := .lst (us ++ ws)) (o := .lst (ds ++ es)) hq fun H' g h' => ⟨_, h', RDs.mono g.tr _ _ (rv.app rb)⟩
        exact p m _ g4 r4 _ RDn
      · exact p.elim
    · exact p.elim
theorem ze_ext (ho : ZE X o dobj) (ha : ZA X [e] t) (hb : attributeBase o "extend" X.env (eval o X.env) = eval o X.env := by rfl)
    (hfew : ((backTo pos (starEach [e] X.env)).all (fun x => !x.1) && (backToKw pos (keywordEach [] X.env)).all (fun x => x.1.isSome) && decide ([e].length + ([] : List Keyword).length + (if ([] : List Keyword).isEmpty then 0 else 1) < 30)) = true := by rfl)
    (hl : (apos.endLine == pos.line) = true := by rfl) (hs : starEach [e] X.env = (false, eval e X.env) :: starEach [] X.env := by rfl) : ZE X (.Call (.Attribute o "extend" apos) [e] [] pos) (eBM fExt dobj t) :=
  ze_bm PySem.F.slot_list_extend PySem.F.type_list_extend mt_extend okExt ho ha hb hfew hl hs

/-! ### list(x): a new list -/
def keyD : Key → D
  | .inl i => .int i
  | .inr s => .str s
def listD (S : Sto) : D → Option (List D)
  | .ref n => match S[n]? with
    | some (.lst ds) => some ds
    | some (.dct kvs) => some (kvs.map fun kv => keyD kv.1)
    | _ => none
  | d => seqOf S d
def gList (S : Sto) : List D → R (List D)
  | [d] => match listD S d with
    | some ds => .ok ds S
    | none => .bad
  | _ => .bad
def lList (a : DA) : DA := fun ρ S => (a ρ S).bind fun ds S1 => gList S1 ds
theorem keyD_rd {K : PySem.W.Frag} {m B : List Addr} {H : Hp} (k : Key) : RD K m B H (keyD k) (kV k) := by
  cases k with
  | inl i => exact RDi i
  | inr s => exact RDst s
theorem keys_rd {K : PySem.W.Frag} {m B : List Addr} {H : Hp} : ∀ {kvs : List (Key × D)} {vs : List (Key × V)}, RFs K m B H kvs vs → RDs K m B H (kvs.map fun kv => keyD kv.1) (vs.map fun kv => kV kv.1)
  | [], _, h => by
    have h' : _ = _ := h
    rw [h']
    exact RDs.nil
  | p :: fs, _, ⟨x, r, e, h1, h2⟩ => by
    subst e
    exact RDs.cons (keyD_rd _) (keys_rd h2)
def rListA (K : PySem.W.Frag) : List V → Hp → VK → Prop := fun xs H Q => (∃ p ys, xs = [.ref p] ∧ (SqL K H p ys ∨ SqT K H p ys) ∧ ∀ l, H l = none → Q (.ref l) (upd H l (.lst ys))) ∨ (∃ (a : Addr) (kvs : List (Key × V)), xs = [.ref a] ∧ Rd H a (.dK kvs) ∧ ∀ p, H p = none → Q (.ref p) (upd H p (.lst (kvs.map fun kv => kV kv.1))))
theorem cr_listA (hc : X.calm = true) : CallR X (.type "list") (rListA X.K) := call_list_of.or (call_listD hc)
theorem zl_list (hc : X.calm = true) (hm : X.mg "list" = none) (ha : ZA X [e] t) (hg : Gl X "list" := by rfl) (he : starEach [e] X.env = (false, eval e X.env) :: starEach [] X.env := by rfl) : ZL X (.Call (.Name "list" p0) [e] [] pos) (lList t) := fun W tk =>
  pe_weak (pe_callTy (cr_listA hc) hg hm (by decide +kernel) (ha W tk) (by decide) (by decide) he (by rfl)) fun σ H Q ⟨m, B, ρ, S, rs, e, p⟩ => tAr.takeL rs e p fun ds S1 m1 H1 vs g1 r1 e1 rds p1 => by
    match ds, rds, p1 with
    | [], _, p1 => exact p1.elim
    | _ :: _ :: _, _, p1 => exact p1.elim
    | [d], rds, p1 =>
      obtain ⟨v, rfl, rv⟩ := rds.one
      simp only [gList] at p1
      split at p1
      · rename_i ds hd
        by_cases hs : ∃ es, seqOf S1 d = some es ∧ es = ds
        · obtain ⟨es, h1, rfl⟩ := hs
          obtain ⟨a, us, rfl, sq, r⟩ := seqOf_ok r1 rv h1
          exact .inl ⟨a, us, rfl, sq, fun p hp => p1.put r1 r hp⟩
        · cases d with
          | ref n =>
            simp only [listD] at hd
            split at hd
            · rename_i es hn
              cases hd
              exact absurd ⟨ds, by simp only [seqOf, hn], rfl⟩ hs
            · rename_i kvs hn
              cases hd
              unfold RD at rv
              obtain ⟨a, rfl, q⟩ := rv
              obtain ⟨us, ea, ru⟩ := r1.ob n a _ q hn
              exact .inr ⟨a, us, rfl, .inl ea, fun p hp => p1.put r1 (keys_rd ru) hp⟩
            · cases hd
          | _ => exact absurd ⟨_, hd, rfl⟩ hs
      · exact p1.elim

/-! ### max(xs), whole numbers -/
def maxI : Int → List Int → Int
  | m, [] => m
  | m, x :: r => maxI (if x > m then x else m) r
theorem maxI_ge : ∀ (l : List Int) (m : Int), m ≤ maxI m l ∧ ∀ x ∈ l, x ≤ maxI m l
  | [], m => ⟨Int.le_refl _, fun x h => absurd h (by simp)⟩
  | y :: l, m => by
    have ih := maxI_ge l (if y > m then y else m)
    have k : m ≤ (if y > m then y else m) ∧ y ≤ (if y > m then y else m) := by split <;> omega
    unfold maxI
    refine ⟨Int.le_trans k.1 ih.1, fun x h => ?_⟩
    rcases List.mem_cons.mp h with rfl | h
    · exact Int.le_trans k.2 ih.1
    · exact ih.2 x h
theorem maxI_mem : ∀ (l : List Int) (m : Int), maxI m l = m ∨ maxI m l ∈ l
  | [], m => .inl rfl
  | y :: l, m => by
    unfold maxI
    rcases maxI_mem l (if y > m then y else m) with h | h
    · by_cases hy : y > m
      · rw [if_pos hy] at h ⊢
        exact .inr (by rw [h]; exact List.mem_cons_self ..)
      · rw [if_neg hy] at h ⊢
        exact .inl h
    · exact .inr (List.mem_cons_of_mem _ h)
def fMax : List D → Sto → R D
  | [d], S => match (lstOf S d).bind intsD with
    | some (x :: r) => .ok (.int (maxI x r)) S
    | _ => .bad
  | _, _ => .bad
theorem okMax {K : PySem.W.Frag} : OkCall K (rMax K) fMax := by
  intro m B H S ds vs W Q rs rds p
  match ds with
  | [] => exact p.elim
  | d :: e :: r => exact p.elim
  | [d] =>
    obtain ⟨v, rfl, rv⟩ := rds.one
    simp only [fMax] at p
    split at p
    · rename_i x l h
      obtain ⟨ds, h1, h2⟩ := Option.bind_eq_some_iff.mp h
      obtain ⟨a, vs, rfl, sq, r⟩ := lstOf_ok rs rv h1
      rw [intsD_ok r h2] at sq
      refine ⟨a, x :: l, rfl, sq, by simp, fun k hk hge => ?_⟩
      have e : k = maxI x l := by
        have h3 := (maxI_ge l x)
        have h4 : maxI x l ≤ k := hge _ (by rcases maxI_mem l x with q | q; · rw [q]; exact List.mem_cons_self ..
                                            · exact List.mem_cons_of_mem _ q)
        rcases List.mem_cons.mp hk with rfl | hk
        · omega
        · have := h3.2 k hk
          omega
      rw [e]
      exact p.now rs _ (RDi _)
    · exact p.elim
theorem ze_max (hc : X.calm = true) (hm : X.mg "max" = none) (ha : ZA X [e] t) (hg : Gl X "max" := by rfl) (he : starEach [e] X.env = (false, eval e X.env) :: starEach [] X.env := by rfl) : ZE X (.Call (.Name "max" p0) [e] [] pos) (eCall fMax t) := ze_callB (cr_max hc) okMax hm ha hg (he := he)
end
end Z
namespace Z
open PySem PySem.Spec PyProof.Rows L2

/-! ### a set out of a list of whole numbers -/
/-- the empty set, as it is made -/
abbrev set0 (w : World) : Obj := ⟨.type "set", none, .set #[] 0 (.fresh 0 0 (!w.params.followText "set-order")), #[]⟩
section
variable {P : Program} {w : World} {A : Around} {E : Value → Shared → Prop} {s : Shared}
/-- what the set at S is to be, made of ns; else the heap grows -/
def SetBy (w : World) (s : Shared) (ns : List Int) (s' : Shared) : Prop :=
  ∃ h' tk c, s' = { s with heap := h', toks := tk } ∧ SetR w h' s.heap.objs.size (fun j => decide (j ∈ ns)) c ∧ c ≤ ns.length ∧ ∀ b o, s.heap.get? b = some o → h'.get? b = some o
theorem set_fill {l : Addr} {us : Array Value} {ns : List Int} (hh : A.handled = none) (hl : s.heap.IsList l us) (hit : IntsAre us.toList ns) (hb : ns.length + 1 < scanBound) :
    codeAny (model P w) A (.call (.builtin "set.__init__") ⟨[.ref s.heap.objs.size, .ref l], []⟩) (wants (fun r s₂ => r = .none ∧ SetBy w s ns s₂) E) { s with heap := s.heap.push (set0 w) } := by
  have nn : us.size = ns.length := by
    have z := IntsAre.length hit
    rw [Array.length_toList] at z
    exact z
  have own : (s.heap.push (set0 w)).get? s.heap.objs.size = some (set0 w) := Heap.get?_push_size _ rfl
  have ty : Shared.TypeIs { s with heap := s.heap.push (set0 w) } (.ref s.heap.objs.size) "set" := ⟨_, own, rfl⟩
  refine codeAny_call_builtin F.called_set.init.plain F.entry_set_init (check_set_init_1 ty ?_)
  obtain ⟨ob, g0, c0, k0, d0⟩ := hl
  obtain ⟨oc, od, odt, os⟩ := ob
  simp only at c0 d0
  subst c0 d0
  have g1 : (s.heap.push (set0 w)).get? l = some ⟨.type "list", od, .seq us k0, os⟩ := Heap.get?_push_of_some _ g0
  have ls : (s.heap.push (set0 w)).IsList l us := ⟨_, g1, rfl, k0, rfl⟩
  have n1 := F.sub_list_set
  have n2 := F.sub_list_frozenset
  have n3 : (Value.type "list" == Value.type "dict") = false := by decide
  unfold Builtin.«set.__init__» noKeywords Builtin.Frozenset.updateFrom
  generalize hIt : pyIter = It
  wp_walk
  subst hIt
  have lt : l < s.heap.objs.size := Heap.lt_size g0
  have sz : (s.heap.push (set0 w)).objs.size = s.heap.objs.size + 1 := Heap.size_push ..
  have far : l ≠ (s.heap.push (set0 w)).objs.size := by rw [sz]; exact Nat.ne_of_lt (Nat.lt_succ_of_lt lt)
  have out : s.heap.objs.size ∉ [(s.heap.push (set0 w)).objs.size, l] := by
    rw [sz]
    simp only [List.mem_cons, List.not_mem_nil, or_false, not_or]
    exact ⟨Nat.ne_of_lt (Nat.lt_succ_self _), Nat.ne_of_gt lt⟩
  have each : ∀ (i : Nat) (v : Value), us[i]? = some v → ∃ k t, ns[i]? = some k ∧ v = .int k t := fun i v hv => by
    have hi : i < ns.length := nn ▸ (Array.getElem?_eq_some_iff.mp hv).1
    obtain ⟨t, e⟩ := IntsAre.int_at hit i v (by rw [Array.getElem?_toList]; exact hv)
    exact ⟨ns[i], t, List.getElem?_eq_getElem hi, by rw [e, List.getD_eq_getElem?_getD, List.getElem?_eq_getElem hi]; rfl⟩
  refine wpAny_pyIter_list ls (wpAny_bind (wpAny_runValue ?_))
  have h3 : A.in1.in1.handled = none := by simp [hh]
  refine set_update_ints ((Walks.list h3 _ l far us).toS) s.heap.objs.size out ns nn hb each (us.size - 0) 0 _ (by omega) (Nat.zero_le _) ?_ ⟨0, Nat.le_refl 0, ?_⟩ fun s' c' hm hc' hS' => ?_
  · exact ⟨⟨_, Heap.get?_push_size _ rfl, rfl, rfl⟩, (ls.push _)⟩
  · exact setR_new_at (Heap.get?_push_of_some _ own)
  obtain ⟨h', g2, d', tk', os'⟩ := s'
  have eg : g2 = s.gens := hm.gens
  have ed : d' = s.drawn := hm.drawn
  have eo : os' = s.os := hm.os
  subst eg ed eo
  show wpAny _ _ _ _ _ _
  refine wpAny_pure ?_
  show wpAny _ _ (ret Value.none) _ _ _
  refine wpAny_pure ⟨rfl, h', tk', c', rfl, hS', nn ▸ hc', fun b o e => hm.heap b o ?_ (Heap.get?_push_of_some _ (Heap.get?_push_of_some _ e))⟩
  have lb : b < s.heap.objs.size := Heap.lt_size e
  rw [sz]
  simp only [List.mem_cons, List.not_mem_nil, or_false, not_or]
  exact ⟨Nat.ne_of_lt lb, Nat.ne_of_lt (Nat.lt_succ_of_lt lb)⟩
theorem set_ofInts {l : Addr} {us : Array Value} {ns : List Int} {Q : Value → Shared → Prop} (hh : A.handled = none) (hl : s.heap.IsList l us) (hit : IntsAre us.toList ns) (hb : ns.length + 1 < scanBound)
    (h : ∀ s', SetBy w s ns s' → Q (.ref s.heap.objs.size) s') : wpAny (model P w) A (call (.type "set") [.ref l]) Q E s := by
  obtain ⟨c, tl, hmro⟩ := F.called_set.mro
  have made := F.called_set.made
  have sub := F.called_set.sub
  have f1 := F.called_set.notType
  have f2 := F.called_set.canCreate
  have f3 := F.typeCall_set_1 (.ref l)
  refine wpAny_call (codeAny_of_tree (show wpAny _ _ (callAny (.type "set") _) _ _ _ from wpAny_pure ⟨Code.quiet_builtin _ (by decide +kernel), codeAny_builtin F.entry_type_call ?_⟩))
  rw [Around.under_plain (weight_type_call_type "set" [.ref l] []) rfl]
  repeat (any_goals (first | assumption | wp_step))
  refine codeAny_mono (code_set_led1 (.ref l) (E := E) (Q₁ := fun obj s₁ => obj = .ref s.heap.objs.size ∧ s₁ = { s with heap := s.heap.push (set0 w) }) ⟨rfl, rfl⟩) fun r s₁ hr => ?_
  match r, hr with
  | .error e, hr => exact hr
  | .ok .next, hr => exact hr.elim
  | .ok .brk, hr => exact hr.elim
  | .ok .cont, hr => exact hr.elim
  | .ok (.ret obj), hr =>
    obtain ⟨rfl, rfl⟩ := hr
    have own : (s.heap.push (set0 w)).get? s.heap.objs.size = some (set0 w) := Heap.get?_push_size _ rfl
    have ty : Shared.TypeIs { s with heap := s.heap.push (set0 w) } (.ref s.heap.objs.size) "set" := ⟨_, own, rfl⟩
    have i1 := F.called_set.init.lookup
    have i2 := F.called_set.init.bind (.ref s.heap.objs.size)
    repeat (any_goals (first | assumption | wp_step))
    refine codeAny_mono (set_fill (E := E) (by simpa using hh) hl hit hb) fun r₂ s₂ hr₂ => ?_
    match r₂, hr₂ with
    | .error e, hr₂ => exact hr₂
    | .ok .next, hr₂ => exact hr₂.elim
    | .ok .brk, hr₂ => exact hr₂.elim
    | .ok .cont, hr₂ => exact hr₂.elim
    | .ok (.ret r), hr₂ =>
      obtain ⟨rfl, hx⟩ := hr₂
      repeat (any_goals (first | assumption | wp_step))
      exact h _ hx
end
end Z
namespace Z
open PySem L2

/-! ### sorted by a key -/
section
variable {α : Type}
def insK (key : α → Int) (x : α) : List α → List α
  | [] => [x]
  | y :: r => if key x ≤ key y then x :: y :: r else y :: insK key x r
def sortK (key : α → Int) : List α → List α
  | [] => []
  | x :: r => insK key x (sortK key r)
theorem insK_perm (key : α → Int) (x : α) : ∀ l, (insK key x l).Perm (x :: l)
  | [] => .refl _
  | y :: r => by
    unfold insK
    split
    · exact .refl _
    · exact ((insK_perm key x r).cons y).trans (.swap x y r)
theorem sortK_perm (key : α → Int) : ∀ l, (sortK key l).Perm l
  | [] => .refl _
  | x :: r => (insK_perm key x _).trans ((sortK_perm key r).cons x)
theorem insK_pw (key : α → Int) (x : α) : ∀ l, l.Pairwise (fun x y => key x ≤ key y) → (insK key x l).Pairwise fun x y => key x ≤ key y
  | [], _ => List.pairwise_singleton ..
  | y :: r, h => by
    unfold insK
    obtain ⟨h1, h2⟩ := List.pairwise_cons.mp h
    split
    · rename_i hx
      exact List.pairwise_cons.mpr ⟨fun z hz => by
        rcases List.mem_cons.mp hz with rfl | hz
        · exact hx
        · exact Int.le_trans hx (h1 z hz), h⟩
    · rename_i hx
      refine List.pairwise_cons.mpr ⟨fun z hz => ?_, insK_pw key x r h2⟩
      rcases List.mem_cons.mp ((insK_perm key x r).mem_iff.mp hz) with rfl | hz
      · omega
      · exact h1 z hz
theorem sortK_pw (key : α → Int) : ∀ l, (sortK key l).Pairwise fun x y => key x ≤ key y
  | [] => .nil
  | x :: r => insK_pw key x _ (sortK_pw key r)
theorem sortK_uniq {key : α → Int} {l m : List α} (hp : m.Perm l) (hs : m.Pairwise fun x y => key x ≤ key y) (hi : ∀ x ∈ l, ∀ y ∈ l, key x = key y → x = y) : m = sortK key l :=
  List.Perm.eq_of_pairwise (fun a b ha hb h1 h2 => hi a (hp.mem_iff.mp ha) b ((sortK_perm key l).mem_iff.mp hb) (Int.le_antisymm h1 h2)) hs (sortK_pw key l) (hp.trans (sortK_perm key l).symm)
/-- each once -/
def insU (key : α → Int) (x : α) : List α → List α
  | [] => [x]
  | y :: r => if key x < key y then x :: y :: r else if key x = key y then y :: r else y :: insU key x r
def usortK (key : α → Int) : List α → List α
  | [] => []
  | x :: r => insU key x (usortK key r)
theorem insU_mem {key : α → Int} {x : α} : ∀ {l : List α}, (∀ y ∈ l, key x = key y → x = y) → ∀ z, z ∈ insU key x l ↔ z = x ∨ z ∈ l
  | [], _, z => by simp [insU]
  | y :: r, h, z => by
    unfold insU
    split
    · simp
    · split
      · rename_i he
        have := h y (List.mem_cons_self ..) he
        subst this
        simp
      · have ih := insU_mem (key := key) (x := x) (l := r) (fun w hw => h w (List.mem_cons_of_mem _ hw)) z
        rw [List.mem_cons, ih, List.mem_cons]
        constructor
        · rintro (h | h | h)
          · exact .inr (.inl h)
          · exact .inl h
          · exact .inr (.inr h)
        · rintro (h | h | h)
          · exact .inr (.inl h)
          · exact .inl h
          · exact .inr (.inr h)
theorem usortK_mem {key : α → Int} : ∀ {l : List α}, (∀ x ∈ l, ∀ y ∈ l, key x = key y → x = y) → ∀ z, z ∈ usortK key l ↔ z ∈ l
  | [], _, z => by simp [usortK]
  | x :: r, h, z => by
    have ih := usortK_mem (key := key) (l := r) fun a ha b hb => h a (List.mem_cons_of_mem _ ha) b (List.mem_cons_of_mem _ hb)
    unfold usortK
    rw [insU_mem (fun y hy => h x (List.mem_cons_self ..) y (List.mem_cons_of_mem _ ((ih y).mp hy))), ih, List.mem_cons]
theorem insU_sub {key : α → Int} {x : α} : ∀ {l : List α} {z}, z ∈ insU key x l → z = x ∨ z ∈ l
  | [], z, h => by simp [insU] at h; exact .inl h
  | y :: r, z, h => by
    unfold insU at h
    split at h
    · exact List.mem_cons.mp h
    · split at h
      · exact .inr h
      · rcases List.mem_cons.mp h with h | h
        · exact .inr (h ▸ List.mem_cons_self ..)
        · exact (insU_sub h).imp id (List.mem_cons_of_mem _)
theorem insU_pw (key : α → Int) (x : α) : ∀ l, l.Pairwise (fun x y => key x < key y) → (insU key x l).Pairwise fun x y => key x < key y
  | [], _ => List.pairwise_singleton ..
  | y :: r, h => by
    unfold insU
    obtain ⟨h1, h2⟩ := List.pairwise_cons.mp h
    split
    · rename_i hx
      exact List.pairwise_cons.mpr ⟨fun z hz => by
        rcases List.mem_cons.mp hz with rfl | hz
        · exact hx
        · exact Int.lt_trans hx (h1 z hz), h⟩
    · split
      · exact h
      · rename_i hx hy
        refine List.pairwise_cons.mpr ⟨fun z hz => ?_, insU_pw key x r h2⟩
        rcases insU_sub hz with rfl | hz
        · omega
        · exact h1 z hz
theorem usortK_pw (key : α → Int) : ∀ l, (usortK key l).Pairwise fun x y => key x < key y
  | [] => .nil
  | x :: r => insU_pw key x _ (usortK_pw key r)
theorem usortK_uniq {key : α → Int} {l m : List α} (hm : ∀ z, z ∈ m ↔ z ∈ l) (hs : m.Pairwise fun x y => key x < key y) (hi : ∀ x ∈ l, ∀ y ∈ l, key x = key y → x = y) : m = usortK key l := by
  have pw := usortK_pw key l
  have nd : ∀ {k : List α}, k.Pairwise (fun x y => key x < key y) → k.Nodup := fun h => h.imp fun q e => by subst e; exact absurd q (Int.lt_irrefl _)
  refine List.Perm.eq_of_pairwise (le := fun x y => key x < key y) (fun a b ha hb h1 h2 => absurd h1 (by omega)) hs pw ?_
  exact (List.perm_ext_iff_of_nodup (nd hs) (nd pw)).mpr fun z => (hm z).trans (usortK_mem hi z).symm
end

/-! ### whole numbers, tuples of them -/
def tupI : D → Option (List Int)
  | .tup xs => intsD xs
  | _ => none
def keyT : D → Int
  | .int i => i
  | .tup xs => match intsD xs with
    | some ns => TS.code 1024 ns
    | none => 0
  | _ => 0
def bdB (ns : List Int) : Bool := ns.all fun n => decide (0 ≤ n) && decide (n < 1024)
def tupsB (d : Nat) (ds : List D) : Bool := ds.all fun x => match tupI x with
  | some ns => decide (ns.length = d) && bdB ns
  | none => false
def lenT : List D → Nat
  | .tup xs :: _ => xs.length
  | _ => 0
theorem bdB_ok {ns : List Int} (h : bdB ns = true) : TS.Bd 1024 ns := fun k hk => by
  unfold bdB at h
  have := List.all_eq_true.mp h k hk
  simp only [Bool.and_eq_true, decide_eq_true_eq] at this
  exact this
theorem intsD_len : ∀ {ds : List D} {ns : List Int}, intsD ds = some ns → ds = ns.map D.int
  | [], _, h => by simp only [intsD] at h; cases h; rfl
  | d :: ds, _, h => by
    cases d with
    | int i =>
      simp only [intsD, Option.map_eq_some_iff] at h
      obtain ⟨l, h1, rfl⟩ := h
      rw [intsD_len h1]
      rfl
    | _ => simp only [intsD] at h; cases h
theorem tupI_eq {x : D} {ns : List Int} (h : tupI x = some ns) : x = .tup (ns.map D.int) := by
  cases x with
  | tup xs => rw [intsD_len (show intsD xs = some ns from h)]
  | _ => cases h
theorem intsD_map : ∀ ns : List Int, intsD (ns.map D.int) = some ns
  | [] => rfl
  | i :: r => by
    show (intsD (r.map D.int)).map _ = _
    rw [intsD_map r]
    rfl
theorem keyT_tup (ns : List Int) : keyT (.tup (ns.map D.int)) = TS.code 1024 ns := by
  show (match intsD (ns.map D.int) with
    | some ns => TS.code 1024 ns
    | none => 0) = _
  rw [intsD_map]
theorem code_inj {B : Int} : ∀ {r q : List Int}, r.length = q.length → TS.Bd B r → TS.Bd B q → TS.code B r = TS.code B q → r = q
  | [], [], _, _, _, _ => rfl
  | d :: r, e :: q, hl, hr, hq, h => by
    have hl' : r.length = q.length := Nat.succ.inj hl
    rcases Int.lt_trichotomy d e with c | c | c
    · exact absurd h (Int.ne_of_lt (TS.code_lt hl' hr.tail hq.tail c))
    · subst c
      have h' : d * B ^ r.length + TS.code B r = d * B ^ q.length + TS.code B q := h
      rw [hl'] at h'
      rw [code_inj hl' hr.tail hq.tail (by omega)]
    · exact absurd h.symm (Int.ne_of_lt (TS.code_lt hl'.symm hq.tail hr.tail c))
theorem tupsB_at {d : Nat} {ds : List D} (h : tupsB d ds = true) {x : D} (hx : x ∈ ds) : ∃ ns, x = .tup (ns.map D.int) ∧ ns.length = d ∧ TS.Bd 1024 ns := by
  have q := List.all_eq_true.mp h x hx
  split at q
  · rename_i ns hn
    simp only [Bool.and_eq_true, decide_eq_true_eq] at q
    exact ⟨ns, tupI_eq hn, q.1, bdB_ok q.2⟩
  · cases q
theorem tupsB_inj {d : Nat} {ds : List D} (h : tupsB d ds = true) : ∀ x ∈ ds, ∀ y ∈ ds, keyT x = keyT y → x = y := fun x hx y hy e => by
  obtain ⟨n1, rfl, l1, b1⟩ := tupsB_at h hx
  obtain ⟨n2, rfl, l2, b2⟩ := tupsB_at h hy
  rw [keyT_tup, keyT_tup] at e
  rw [code_inj (by omega) b1 b2 e]
theorem keyT_int (i : Int) : keyT (.int i) = i := rfl
theorem ints_inj {ns : List Int} : ∀ x ∈ ns.map D.int, ∀ y ∈ ns.map D.int, keyT x = keyT y → x = y := fun x hx y hy e => by
  obtain ⟨i, _, rfl⟩ := List.mem_map.mp hx
  obtain ⟨j, _, rfl⟩ := List.mem_map.mp hy
  rw [show i = j from e]
def gSort (S : Sto) : List D → R (List D)
  | [x] => match lstOf S x with
    | some ds => if (intsD ds).isSome = true then .ok (sortK keyT ds) S else if ds.length < 64 ∧ 1 ≤ lenT ds ∧ tupsB (lenT ds) ds = true then .ok (sortK keyT ds) S else .bad
    | none => .bad
  | _ => .bad
def lSort (a : DA) : DA := fun ρ S => (a ρ S).bind fun ds S1 => gSort S1 ds
section
variable {K : PySem.W.Frag} {m B : List Addr} {H : Hp}
theorem RDs.perm {vs ys : List V} (p : ys.Perm vs) : ∀ {ds : List D}, RDs K m B H ds vs → ∃ ds', ds'.Perm ds ∧ RDs K m B H ds' ys := by
  induction p with
  | nil => exact fun {ds} h => ⟨ds, .refl _, h⟩
  | cons x p ih =>
    intro ds h
    cases ds with
    | nil => unfold RDs at h; cases h
    | cons d ds =>
      unfold RDs at h
      obtain ⟨y, r, e, h1, h2⟩ := h
      cases e
      obtain ⟨ds', p', h'⟩ := ih h2
      exact ⟨d :: ds', p'.cons d, RDs.cons h1 h'⟩
  | swap x y l =>
    intro ds h
    cases ds with
    | nil => unfold RDs at h; cases h
    | cons d ds =>
      unfold RDs at h
      obtain ⟨y1, r, e, h1, h2⟩ := h
      cases e
      cases ds with
      | nil => unfold RDs at h2; cases h2
      | cons d2 ds =>
        unfold RDs at h2
        obtain ⟨y2, r2, e2, h3, h4⟩ := h2
        cases e2
        exact ⟨d2 :: d :: ds, .swap .., RDs.cons h3 (RDs.cons h1 h4)⟩
  | trans _ _ ih1 ih2 =>
    intro ds h
    obtain ⟨d1, p1, h1⟩ := ih2 h
    obtain ⟨d2, p2, h2⟩ := ih1 h1
    exact ⟨d2, p2.trans p1, h2⟩
theorem ints_rd : ∀ ns : List Int, RDs K m B H (ns.map D.int) (ns.map V.int)
  | [] => RDs.nil
  | i :: r => RDs.cons (RDi i) (ints_rd r)
theorem RD.tupI {ns : List Int} {v : V} (h : RD K m B H (.tup (ns.map D.int)) v) : TupI K H v ns := by
  unfold RD at h
  obtain ⟨a, vs, rfl, f, r⟩ := h
  refine ⟨a, rfl, ?_⟩
  rw [← intsD_ok r (intsD_map ns)]
  exact f.sq
theorem RDs.mem : ∀ {ds : List D} {vs : List V}, RDs K m B H ds vs → ∀ v ∈ vs, ∃ d ∈ ds, RD K m B H d v
  | [], _, h, v, hv => by unfold RDs at h; subst h; cases hv
  | d :: ds, _, h, v, hv => by
    unfold RDs at h
    obtain ⟨x, r, rfl, h1, h2⟩ := h
    rcases List.mem_cons.mp hv with rfl | hv
    · exact ⟨d, List.mem_cons_self .., h1⟩
    · obtain ⟨d', m', r'⟩ := RDs.mem h2 v hv
      exact ⟨d', List.mem_cons_of_mem _ m', r'⟩
theorem RDs.pw {d : Nat} : ∀ {ds : List D} {vs : List V}, (∀ x ∈ ds, ∃ ns : List Int, x = .tup (ns.map D.int) ∧ ns.length = d ∧ TS.Bd 1024 ns) → RDs K m B H ds vs → vs.Pairwise (fun x y => ∀ n k, TupI K H x n → TupI K H y k → TS.code 1024 n ≤ TS.code 1024 k) → ds.Pairwise fun x y => keyT x ≤ keyT y
  | [], _, _, _, _ => .nil
  | d :: ds, _, hb, h, q => by
    unfold RDs at h
    obtain ⟨x, r, rfl, h1, h2⟩ := h
    obtain ⟨q1, q2⟩ := List.pairwise_cons.mp q
    refine List.pairwise_cons.mpr ⟨fun e he => ?_, RDs.pw (fun x hx => hb x (List.mem_cons_of_mem _ hx)) h2 q2⟩
    obtain ⟨n1, rfl, _, _⟩ := hb d (List.mem_cons_self ..)
    obtain ⟨n2, rfl, _, _⟩ := hb e (List.mem_cons_of_mem _ he)
    obtain ⟨i, hi, e2⟩ := List.getElem_of_mem he
    obtain ⟨v, hv, rv⟩ := h2.get (show ds[i]? = some (.tup (n2.map D.int)) by rw [List.getElem?_eq_getElem hi, e2])
    rw [keyT_tup, keyT_tup]
    exact q1 v (List.mem_of_getElem? hv) _ _ h1.tupI rv.tupI
end
def rSortA (K : PySem.W.Frag) : List V → Hp → VK → Prop := fun vs H Q => rSortedI K vs H Q ∨ ∃ d : Nat, 1 ≤ d ∧ rSortU K d 1024 vs H Q
theorem cr_sortA {X : Cx} : CallR X (.builtin "sorted") (rSortA X.K) := cr_sortedI.or fun pins s σ H xs us Q I rs ⟨d, hd, q⟩ => cr_sortT hd pins s σ H xs us Q I rs q
section
variable {X : Cx} {pos p0 p1 p2 : Pos} {e : Expr} {t : DA}
theorem zl_sorted (hm : X.mg "sorted" = none) (ha : ZA X [e] t) (hg : Gl X "sorted" := by rfl) (he : starEach [e] X.env = (false, eval e X.env) :: starEach [] X.env := by rfl) : ZL X (.Call (.Name "sorted" p0) [e] [] pos) (lSort t) := fun W tk =>
  pe_weak (pe_callB cr_sortA hg hm (by decide +kernel) (ha W tk) (by decide) (by decide) he (by rfl)) fun σ H Q ⟨m, B, ρ, S, rs, e, p⟩ => tAr.takeL rs e p fun ds S1 m1 H1 vs g1 r1 e1 rds p1 => by
    match ds, rds, p1 with
    | [], _, p1 => exact p1.elim
    | _ :: _ :: _, _, p1 => exact p1.elim
    | [d], rds, p1 =>
      obtain ⟨v, rfl, rv⟩ := rds.one
      simp only [gSort] at p1
      split at p1
      · rename_i ds hd
        obtain ⟨a, us, rfl, sq, r⟩ := lstOf_ok r1 rv hd
        split at p1
        · rename_i hi
          obtain ⟨ns, hn⟩ := Option.isSome_iff_exists.mp hi
          have ed := intsD_len hn
          rw [intsD_ok r hn] at sq
          refine .inl ⟨a, ns, rfl, sq, fun ns' p hp hs hpn => ?_⟩
          have eq : ns'.map D.int = sortK keyT ds := by
            rw [ed]
            exact sortK_uniq (hp.map _) (List.pairwise_map.mpr hs) ints_inj
          rw [← eq] at p1
          exact p1.put r1 (ints_rd ns') hpn
        · split at p1
          · rename_i hc
            refine .inr ⟨lenT ds, hc.2.1, a, us, rfl, sq, by rw [← r.len]; exact hc.1, fun x hx => ?_, fun ys p hp hs hpn => ?_⟩
            · obtain ⟨y, hy, ry⟩ := r.mem x hx
              obtain ⟨ns, rfl, h1, h2⟩ := tupsB_at hc.2.2 hy
              exact ⟨ns, ry.tupI, h1, h2⟩
            · obtain ⟨ds', q1, q2⟩ := r.perm hp
              have eq : ds' = sortK keyT ds := sortK_uniq q1 (RDs.pw (fun x hx => tupsB_at hc.2.2 (q1.mem_iff.mp hx)) q2 hs) (tupsB_inj hc.2.2)
              rw [← eq] at p1
              exact p1.put r1 q2 hpn
          · exact p1.elim
      · exact p1.elim

/-! ### sorted(set(xs)) -/
def gSortSet (S : Sto) : List D → R (List D)
  | [x] => match lstOf S x with
    | some ds => if ds.length < 64 ∧ ((intsD ds).isSome = true ∨ 1 ≤ lenT ds ∧ tupsB (lenT ds) ds = true) then .ok (usortK keyT ds) S else .bad
    | none => .bad
  | _ => .bad
def lSortSet (a : DA) : DA := fun ρ S => (a ρ S).bind fun ds S1 => gSortSet S1 ds
/-- set(xs), whole numbers -/
def rSetI (K : PySem.W.Frag) (w : World) : List V → Hp → VK → Prop := fun xs H Q => ∃ (l : Addr) (ns : List Int), xs = [V.ref l] ∧ SqL K H l (ns.map V.int) ∧ ns.length < 64 ∧ ∀ a c, H a = none → c ≤ ns.length → Q (.ref a) (upd H a (SetO w a (fun j => decide (j ∈ ns)) c))
theorem cr_setI (hc : X.calm = true) : CallR X (.type "set") (rSetI X.K X.w) := by
  intro pins s σ H xs us Q I r h
  obtain ⟨l, ns, rfl, hl, hf, q⟩ := h
  rw [Vals.ref1 r]
  obtain ⟨its, rv, pl, hz⟩ := I.list hl
  have hn : H s.heap.objs.size = none := I.hok.fresh (Nat.le_refl _)
  refine set_ofInts (P := X.prog) (w := X.w) (ns := ns) (I.ok.hd hc) pl.isList (by simpa using rv.ints) (by unfold scanBound; omega) fun s' hs => ?_
  obtain ⟨h', tk, c, rfl, R, hle, k⟩ := hs
  exact ⟨.ref s.heap.objs.size, upd H s.heap.objs.size (SetO X.w s.heap.objs.size (fun j => decide (j ∈ ns)) c), I.laid (t' := tk) k (Nat.le_refl _) (setO_new R), rfl, q _ c hn hle⟩
theorem zl_sortSet (hc : X.calm = true) (hu : X.A.units + 64 < cLine) (hm : X.mg "sorted" = none) (hm2 : X.mg "set" = none) (ha : ZA X [e] t) (hg : Gl X "sorted" := by rfl) (hg2 : Gl X "set" := by rfl) (he : starEach [e] X.env = (false, eval e X.env) :: starEach [] X.env := by rfl)
    (he2 : starEach [.Call (.Name "set" p1) [e] [] p2] X.env = (false, eval (.Call (.Name "set" p1) [e] [] p2) X.env) :: starEach [] X.env := by rfl) : ZL X (.Call (.Name "sorted" p0) [.Call (.Name "set" p1) [e] [] p2] [] pos) (lSortSet t) := fun W tk =>
  pe_weak (pe_callB ((cr_sortedSet hc).or (cr_sortedT hc)) hg hm (by decide +kernel) (pa_cons (pe_callTy ((cr_setI hc).or (cr_setOfT hc hu)) hg2 hm2 (by decide +kernel) (ha W tk) (by decide) (by decide) he (by rfl)) pa_nil he2) (by decide) (by decide) he2 (by rfl)) fun σ H Q ⟨m, B, ρ, S, rs, e, p⟩ => tAr.takeL rs e p fun ds S1 m1 H1 vs g1 r1 e1 rds p1 => by
    match ds, rds, p1 with
    | [], _, p1 => exact p1.elim
    | _ :: _ :: _, _, p1 => exact p1.elim
    | [d], rds, p1 =>
      obtain ⟨v, rfl, rv⟩ := rds.one
      simp only [gSortSet] at p1
      split at p1
      · rename_i ds hd
        obtain ⟨a, us, rfl, sq, r⟩ := lstOf_ok r1 rv hd
        split at p1
        · rename_i hk
          obtain ⟨h64, hk⟩ := hk
          by_cases hi : (intsD ds).isSome = true
          · obtain ⟨ns, hn⟩ := Option.isSome_iff_exists.mp hi
            have ed := intsD_len hn
            rw [intsD_ok r hn] at sq
            have hln : ns.length < 64 := by rw [ed, List.length_map] at h64; exact h64
            refine .inl ⟨a, ns, rfl, sq, hln, fun b c hb hcn => ?_⟩
            refine .inl ⟨b, _, c, rfl, upd_same, by omega, fun ks p hs hmem hlen hp => ?_⟩
            have eq : ks.map D.int = usortK keyT ds := by
              rw [ed]
              refine usortK_uniq (fun z => ?_) (List.pairwise_map.mpr hs) ints_inj
              constructor
              · intro hz
                obtain ⟨i, hi, rfl⟩ := List.mem_map.mp hz
                exact List.mem_map.mpr ⟨i, of_decide_eq_true ((hmem i).mp hi), rfl⟩
              · intro hz
                obtain ⟨i, hi, rfl⟩ := List.mem_map.mp hz
                exact List.mem_map.mpr ⟨i, (hmem i).mpr (decide_eq_true hi), rfl⟩
            rw [← eq] at p1
            obtain ⟨g2, r2⟩ := r1.new (u := SetO X.w b (fun j => decide (j ∈ ns)) c) hb
            exact PostL.put (p1.ge g2) r2 (ints_rd ks) hp
          · obtain ⟨hd1, hd2⟩ := hk.resolve_left hi
            have hall : ∀ x ∈ ds, ∃ ns : List Int, x = .tup (ns.map D.int) ∧ ns.length = lenT ds ∧ TS.Bd 1024 ns := fun x hx => tupsB_at hd2 hx
            have hks : ∃ ks : List (Addr × List Int), us = ks.map (fun p => V.ref p.1) ∧ (∀ p ∈ ks, SqT X.K H1 p.1 (p.2.map V.int)) ∧ ds = ks.map (fun p => D.tup (p.2.map D.int)) ∧ ∀ p ∈ ks, RD X.K m1 B H1 (.tup (p.2.map D.int)) (.ref p.1) := by
              clear p1 hd hd2 hi hd1 hk sq h64
              generalize lenT ds = dd at hall
              induction ds generalizing us with
              | nil => unfold RDs at r; exact ⟨[], r, fun p hp => (by cases hp), rfl, fun p hp => (by cases hp)⟩
              | cons x ds ih =>
                unfold RDs at r
                obtain ⟨v, rr, rfl, h1, h2⟩ := r
                obtain ⟨ns, rfl, _, _⟩ := hall x (List.mem_cons_self ..)
                obtain ⟨ks, q1, q2, q3, q4⟩ := ih rr h2 fun y hy => hall y (List.mem_cons_of_mem _ hy)
                obtain ⟨b, rfl, hb⟩ := h1.tupI
                refine ⟨(b, ns) :: ks, by rw [q1]; rfl, fun p hp => ?_, by rw [q3]; rfl, fun p hp => ?_⟩
                · rcases List.mem_cons.mp hp with rfl | hp
                  · exact hb
                  · exact q2 p hp
                · rcases List.mem_cons.mp hp with rfl | hp
                  · exact h1
                  · exact q4 p hp
            obtain ⟨ks, q1, q2, q3, q4⟩ := hks
            subst q1
            have hbd : ∀ p ∈ ks, p.2.length = lenT ds ∧ TS.Bd 1024 p.2 := fun p hp => by
              obtain ⟨ns, e1, e2, e3⟩ := hall (.tup (p.2.map D.int)) (by rw [q3]; exact List.mem_map.mpr ⟨p, hp, rfl⟩)
              have e4 : p.2 = ns := by
                have := congrArg tupI e1
                simp only [tupI, intsD_map] at this
                exact Option.some.inj this
              rw [e4]
              exact ⟨e2, e3⟩
            refine .inr ⟨a, ks, rfl, sq, q2, by rw [q3, List.length_map] at h64; exact h64, fun b L hb hL1 hL2 => ?_⟩
            obtain ⟨g2, r2⟩ := r1.new (u := SetTO X.prog X.w b L) hb
            refine .inr ⟨b, L, lenT ds, 1024, rfl, upd_same, fun p hp => ?_, hd1, fun p hp => hbd p (hL1 p hp), fun L' p hpm hnd hlen hpw hp => ?_⟩
            · have := (q4 p (hL1 p hp)).mono g2.tr
              obtain ⟨b', e, h'⟩ := this.tupI
              cases e
              exact h'
            · have hsub : ∀ q ∈ L', q ∈ ks := fun q hq => hL1 q (hpm.mem_iff.mp hq)
              have eq : L'.map (fun q => D.tup (q.2.map D.int)) = usortK keyT ds := by
                refine usortK_uniq (fun z => ?_) ?_ (tupsB_inj hd2)
                · rw [q3]
                  constructor
                  · intro hz
                    obtain ⟨q, hq, rfl⟩ := List.mem_map.mp hz
                    exact List.mem_map.mpr ⟨q, hsub q hq, rfl⟩
                  · intro hz
                    obtain ⟨q, hq, rfl⟩ := List.mem_map.mp hz
                    obtain ⟨q', hq', e⟩ := List.mem_map.mp (hL2 q hq)
                    exact List.mem_map.mpr ⟨q', hpm.mem_iff.mpr hq', by rw [e]⟩
                · rw [List.pairwise_map]
                  have hnd' : L'.Pairwise fun q r => q.2 ≠ r.2 := List.pairwise_map.mp hnd
                  refine (hpw.and hnd').imp_of_mem fun {q r} hq hr ⟨h1, h2⟩ => ?_
                  rw [keyT_tup, keyT_tup]
                  have b1 := hbd q (hsub q hq)
                  have b2 := hbd r (hsub r hr)
                  rcases Int.lt_or_eq_of_le h1 with c | c
                  · exact c
                  · exact absurd (code_inj (by omega) b1.2 b2.2 c) h2
              rw [← eq] at p1
              refine PostL.put (p1.ge g2) r2 ?_ hp
              clear eq hpm hnd hlen hpw p1
              induction L' with
              | nil => exact RDs.nil
              | cons q L' ih => exact RDs.cons ((q4 q (hsub q (List.mem_cons_self ..))).mono g2.tr) (ih fun r hr => hsub r (List.mem_cons_of_mem _ hr))
        · exact p1.elim
      · exact p1.elim
end
end Z
namespace Z
open PySem L2

theorem hu0 {k : Nat} {A : Around} (r : Room k A) : A.units < cLine := by
  have := r.un
  omega
theorem hu1 {k : Nat} {A : Around} (r : Room k A) : A.units + 1 < cLine := by
  have := r.un
  omega
/-! ### dicts -/
def dKey : D → Option Key
  | .int i => some (.inl i)
  | .str s => some (.inr s)
  | _ => none
section
variable {κ α : Type} [DecidableEq κ]
def valA (kvs : List (κ × α)) (k : κ) : Option α := (kvs.find? fun kv => decide (kv.1 = k)).map (·.2)
def putA (kvs : List (κ × α)) (k : κ) (d : α) : List (κ × α) := if (kvs.any fun kv => decide (kv.1 = k)) = true then kvs.map (fun kv => if kv.1 = k then (kv.1, d) else kv) else kvs ++ [(k, d)]
variable {K : PySem.W.Frag} {m B : List Addr} {H : Hp}
theorem RFs.val (k : κ) : ∀ {kvs : List (κ × D)} {vs : List (κ × V)}, RFs K m B H kvs vs → (∀ d, valA kvs k = some d → ∃ v, valV vs k = some v ∧ RD K m B H d v) ∧ (valA kvs k = none → valV vs k = none)
  | [], _, h => by
    have h' : _ = _ := h
    subst h'
    exact ⟨fun d e => by simp [valA] at e, fun _ => rfl⟩
  | p :: kvs, _, ⟨x, r, e, h1, h2⟩ => by
    subst e
    have ih := RFs.val k h2
    by_cases hp : p.1 = k
    · refine ⟨fun d e => ⟨x, by simp [valV, hp], ?_⟩, fun e => by simp [valA, hp] at e⟩
      simp [valA, hp] at e
      subst e
      exact h1
    · have e1 : valA (p :: kvs) k = valA kvs k := by simp [valA, hp]
      have e2 : valV ((p.1, x) :: r) k = valV r k := by simp [valV, hp]
      rw [e1, e2]
      exact ih
theorem RFs.keys : ∀ {kvs : List (κ × D)} {vs : List (κ × V)}, RFs K m B H kvs vs → kvs.map (·.1) = vs.map (·.1)
  | [], _, h => by
    have h' : _ = _ := h
    subst h'
    rfl
  | p :: kvs, _, ⟨x, r, e, h1, h2⟩ => by
    subst e
    simp [RFs.keys h2]
theorem RFs.len1 {kvs : List (κ × D)} {vs : List (κ × V)} (h : RFs K m B H kvs vs) : kvs.length = vs.length := by
  have := congrArg List.length h.keys
  simpa using this
theorem any_keys {β : Type} (k : κ) : ∀ (l : List (κ × α)), (l.any fun kv => decide (kv.1 = k)) = (l.map (·.1)).any fun x => decide (x = k)
  | [] => rfl
  | p :: l => by rw [List.any_cons, List.map_cons, List.any_cons, any_keys (β := β) k l]
theorem RFs.app {d : D} {v : V} {k : κ} (hd : RD K m B H d v) : ∀ {kvs : List (κ × D)} {vs : List (κ × V)}, RFs K m B H kvs vs → RFs K m B H (kvs ++ [(k, d)]) (vs ++ [(k, v)])
  | [], _, h => by
    have h' : _ = _ := h
    subst h'
    exact ⟨v, [], rfl, hd, rfl⟩
  | p :: kvs, _, ⟨x, r, e, h1, h2⟩ => by
    subst e
    exact ⟨x, _, rfl, h1, RFs.app hd h2⟩
theorem RFs.over {d : D} {v : V} {k : κ} (hd : RD K m B H d v) : ∀ {kvs : List (κ × D)} {vs : List (κ × V)}, RFs K m B H kvs vs → RFs K m B H (kvs.map fun kv => if kv.1 = k then (kv.1, d) else kv) (vs.map fun kv => if kv.1 = k then (kv.1, v) else kv)
  | [], _, h => by
    have h' : _ = _ := h
    subst h'
    rfl
  | p :: kvs, _, ⟨x, r, e, h1, h2⟩ => by
    subst e
    rw [List.map_cons, List.map_cons]
    by_cases hp : p.1 = k
    · rw [if_pos hp, if_pos (show (p.1, x).1 = k from hp)]
      exact ⟨v, _, rfl, hd, RFs.over hd h2⟩
    · rw [if_neg hp, if_neg (show ¬ (p.1, x).1 = k from hp)]
      exact ⟨x, _, rfl, h1, RFs.over hd h2⟩
theorem RFs.putA {d : D} {v : V} {k : κ} (hd : RD K m B H d v) {kvs : List (κ × D)} {vs : List (κ × V)} (h : RFs K m B H kvs vs) : RFs K m B H (Z.putA kvs k d) (putK vs k v) := by
  unfold Z.putA putK
  rw [any_keys (β := Unit) k kvs, any_keys (β := Unit) k vs, h.keys]
  split
  · exact RFs.over hd h
  · exact RFs.app hd h
end
theorem dKey_ok {K : PySem.W.Frag} {m B : List Addr} {H : Hp} {d : D} {v : V} {k : Key} (rd : RD K m B H d v) (h : dKey d = some k) : v = kV k := by
  cases d <;> try (cases h; done)
  · unfold RD at rd
    cases h
    exact rd
  · unfold RD at rd
    cases h
    exact rd
/-- {} -/
def eDct : DE := fun _ S => .ok (.ref S.length) (S ++ [.dct []])
/-- d[k] -/
def fDGet : D → D → Sto → R D
  | .ref n, y, S => match S[n]?, dKey y with
    | some (.dct kvs), some k => match valA kvs k with
      | some d => .ok d S
      | none => .bad
    | some (.lck _ _ kvs), some k => match valA kvs k with
      | some d => .ok d S
      | none => .bad
    | _, _ => .bad
  | _, _, _ => .bad
/-- k in d -/
def fDIn (neg : Bool) : D → D → Sto → R D
  | y, .ref n, S => match S[n]?, dKey y with
    | some (.dct kvs), some k => .ok (.bl (if neg = true then !(valA kvs k).isSome else (valA kvs k).isSome)) S
    | _, _ => .bad
  | _, _, _ => .bad
/-- d[k] = x -/
def sDPut' (a o i : DE) : DS := fun ρ S => (a ρ S).to ρ fun x S1 => (o ρ S1).to ρ fun d S2 => (i ρ S2).to ρ fun y S3 => match d with
  | .ref n => match S3[n]?, dKey y with
    | some (.dct kvs), some k => if kvs.length < 16777216 then .nx ρ (S3.set n (.dct (putA kvs k x))) else .bad
    | _, _ => .bad
  | _ => .bad
def isDc (S : Sto) (n : Nat) : Bool := match S[n]? with
  | some (.dct _) => true
  | _ => false
def gSetd (n : Nat) (y z : D) (S : Sto) : R D := match S[n]?, dKey y with
  | some (.dct kvs), some k => if kvs.length < 16777216 then match valA kvs k with
    | some d => .ok d S
    | none => .ok z (S.set n (.dct (putA kvs k z)))
    else .bad
  | _, _ => .bad
def eSetd (a b c : DE) : DE := fun ρ S => (a ρ S).bind fun x S1 => match x with
  | .ref n => if isDc S1 n = true then (b ρ S1).bind fun y S2 => (c ρ S2).bind fun z S3 => gSetd n y z S3 else .bad
  | _ => .bad
section
variable {X : Cx} {pos p0 apos : Pos} {a b c o i : Expr} {da db dc dobj di : DE}
theorem ze_dct : ZE X (.Dict [] [] pos) eDct := fun W tk => pe_weak pe_dnewK fun σ H Q ⟨m, B, ρ, S, rs, e, p⟩ => fun q hq => by
  obtain ⟨g, r⟩ := rs.new (u := .dK []) hq
  have r2 := (rs.ban (u := .dK []) hq).own (o := .dct []) (rs.notB hq) ⟨[], upd_same, rfl⟩
  refine p (m ++ [q]) _ (g.own (nw_none hq)) r2 _ ?_
  unfold RD
  exact ⟨q, rfl, by rw [List.getElem?_append_right (by rw [rs.len]; exact Nat.le_refl _), rs.len]; simp⟩
theorem ze_dget (hu : X.A.units + 1 < cLine) (ha : ZE X a da) (hb : ZE X b db) (hs : NoSl b := by exact fun _ _ => rfl) : ZE X (.Subscript a b pos) (e2 fDGet da db) := fun W tk => pe_weak (pe_dget hu (ha W tk) (hb W tk) hs) fun σ H Q ⟨m, B, ρ, S, rs, e, p⟩ =>
  tE.take (f := fun x S1 => (db ρ S1).bind fun y S2 => fDGet x y S2) rs e p fun d S1 m1 H1 v g1 r1 e1 rd p1 => tE.take (f := fun y S2 => fDGet d y S2) r1 e1 p1 fun y S2 m2 H2 u g2 r2 e2 ry p2 => by
    cases d <;> try exact p2.elim
    rename_i n
    have rd2 := rd.mono g2.tr
    unfold RD at rd2
    obtain ⟨q, rfl, hq⟩ := rd2
    simp only [fDGet] at p2
    split at p2
    · rename_i kvs k hn hk
      split at p2
      · rename_i x hx
        obtain ⟨vs, ev, rv⟩ := r2.ob n q _ hq hn
        obtain ⟨w, hw, rw'⟩ := (rv.val k).1 x hx
        refine ⟨q, w, rfl, ?_, p2.now r2 w rw'⟩
        rw [dKey_ok ry hk, ← hw]
        exact DGet.k ev
      · exact p2.elim
    · rename_i od vs kvs k hn hk
      split at p2
      · rename_i x hx
        obtain ⟨ev, rv⟩ := r2.ob n q _ hq hn
        obtain ⟨w, hw, rw'⟩ := (rv.val k).1 x hx
        refine ⟨q, w, rfl, ?_, p2.now r2 w rw'⟩
        rw [dKey_ok ry hk, ← hw]
        exact .inl ⟨vs, k, .inr ⟨_, ev⟩, rfl, rfl⟩
      · exact p2.elim
    · exact p2.elim
theorem pc_dinD {neg : Bool} {op : CmpOp} {t : TE} (hp : ∀ {ty td : TE}, PE X b ty → PE X a td → PC X op b a (fun σ H Q => ty σ H fun y H1 => td σ H1 fun x H2 => ∃ a o, x = .ref a ∧ DGet H2 a y o ∧ Q (.bl (if neg = true then !o.isSome else o.isSome)) H2)) (hb : ZE X b db) (ha : ZE X a da) (hm : behindInMarks op a = false) :
    ZE X (.Compare b [op] [a] pos) (e2 (fDIn neg) db da) := fun W tk => pe_weak (pe_cmp (hp (hb W tk) (ha W tk)) hm) fun σ H Q ⟨m, B, ρ, S, rs, e, p⟩ =>
  tE.take (f := fun x S1 => (da ρ S1).bind fun y S2 => fDIn neg x y S2) rs e p fun y S1 m1 H1 u g1 r1 e1 ry p1 => tE.take (f := fun x S2 => fDIn neg y x S2) r1 e1 p1 fun d S2 m2 H2 v g2 r2 e2 rd p2 => by
    cases d <;> try (cases y <;> exact p2.elim)
    rename_i n
    unfold RD at rd
    obtain ⟨q, rfl, hq⟩ := rd
    simp only [fDIn] at p2
    split at p2
    · rename_i kvs k hn hk
      obtain ⟨vs, ev, rv⟩ := r2.ob n q _ hq hn
      have hv := rv.val k
      refine ⟨q, valV vs k, rfl, by rw [dKey_ok (ry.mono g2.tr) hk]; exact DGet.k ev, ?_⟩
      have es : (valV vs k).isSome = (valA kvs k).isSome := by
        cases h : valA kvs k with
        | none => rw [hv.2 h]; rfl
        | some d => obtain ⟨w, hw, _⟩ := hv.1 d h; rw [hw]; rfl
      rw [es]
      exact p2.now r2 _ (RDb _)
    · exact p2.elim
theorem ze_din (hu : X.A.units + 1 < cLine) (hb : ZE X b db) (ha : ZE X a da) (hm : behindInMarks .In a = false := by rfl) : ZE X (.Compare b [.In] [a] pos) (e2 (fDIn false) db da) := pc_dinD (t := fun _ _ _ => True) (fun h1 h2 => pc_din hu h1 h2) hb ha hm
theorem ze_dnotin (hu : X.A.units + 1 < cLine) (hb : ZE X b db) (ha : ZE X a da) (hm : behindInMarks .NotIn a = false := by rfl) : ZE X (.Compare b [.NotIn] [a] pos) (e2 (fDIn true) db da) := pc_dinD (t := fun _ _ _ => True) (fun h1 h2 => pc_dnotin hu h1 h2) hb ha hm
theorem zs_dput {p1 : Pos} (hu : X.A.units + 1 < cLine) (ha : ZE X a da) (ho : ZE X o dobj) (hi : ZE X i di) (hs : swapsWith a (some (.Subscript o i p1)) pos.line X.env = pure false := by rfl) : ZS X (.Assign [.Subscript o i p1] a pos) (sDPut' da dobj di) := fun W tk =>
  ps_weak (ps_dput hu (ho W tk) (hi W tk) (ha W tk) hs) fun E σ H ⟨m, B, ρ, S, rs, e, p⟩ => tE.takeS rs e p fun x S1 m1 H1 v g1 r1 e1 rx p1 => tE.takeS r1 e1 p1 fun d S2 m2 H2 u g2 r2 e2 rd p2 => tE.takeS r2 e2 p2 fun y S3 m3 H3 w g3 r3 e3 ry p3 => by
    cases d <;> try exact p3.elim
    rename_i n
    have rd2 := rd.mono g3.tr
    unfold RD at rd2
    obtain ⟨q, rfl, hq⟩ := rd2
    simp only at p3
    split at p3
    · rename_i kvs k hn hk
      split at p3
      · rename_i hl
        obtain ⟨vs, ev, rv⟩ := r3.ob n q _ hq hn
        obtain ⟨g4, r4⟩ := r3.put (u := .dK (putK vs k v)) (o := .dct (putA kvs k x)) hq fun H' g h' => ⟨_, h', RFs.putA ((rx.mono (g2.trans g3).tr).mono g.tr) (RFs.mono g.tr _ _ rv)⟩
        refine ⟨q, _, rfl, by rw [dKey_ok ry hk]; exact DPut.k ev (by rw [← rv.len1, sizeLine_eq]; exact hl), ?_⟩
        exact p3 m3 _ σ g4 r4 (e3.mono g4.tr)
      · exact p3.elim
    · exact p3.elim
theorem ze_setd (ho : ZE X o dobj) (hb : ZE X b db) (hc : ZE X c dc) (hba : attributeBase o "setdefault" X.env (eval o X.env) = eval o X.env := by rfl)
    (hfew : ((backTo pos (starEach [b, c] X.env)).all (fun x => !x.1) && (backToKw pos (keywordEach [] X.env)).all (fun x => x.1.isSome) && decide (([b, c] : List Expr).length + ([] : List Keyword).length + (if ([] : List Keyword).isEmpty then 0 else 1) < 30)) = true := by rfl)
    (hl : (apos.endLine == pos.line) = true := by rfl) (ht : backTo pos (starEach [b, c] X.env) = [(false, eval b X.env), (false, eval c X.env)] := by rfl) : ZE X (.Call (.Attribute o "setdefault" apos) [b, c] [] pos) (eSetd dobj db dc) := fun W tk =>
  pe_weak (pe_dsetd (ho W tk) (hb W tk) (hc W tk) ⟨hba, hfew, hl, ht⟩) fun σ H Q ⟨m, B, ρ, S, rs, e, p⟩ => tE.takeA rs e p fun d S1 m1 H1 v g1 r1 e1 rd p1 => by
    cases d <;> try exact p1.elim
    rename_i n
    have rd' := rd
    unfold RD at rd'
    obtain ⟨q, rfl, hq⟩ := rd'
    simp only at p1
    split at p1
    · rename_i hd
      unfold isDc at hd
      split at hd
      · rename_i kvs0 hn0
        obtain ⟨vs0, ev0, _⟩ := r1.ob n q _ hq hn0
        refine ⟨q, rfl, .inl ⟨vs0, .inl ev0⟩, tE.takeA r1 e1 p1 fun y S2 m2 H2 u g2 r2 e2 ry p2 => tE.takeA r2 e2 p2 fun z S3 m3 H3 w g3 r3 e3 rz p3 => ?_⟩
        have rd3 := rd.mono (g2.trans g3).tr
        unfold RD at rd3
        obtain ⟨q', eq', hq3⟩ := rd3
        cases eq'
        simp only [gSetd] at p3
        split at p3
        · rename_i kvs k hn hk
          split at p3
          · rename_i hlen
            obtain ⟨vs, ev, rv⟩ := r3.ob n q _ hq3 hn
            have hv := rv.val k
            refine ⟨vs, k, ev, dKey_ok (ry.mono g3.tr) hk, by rw [← rv.len1, sizeLine_eq]; exact hlen, fun x hx => ?_, fun hx => ?_⟩
            · cases h : valA kvs k with
              | none => rw [hv.2 h] at hx; cases hx
              | some d =>
                rw [h] at p3
                obtain ⟨x', hx', rx'⟩ := hv.1 d h
                rw [hx] at hx'
                cases hx'
                exact p3.now r3 x rx'
            · cases h : valA kvs k with
              | some d => obtain ⟨x', hx', _⟩ := hv.1 d h; rw [hx] at hx'; cases hx'
              | none =>
                rw [h] at p3
                obtain ⟨g4, r4⟩ := r3.put (u := .dK (putK vs k w)) (o := .dct (putA kvs k z)) hq3 fun H' g h' => ⟨_, h', RFs.putA (rz.mono g.tr) (RFs.mono g.tr _ _ rv)⟩
                exact p3 m3 _ g4 r4 w (rz.mono g4.tr)
          · exact p3.elim
        · exact p3.elim
      · cases hd
    · exact p1.elim
end
end Z
namespace Z
open PySem L2
/-! ### a loop as a fold -/
theorem forI_fold {α β : Type} {tg : Tg} {chk : Sto → Prop} {b : DS} (emb : α → D) (P : β → Env → Sto → Prop) (g : β → α → β) : ∀ (as : List α) (b0 : β) (ρ : Env) (S : Sto), P b0 ρ S →
    (∀ a ∈ as, ∀ x ρ S, P x ρ S → ∃ ρ1, Tg.asg S tg (emb a) ρ = some ρ1 ∧ ∃ ρ' S', (b ρ1 S = .nx ρ' S' ∨ b ρ1 S = .ct ρ' S') ∧ chk S' ∧ P (g x a) ρ' S') → ∃ ρ' S', forI tg b chk (as.map emb) ρ S = .nx ρ' S' ∧ P (as.foldl g b0) ρ' S'
  | [], b0, ρ, S, h, _ => ⟨ρ, S, rfl, h⟩
  | a :: as, b0, ρ, S, h, step => by
    obtain ⟨ρ1, h1, ρ', S', h2, h3, h4⟩ := step a (List.mem_cons_self ..) b0 ρ S h
    obtain ⟨ρ2, S2, h5, h6⟩ := forI_fold emb P g as (g b0 a) ρ' S' h4 fun y hy => step y (List.mem_cons_of_mem _ hy)
    refine ⟨ρ2, S2, ?_, h6⟩
    rw [List.map_cons]
    rcases h2 with h2 | h2 <;> simp [forI, h1, h2, h3, h5]
theorem iRow_map0 (n : Nat) : iRow 0 n = (List.range n).map fun i : Nat => D.int (i : Nat) := by simp [iRow]
theorem iseq_lv {r : DA} {ρ : Env} {S S' : Sto} {ds : List D} (h : r ρ S = .ok ds S') : iSeq (eLV r) ρ S = .ok (ds, fun _ => True) S' := by simp [iSeq, eLV, h]
theorem forI_idx {tg : Tg} {chk : Sto → Prop} {b : DS} (P : Nat → Env → Sto → Prop) (ds : List D) (ρ : Env) (S : Sto) (h0 : P 0 ρ S)
    (step : ∀ i d, ds[i]? = some d → ∀ ρ S, P i ρ S → ∃ ρ1, Tg.asg S tg d ρ = some ρ1 ∧ ∃ ρ' S', (b ρ1 S = .nx ρ' S' ∨ b ρ1 S = .ct ρ' S') ∧ chk S' ∧ P (i + 1) ρ' S') : ∃ ρ' S', forI tg b chk ds ρ S = .nx ρ' S' ∧ P ds.length ρ' S' := by
  have main : ∀ (r : List D) (j : Nat) (ρ : Env) (S : Sto), ds.drop j = r → j ≤ ds.length → P j ρ S → ∃ ρ' S', forI tg b chk r ρ S = .nx ρ' S' ∧ P ds.length ρ' S' := by
    intro r
    induction r with
    | nil =>
      intro j ρ S hj hl h
      have : ds.length ≤ j := List.drop_eq_nil_iff.mp hj
      have e : j = ds.length := by omega
      subst e
      exact ⟨ρ, S, rfl, h⟩
    | cons d r ih =>
      intro j ρ S hj hl h
      have hd : ds[j]? = some d := by
        have := congrArg (fun l => l[0]?) hj
        simpa using this
      have hl2 : j < ds.length := (List.getElem?_eq_some_iff.mp hd).1
      have hr : ds.drop (j + 1) = r := by
        have := congrArg List.tail hj
        simpa using this
      obtain ⟨ρ1, e1, ρ', S', e2, e3, e4⟩ := step j d hd ρ S h
      obtain ⟨ρ2, S2, e5, e6⟩ := ih (j + 1) ρ' S' hr (by omega) e4
      refine ⟨ρ2, S2, ?_, e6⟩
      rcases e2 with e2 | e2 <;> simp [forI, e1, e2, e3, e5]
  exact main ds 0 ρ S (by simp) (by omega) h0
theorem drop_app {j q : Nat} {e : DE} {ρ : Env} {S S1 : Sto} {x : D} {ds ds0 : List D} (hj : eV j ρ S = .ok (.ref q) S) (hl : S[q]? = some (.lst ds0)) (he : e ρ S = .ok x S1) (hq : S1[q]? = some (.lst ds)) (hn : ds.length < 16777216) : sDrop (eBM fApp (eV j) (aC e aN)) ρ S = .nx ρ (S1.set q (.lst (ds ++ [x]))) := by
  simp [sDrop, eBM, hj, isL, hl, aC, aN, he, fApp, hq, hn]
theorem drop_ext {j q : Nat} {r : DA} {ρ : Env} {S S1 : Sto} {es ds ds0 : List D} (hj : eV j ρ S = .ok (.ref q) S) (hl : S[q]? = some (.lst ds0)) (he : r ρ S = .ok es S1) (hq : S1[q]? = some (.lst ds)) (hn : ds.length + es.length ≤ 16777216) : sDrop (eBM fExt (eV j) (aC (eLV r) aN)) ρ S = .nx ρ (S1.set q (.lst (ds ++ es))) := by
  simp [sDrop, eBM, hj, isL, hl, aC, aN, eLV, he, fExt, lstH, hq, hn]
/-- a comprehension whose turns change the store -/
theorem lcI_state {tg : Tg} {chk : Sto → Prop} {e : DE} {ρ0 : Env} (P : Sto → Prop) (Q : D → D → Prop) (hc : ∀ S, P S → chk S) : ∀ (ds : List D) (S : Sto), P S → (∀ d ∈ ds, ∀ S, P S → ∃ ρ1, Tg.asg S tg d ρ0 = some ρ1 ∧ ∃ y S', e ρ1 S = .ok y S' ∧ P S' ∧ Q d y) →
    ∃ ys S', lcI tg chk tYes e ρ0 ds S = .ok ys S' ∧ P S' ∧ ys.length = ds.length ∧ ∀ (i : Nat) d y, ds[i]? = some d → ys[i]? = some y → Q d y
  | [], S, h, _ => ⟨[], S, rfl, h, rfl, fun i d y h => by simp at h⟩
  | d :: ds, S, h, step => by
    obtain ⟨ρ1, e1, y, S', e2, e3, e4⟩ := step d (List.mem_cons_self ..) S h
    obtain ⟨ys, S2, h1, h2, h3, h4⟩ := lcI_state P Q hc ds S' e3 fun x hx => step x (List.mem_cons_of_mem _ hx)
    refine ⟨y :: ys, S2, ?_, h2, by simp [h3], ?_⟩
    · have := hc S' e3
      simp [lcI, e1, tYes, e2, R.safe, this, h1]
    · intro i a b ha hb
      cases i with
      | zero =>
        simp at ha hb
        subst ha hb
        exact e4
      | succ i => exact h4 i a b (by simpa using ha) (by simpa using hb)
theorem cutA_hi {α : Type} (xs : List α) (v : Nat) : cutA xs none (some (v : Int)) = xs.take v := by
  unfold cutA
  rw [HT.sIx_nat]
  show (xs.drop 0).take (min v xs.length - 0) = _
  rw [List.drop_zero, Nat.sub_zero]
  by_cases h : v ≤ xs.length
  · rw [Nat.min_eq_left h]
  · rw [Nat.min_eq_right (by omega), List.take_length, List.take_of_length_le (by omega)]
theorem cutA_lo {α : Type} (xs : List α) (v : Nat) : cutA xs (some (v : Int)) none = xs.drop v := by
  unfold cutA
  rw [HT.sIx_nat]
  show (xs.drop (min v xs.length)).take (xs.length - min v xs.length) = _
  by_cases h : v ≤ xs.length
  · rw [Nat.min_eq_left h, List.take_of_length_le (by simp)]
  · rw [Nat.min_eq_right (by omega), List.drop_length, List.drop_of_length_le (by omega)]
    simp
/-- one place of a row changed -/
def upd (xs : List D) (i : Nat) (y : D) : List D := xs.take i ++ y :: xs.drop (i + 1)
theorem upd_len {xs : List D} {i : Nat} (y : D) (h : i < xs.length) : (upd xs i y).length = xs.length := by
  simp [upd]
  omega
theorem upd_at {xs : List D} {i : Nat} (y : D) (h : i < xs.length) : (upd xs i y)[i]? = some y := by
  unfold upd
  rw [List.getElem?_append_right (by simp; omega)]
  simp [Nat.min_eq_left (Nat.le_of_lt h)]
theorem upd_lt {xs : List D} {i j : Nat} (y : D) (h : i < xs.length) (hj : j < i) : (upd xs i y)[j]? = xs[j]? := by
  unfold upd
  rw [List.getElem?_append_left (by simp; omega), List.getElem?_take, if_pos hj]
theorem e_upd {a y : DE} {p i : Nat} {xs : List D} {ρ : Env} {S S1 : Sto} {d : D} (ha : a ρ S = .ok (.tup xs) S) (ha1 : a ρ S1 = .ok (.tup xs) S1) (hp : ∀ S, eV p ρ S = .ok (.int (i : Nat)) S) (hy : y ρ S = .ok d S1) (hi : i < xs.length) (hl : xs.length ≤ 1000) :
    (Z.e2 fPlus (Z.e2 fPlus (eSl a oN (oS (eV p))) (eTup (aC y aN))) (eSl a (oS (Z.e2 fPlus (eV p) (eC (.int 1)))) oN)) ρ S = .ok (.tup (upd xs i d)) S1 := by
  have e1 : ((i : Nat) : Int) + 1 = ((i + 1 : Nat) : Int) := by omega
  have l1 : (xs.take i).length + 1 ≤ 16777216 := by simp; omega
  have l2 : (xs.take i ++ [d]).length + (xs.drop (i + 1)).length ≤ 16777216 := by simp; omega
  have s1 : eSl a oN (oS (eV p)) ρ S = .ok (.tup (xs.take i)) S := by
    simp only [eSl, ha, R.bind_ok, oN, oS, hp, fSl, cutA_hi]
  have s2 : eSl a (oS (Z.e2 fPlus (eV p) (eC (.int 1)))) oN ρ S1 = .ok (.tup (xs.drop (i + 1))) S1 := by
    simp only [eSl, ha1, R.bind_ok, oN, oS, Z.e2, hp, eC, fPlus, fSl, e1, cutA_lo]
  have s3 : eTup (aC y aN) ρ S = .ok (.tup [d]) S1 := by simp [eTup, aC, aN, hy]
  have s4 : fPlus (.tup (xs.take i)) (.tup [d]) S1 = .ok (.tup (xs.take i ++ [d])) S1 := by
    simp only [fPlus]
    rw [if_pos (by simpa using l1)]
  have s5 : fPlus (.tup (xs.take i ++ [d])) (.tup (xs.drop (i + 1))) S1 = .ok (.tup (upd xs i d)) S1 := by
    simp only [fPlus]
    rw [if_pos l2]
    simp [upd]
  rw [e2_ok (e2_ok s1 s3 |>.trans s4) s2]
  exact s5
end Z
namespace Z
open PySem PySem.Spec PyProof.Rows L2 LamX
/-! ### a lambda handed to a def that calls it and catches -/
/-- what the first thing of the store tells of a table -/
def isTab : Sto → Option (Addr × Str)
  | .tab P q :: _ => some (P, q)
  | _ => none
theorem isTab_at {S : Sto} {P : Addr} {q : Str} (h : isTab S = some (P, q)) : S[0]? = some (.tab P q) := by
  cases S with
  | nil => cases h
  | cons o S => cases o <;> simp [isTab] at h ⊢; exact h
def eRef (P : Addr) (q : Str) (mt : Addr → Option Bool) (cs : List Addr) (wd : Str) (de : DE) : DE := fun ρ S => if isTab S = some (P, q) then match de ρ S with
  | .ok _ S' => .ok .non S'
  | .exc C d S' => if mt C = some true ∧ C ∈ cs then .ok (.tup [.str wd, d]) S' else .bad
  | .bad => .bad else .bad
section
variable {K : PySem.W.Frag} {m B : List Addr} {H H1 : Hp} {S : Sto}
theorem RO.nt {a : Addr} {o : O} (h : RO K m B H a o) (ho : ∀ P q, o ≠ .tab P q) : ∃ u, H a = some u ∧ NX u := by
  cases o with
  | lst ds => obtain ⟨vs, e, _⟩ := h; exact ⟨_, e, fun ps e => (by cases e), fun c q e => (by unfold LamX.CodeO at e; cases e)⟩
  | ins C fs => obtain ⟨dx, vs, e, _⟩ := h; exact ⟨_, e, fun ps e => (by cases e), fun c q e => (by unfold LamX.CodeO at e; cases e)⟩
  | dct kvs => obtain ⟨vs, e, _⟩ := h; exact ⟨_, e, fun ps e => (by cases e), fun c q e => (by unfold LamX.CodeO at e; cases e)⟩
  | dcT kvs => obtain ⟨vs, e, _⟩ := h; exact ⟨_, e, fun ps e => (by cases e), fun c q e => (by unfold LamX.CodeO at e; cases e)⟩
  | iset p n => exact ⟨_, h, fun ps e => (by cases e), fun c q e => (by unfold LamX.CodeO at e; cases e)⟩
  | lck od vs kvs => obtain ⟨e, _⟩ := h; exact ⟨_, e, fun ps e => (by cases e), fun c q e => (by unfold LamX.CodeO at e; cases e)⟩
  | tab P q => exact absurd rfl (ho P q)
theorem RS.tabs {P : Addr} {q : Str} (r : RS K m B H S) (hS : isTab S = some (P, q)) : TabS H P q := by
  obtain ⟨a, ha, e0, ps, e, ok, k⟩ := r.at (isTab_at hS)
  refine ⟨ps, e, ok, fun pos cv hc => ?_⟩
  obtain ⟨c, e1, _, _, e4⟩ := k pos cv hc
  exact ⟨c, e1, e4⟩
theorem RS.lam {P : Addr} {q : Str} (r : RS K m B H S) (hS : isTab S = some (P, q)) (x : ExtN H H1) (T : TabS H1 P q) : Ge m H m H1 ∧ RS K m B H1 S := by
  have g : Ge m H m H1 := ⟨⟨[], by simp⟩, fun b o hb e nt => ⟨hb, x b o e nt⟩⟩
  refine ⟨g, r.len, r.nd, r.dis, fun b hb => ?_, fun n a o h1 h2 => ?_, r.tb⟩
  · obtain ⟨u, e, nx⟩ := r.bn b hb
    exact ⟨u, x b u e nx.1, nx⟩
  · have q0 := r.ob n a o h1 h2
    by_cases ho : ∀ P q, o ≠ .tab P q
    · obtain ⟨u, e, nx⟩ := q0.nt ho
      exact q0.mono g.tr (by rw [e]; exact x a u e nx.1)
    · have ho : ∃ P q, o = .tab P q := Classical.byContradiction fun z => ho fun P q e => z ⟨P, q, e⟩
      obtain ⟨P', q', rfl⟩ := ho
      have n0 := r.tb n P' q' h2
      subst n0
      rw [isTab_at hS] at h2
      cases h2
      obtain ⟨e0, _⟩ := q0
      obtain ⟨ps, t1, t2, t3⟩ := T
      refine ⟨e0, ps, t1, t2, fun pos cv hc => ?_⟩
      obtain ⟨c, e1, e2⟩ := t3 pos cv hc
      refine ⟨c, e1, fun z => ?_, fun z => ?_, e2⟩
      · obtain ⟨i, hi⟩ := List.mem_iff_getElem?.mp z
        have hl : i < S.length := by rw [← r.len]; exact (List.getElem?_eq_some_iff.mp hi).1
        have qi := r.ob i c S[i] hi (by simp [hl])
        by_cases hi0 : ∀ P q, S[i] ≠ .tab P q
        · obtain ⟨u, e, nx⟩ := qi.nt hi0
          have := x c u e nx.1
          rw [e2] at this
          exact nx.2 _ _ (Option.some.inj this).symm
        · have hi0 : ∃ P q, S[i] = .tab P q := Classical.byContradiction fun z => hi0 fun P q e => z ⟨P, q, e⟩
          obtain ⟨P2, q2, e3⟩ := hi0
          have i0 := r.tb i P2 q2 (by simp [hl, e3])
          subst i0
          rw [h1] at hi
          cases hi
          rw [e0, t1] at e2
          exact codeO_ne ps (Option.some.inj e2).symm
      · obtain ⟨u, e, nx⟩ := r.bn c z
        have := x c u e nx.1
        rw [e2] at this
        exact nx.2 _ _ (Option.some.inj this).symm
end
theorem takes_len {X : Cx} {W : WX} (tk : Takes X W) : Takes X fun c d σ H => σ.length = X.N.length → W c d σ H := fun u s' ⟨a, B, sI, pins, σ, H, cls, d, e, I, nb, up, sky, na, os, ag, w⟩ =>
  tk u s' ⟨a, B, sI, pins, σ, H, cls, d, e, I, nb, up, sky, na, os, ag, w I.len⟩
/-- what the def makes of the lambda's reading -/
def TTr (K : PySem.W.Frag) (mt : Addr → Option Bool) (cs : List Addr) (wd : Str) : (XK → Hp → VK → Prop) → Hp → VK → Prop := fun tl H Q =>
  tl (fun cls dd H' => ∃ m B S C x va de, RS K m B H' S ∧ cls = .ref C ∧ dd = some x ∧ H' x = some (.xd [("at", va)]) ∧ RD K m B H' de va ∧ mt C = some true ∧ C ∈ cs ∧
    Post K m B H' (fun _ _ _ => False) (fun d _ m' H'' => ∀ v, RD K m' B H'' d v → Q v H'') (.ok (.tup [.str wd, de]) S)) H fun _ H' => Q .non H'
theorem res2 {K : PySem.W.Frag} {m B : List Addr} {H : Hp} : ∀ {σ : L2.St}, σ.length = 2 → REs K m B H [none, none] σ
  | [x, y], _ => ⟨x, [y], rfl, fun d e => (nomatch e), y, [], rfl, fun d e => (nomatch e), rfl⟩
section
variable {X : Cx} {x a n y q wd : Str} {sg : Scope} {g CS : Addr} {cdg : Value} {mt : Addr → Option Bool} {cs : List Addr} {j2 : Nat} {re : Expr} {p1 p2 p3 p4 p9 p10 p11 p12 p13 : Pos}
theorem ref_gives (hn : [a, n].Nodup) (hgy : sg.names.lookup y = some .globalImplicit) (hdy : (y == ("__debug__" : Str)) = false) (hm : X.mg y = some (.ref CS)) (hmt : ∀ C b, mt C = some b → PySem.W.exmOne X.K (.ref C) (.ref CS) = some b) (hln : sg.names.lookup n = some .local)
    (hs : ∀ (cdg : Value) (A : Around) (outer : List PySem.Env) (s : Shared) (H : Hp), ZX (cxOf C8.CX0 X.prog X.w X.K X.mg X.base [a, n] x sg g cdg A outer s H C8.E0).nox 1 re fun C d => eTup (aC (eC (.str wd)) (aC (xAt cs C d) aN))) :
    GivesTo X [a, n] x sg g cdg [.Try [.Expr (.Call (.Name a p1) [] [] p2) p3] [.ExceptHandler (some (.Name y p4)) (some n) [.Return (some re) p9] p10] [] [] p11, .Return (some (.Constant .none j2 p12)) p13] a q (TTr X.K mt cs wd) := by
  intro f c' s H Q tl act hc h
  let Y := (cxOf C8.CX0 X.prog X.w X.K X.mg X.base [a, n] x sg g cdg X.A X.stack s H C8.E0).nox
  have hgl : Gl Y y := hgy
  refine ⟨_, pss_cons (ps_try_as (X := Y) (c := .ref CS) (i := 1) (tb := fun W D σ H => ∃ Ech : XK, (∀ cls d σ' H', Ech cls d H' → σ'.length = 2 → W cls d σ' H') ∧ σ[0]? = some (some (.ref f)) ∧ H c' = some (CodeO c' q) ∧ tl Ech H (fun _ H' => D.nx σ H'))
      (ts := tSu Y.K 1 fun C d => eTup (aC (eC (.str wd)) (aC (xAt cs C d) aN))) (Wout := fun _ _ _ _ => False) rfl rfl hn rfl hln ⟨hgl, hdy,   .inl hm⟩ L2.takes0 (fun W pn xe tk _ => ?_) fun aE oe cls d pn hz hf => pss_one (ps_weak (ps_ret (hs cdg X.A X.stack s H aE oe cls d pn hz hf)) fun E σ H h => h)) (pss_one (ps_ret pe_non)), ?_⟩
  · refine ⟨fun pins s' σ H' D I h' => ?_⟩
    obtain ⟨Ech, hW, h1, h2, h3⟩ := h'
    have hp := act (fun c d σ H => σ.length = 2 → W c d σ H) pn xe Ech p1 p2 (takes_len tk) hW
    have hq := pss_one (ps_expr (pos := p3) hp)
    exact hq.run pins s' σ H' D I ⟨h1, h2, h3⟩
  · refine ⟨_, fun cls d σ' H' hE hl => ?_, rfl, hc, h⟩
    obtain ⟨m, B, S, C, xx, va, de, rs, rfl, rfl, hx, rd, hmC, hC, p⟩ := hE
    refine ⟨true, hmt C true hmC, fun _ aE ha => ?_, fun e => (by cases e)⟩
    have e1 : eTup (aC (eC (.str wd)) (aC (xAt cs C de) aN)) [none, none] S = .ok (.tup [.str wd, de]) S := by simp [eTup, aC, aN, eC, xAt, hC]
    exact ⟨m, B, [none, none], S, C, xx, va, de, rs, res2 (by simpa using hl), by simp [hl], rfl, rfl, hx, rd, by
      show Post _ _ _ _ _ _ (eTup (aC (eC (.str wd)) (aC (xAt cs C de) aN)) [none, none] S)
      rw [e1]
      exact p⟩
/-- f(lambda: body), f a def that calls it and catches -/
theorem ze_ref {k : Nat} {P c : Addr} {pg : Arguments} {fd : FuncData} {params : Arguments} {body : Expr} {scope : Scope} {de : DE} {p lpos pos : Pos} (fdd : FunD X.K x x pg [.Try [.Expr (.Call (.Name a p1) [] [] p2) p3] [.ExceptHandler (some (.Name y p4)) (some n) [.Return (some re) p9] p10] [] [] p11, .Return (some (.Constant .none j2 p12)) p13] sg [] [] g fd)
    (hb : ∀ (kV doc pm : Value) (an : Option Addr) (cdv ct : Value) (us : List Value), us.length = [a].length → bindArgs (PySem.W.fnOf x x pg [.Try [.Expr (.Call (.Name a p1) [] [] p2) p3] [.ExceptHandler (some (.Name y p4)) (some n) [.Return (some re) p9] p10] [] [] p11, .Return (some (.Constant .none j2 p12)) p13] sg .none kV doc pm an cdv ct) ⟨us, []⟩ = pure ([a].zip us))
    (hg : Gl X x) (hmg : X.mg x = some (.ref g)) (Sg : FnScope [a, n] [a] sg) (hva : Vis sg a) (hgy : sg.names.lookup y = some .globalImplicit) (hdy : (y == ("__debug__" : Str)) = false) (hm : X.mg y = some (.ref CS)) (hmt : ∀ C b, mt C = some b → PySem.W.exmOne X.K (.ref C) (.ref CS) = some b) (hln : sg.names.lookup n = some .local)
    (hs : ∀ (cdg : Value) (A : Around) (outer : List PySem.Env) (s : Shared) (H : Hp), ZX (cxOf C8.CX0 X.prog X.w X.K X.mg X.base [a, n] x sg g cdg A outer s H C8.E0).nox 1 re fun C d => eTup (aC (eC (.str wd)) (aC (xAt cs C d) aN)))
    (TB : TabB X.base X.mg c P) (hcode : X.env.code = .ref c) (hq : X.env.qual ++ "<lambda>" = q) (hr : Room (k + 2) X.A) (L : LamS X.env.scope scope) (hdef : defaultsOf params X.env = ([], []))
    (hbind : ∀ (q : Str) (cl : List (Str × Addr)) (pm cv ctv : Value), bindArgs (PySem.W.kla_fn "<lambda>" q params body scope cl pm cv ctv) ⟨[], []⟩ = pure [])
    (hbody : ∀ (A : Around) (outer : List PySem.Env) (s : Shared) (H : Hp) (E : XK) (f c' : Addr), Room k (A.deeper (lamEnv X scope s.heap.objs.size f c')) → ZE (lamCx X A outer s H E scope f c') body de)
    (hdb : (x == ("__debug__" : Str)) = false := by decide) (hd : (a == ("__debug__" : Str)) = false := by decide) (hcd : (a == ("__classdict__" : Str)) = false := by decide) :
    ZE X (.Call (.Name x p) [.Lambda params body scope lpos] [] pos) (eRef P q mt cs wd de) := fun W tk => by
  have hBd := fdd.bindsN hb
  obtain ⟨oc, od, dV, kV, doc, pm, an, cdv, ct, osl, rfl, lk, hcg, _, _⟩ := fdd.ex
  refine pe_weak (pe_lamcall (T := [(P, X.env.qual ++ "<lambda>")]) (TT := TTr X.K mt cs wd) (t := fun E => tE (fun c x _ H => E c x H) X.K de) hg hmg fdd.kp lk hcg hBd Sg rfl hva (ref_gives Sg.nd hgy hdy hm hmt hln hs) TB hcode (List.mem_cons_self ..) (fun p hp _ => by
    rw [List.mem_singleton.mp hp]) hr L hdef hbind (fun A outer s H E f c' hr' => hbody A outer s H E f c' hr' _ (takes_of rfl rfl rfl rfl)) hdb hd hcd) fun σ H Q ⟨m, B, ρ, S, rs, e, p⟩ => ?_
  unfold eRef at p
  split at p
  case isFalse => exact p.elim
  rename_i hS
  refine ⟨fun z hz => ?_, fun H1 x1 T1 => ?_⟩
  · rw [List.mem_singleton.mp hz]
    show TabS H P (X.env.qual ++ "<lambda>")
    rw [hq]
    exact rs.tabs hS
  · have t1 : TabS H1 P (X.env.qual ++ "<lambda>") := T1 _ (List.mem_cons_self ..)
    rw [hq] at t1
    obtain ⟨g1, r1⟩ := rs.lam hS x1 t1
    refine ⟨m, B, ρ, S, r1, e.mono g1.tr, ?_⟩
    cases hd : de ρ S with
    | ok d S' =>
      rw [hd] at p
      exact fun m' H' g' r' v _ => p m' H' (g1.trans g') r' .non RDn
    | exc C d S' =>
      rw [hd] at p
      simp only at p
      split at p
      case isFalse => exact p.elim
      rename_i hc
      exact fun m' H' xx v g' r' hx rv => ⟨m', B, S', C, xx, v, d, r', rfl, rfl, hx, rv, hc.1, hc.2, fun m'' H'' g'' r'' u ru => p m'' H'' ((g1.trans g').trans g'') r'' u ru⟩
    | bad => rw [hd] at p; exact p
end
end Z
namespace Z
open PySem PySem.Spec PyProof.Rows L2 LamX
/-! ### the end of a law that makes lambdas: its table stands first in the store -/
theorem sp_scrT (K : PySem.W.Frag) {F : List D → Sto → R D} (P : Addr) (q : Str) (H : Hp) (a : Addr) (ns : List Int) (hP : H P = some (.tbl #[])) (hS : SqL K H a (ns.map V.int)) (hl : ∃ S, F [.scr (scrD ns)] [.tab P q] = .ok (.bl true) S) : spI K 1 F [.ref a] H (fun v _ => v = .bl true) fun _ _ _ => False := by
  obtain ⟨S, hl⟩ := hl
  refine ⟨[P], [], [.scr (scrD ns)], [.tab P q], ⟨rfl, by simp, fun a h => by simp, fun b h => absurd h (by simp), fun n a o h1 h2 => ?_, fun n P' q' h => ?_⟩, ?_, rfl, ?_⟩
  · cases n with
    | succ n => simp at h1
    | zero =>
      cases h1
      cases h2
      refine ⟨rfl, #[], hP, True.intro, fun pos cv hc => ?_⟩
      have z : codeAmong pos [] = some cv := hc
      simp [codeAmong] at z
  · cases n with
    | succ n => simp at h
    | zero => rfl
  · refine RDs.cons ?_ RDs.nil
    unfold RD
    refine ⟨a, ns.map V.int, rfl, ?_, ?_⟩
    · rcases hS with h | h
      · refine .inl ⟨fun z => ?_, by simp, h⟩
        have e : a = P := by simpa using z
        rw [e] at h
        rcases h with h | ⟨o, h⟩
        · rw [hP] at h
          cases h
        · rw [hP] at h
          cases h
      · exact .inr h
    · clear hl hS
      induction ns with
      | nil => exact RDs.nil
      | cons n ns ih => exact RDs.cons (RDi n) ih
  · rw [hl]
    intro m' H' g r v rv
    unfold RD at rv
    exact rv
/-- the code object of the def at fa, and its table -/
def codT (K : PySem.W.Frag) (fa : Addr) : Option (Addr × Addr) := match K.lookup fa with
  | some ⟨_, _, .func fd, _⟩ => match fd.code with
    | .ref c => match K.lookup c with
      | some ⟨.type T, _, .fields vs, _⟩ => match (vs[11]? : Option Value), (vs.getD 18 .none : Value), (vs.getD 7 .none : Value), (vs.getD 9 .none : Value), (vs.getD 10 .none : Value) with
        | some (Value.ref P), Value.str _ _, Value.int _ _, Value.bool _, Value.int _ _ => if T = "code" ∧ c ≠ P ∧ (K.lookup P).isNone = true then some (c, P) else none
        | _, _, _, _, _ => none
      | _ => none
    | _ => none
  | _ => none
theorem codT_ok {K : PySem.W.Frag} {fa c P : Addr} {h : Heap} (e : codT K fa = some (c, P)) (KX : K.In h) (ot : OwnTab K fa h) : h.get? P = some { cls := .none, data := .fields #[] } ∧ K.lookup P = none ∧ PySem.W.CodeHd h c P := by
  unfold codT at e
  split at e
  case h_2 => cases e
  rename_i e0 d0 fd s0 h0
  split at e
  case h_2 => cases e
  rename_i c1 h1
  split at e
  case h_2 => cases e
  rename_i T dd vs sl h2
  split at e
  case h_2 => cases e
  rename_i P1 z1 t1 z2 t2 z3 z4 t4 h3 h4 h5 h6 h7
  split at e
  case isFalse => cases e
  rename_i hc
  cases e
  obtain ⟨hT, hne, hn⟩ := hc
  subst hT
  refine ⟨ot c P _ fd _ dd vs sl h0 rfl h1 h2 h3, Option.isNone_iff_eq_none.mp hn, _, vs, _, _, _, _, _, _, _, KX _ _ h2, rfl, rfl, h3, ?_, h4, h5, h6, h7, hne⟩
  simp [Array.getD_eq_getD_getElem?, h3]
theorem codT_code {K : PySem.W.Frag} {x qual : Str} {params : Arguments} {body : List Stmt} {scope : Scope} {dvs : List V} {kws : List (Str × V)} {fa c P : Addr} {fd : FuncData} (e : codT K fa = some (c, P)) (F : FunD K x qual params body scope dvs kws fa fd) : fd.code = .ref c := by
  obtain ⟨oc, od, dV, kV, doc, pm, an, cdv, ct, osl, _, lk, _⟩ := F.ex
  unfold codT at e
  rw [lk] at e
  simp only at e
  split at e
  case h_2 => cases e
  rename_i c1 h1
  rw [h1]
  split at e
  case h_2 => cases e
  split at e
  case h_2 => cases e
  split at e
  case isFalse => cases e
  cases e
  rfl
theorem walk_ZT {l : PySem.W.OpenLaw} {k : Nat} {q : Program} {loose : List Str} {XP : (Str → Option Value) → Heap → Prop} {YP : World → Heap → Prop} {d : DefRec} {K : Params → PySem.W.Frag} {F : PySem.W.Frag → List D → Sto → R D} {tb : PySem.W.Frag → Addr × Addr} {tq : Str}
    (hn : l.most = some 63) (hdf : d.params.defaults = []) (hr : Room k callerA) (hrec : ((recsOf q).any fun e => e.name == d.name) = true) (hY : ∀ (w : World) (h : Heap), YP w h → (K w.params).In h)
    (hF : ∀ (w : World) (mg : Str → Option Value) (fa : Addr) (h : Heap), (K w.params).In h → h.Ns mainGlobals mg → mg d.name = some (.ref fa) → codT (K w.params) fa = some (tb (K w.params)) ∧
      ∃ fd : FuncData, (∀ (s : Shared) (u : Value), BindsTo s fd ⟨[u], []⟩ [("script", u)]) ∧ ∀ base : Heap, (K w.params).In base → base.Ns mainGlobals mg → TabB base mg (tb (K w.params)).1 (tb (K w.params)).2 → FnOk l.prog w (K w.params) mg base (L2.CX l.prog w) k fa fd ["script"] (spI (K w.params) 1 (F (K w.params))))
    (hl : ∀ (K : PySem.W.Frag) (ns : List Int), ns.length ≤ 63 → ∃ S, F K [.scr (scrD ns)] [.tab (tb K).2 tq] = .ok (.bl true) S) : PySem.W.WalkO q loose XP YP l.row.toRowW d [] (fun f vs => PySem.call f vs) := by
  refine walk_ofOwn (l := l) (n := 63) (k := k) (K := K) (x := "script") (CX := fun w => L2.CX l.prog w) hn (by decide) hdf hr hrec hY (fun w mg fa h Y KX G hm own => ?_) fun w H s e s' h => by
    obtain ⟨_, _, _, _, _, _, _, _, _, _, _, _, h⟩ := h
    exact h
  obtain ⟨hc, fd, hb, hf⟩ := hF w mg fa h KX G hm
  obtain ⟨c1, c2, c3⟩ := codT_ok hc KX own
  refine ⟨fd, [tb (K w.params)], spI (K w.params) 1 (F (K w.params)), fun p hp => ?_, fun p hp => ?_, fun p hp => ?_, hb, fun H a ns h1 _ hT hS => ?_, fun base KB GB TB => hf base KB GB (TB _ (List.mem_cons_self ..))⟩
  · rw [List.mem_singleton.mp hp]; exact c1
  · rw [List.mem_singleton.mp hp]; exact c2
  · rw [List.mem_singleton.mp hp]; exact c3
  · exact sp_scrT _ _ tq H a ns (hT _ (List.mem_cons_self ..)) hS (hl _ ns h1)
section
variable {P : Program} {w : World} {K : PySem.W.Frag} {mg : Str → Option Value} {base : Heap} {x qual : Str} {params : Arguments} {body : List Stmt} {scope : Scope} {dvs : List V} {kws : List (Str × V)} {f : Addr} {fd : FuncData}
theorem zfnC {N ps : List Str} {k n : Nat} {den : DS} {F : List D → Sto → R D} (c : Addr) (hc : fd.code = .ref c) (fdd : FunD K x qual params body scope dvs kws f fd) (S : FnScope N ps scope) (hn : ps.length = n)
    (hb : ∀ (A : Around) (outer : List PySem.Env) (s : Shared) (H : Hp) (E : XK), Good (cxOf (L2.CX P w) P w K mg base N qual scope f (.ref c) A outer s H E) k → ZB (cxOf (L2.CX P w) P w K mg base N qual scope f (.ref c) A outer s H E) body den)
    (imp : ∀ ds S, ds.length = n → ClS S.length S → D.cls S.length ds → Ref S (F ds S) (runB N.length den ds S)) : FnOk P w K mg base (L2.CX P w) (k + 1) f fd ps (spI K n F) := by
  obtain ⟨oc, od, dV, kV, doc, pm, an, cdv, ct, osl, rfl, lk, hcd, _, _⟩ := fdd.ex
  obtain rfl : cdv = .ref c := hc
  refine fn_of lk hcd S (fun vs H Q E h => by rw [hn]; exact spI_len h) fun A outer s H vs Q E hr h => ?_
  obtain ⟨m, B, ds, S', rs, rd, hl, p⟩ := h
  refine ⟨_, hb A outer s H E ⟨hr, rfl, passes_of rfl⟩ (fun c x _ H' => E c x H') (takes_of rfl rfl rfl rfl), ?_⟩
  refine tS_run rs rd ((imp ds S' hl rs.cl ?_).post rs p)
  rw [← rs.len]
  exact RDs.cls rd
end
end Z
namespace Z
open PySem PySem.Spec PyProof.Rows L2
section
variable {X : Cx} {pos p0 p1 p2 apos : Pos} {a b e o : Expr} {da db dobj : DE} {t : DA}
/-! ### x is True | False -/
def fIsC : D → D → Sto → R D
  | .bl a, .bl b, S => .ok (.bl (decide (a = b))) S
  | .non, .bl _, S => .ok (.bl false) S
  | .int _, .bl _, S => .ok (.bl false) S
  | .str _, .bl _, S => .ok (.bl false) S
  | .tup _, .bl _, S => .ok (.bl false) S
  | .lst _, .bl _, S => .ok (.bl false) S
  | .scr _, .bl _, S => .ok (.bl false) S
  | .ref _, .bl _, S => .ok (.bl false) S
  | _, _, _ => .bad
def rIsC : R2 := fun x y H Q => ∃ b : Bool, y = .bl b ∧ ((∃ a : Bool, x = .bl a ∧ Q (.bl (decide (a = b))) H) ∨ ((x = .non ∨ (∃ i, x = .int i) ∨ (∃ s, x = .str s) ∨ ∃ r, x = .ref r) ∧ Q (.bl false) H))
theorem op_isC : OpR X (compareOp .Is) rIsC := by
  intro pins s σ H x y v u Q I rx ry h
  obtain ⟨b, rfl, h⟩ := h
  cases (show u = Value.bool b from ry)
  rcases h with ⟨a, rfl, q⟩ | ⟨rfl | ⟨i, rfl⟩ | ⟨i, rfl⟩ | ⟨i, rfl⟩, q⟩
  · cases (show v = Value.bool a from rx)
    by_cases e : a = b
    · subst e
      exact wpAny_is_self rfl ⟨.bl true, H, I, rfl, by simpa using q⟩
    · exact wpAny_is_other rfl (fun z => e (Value.bool.inj z)) ⟨.bl false, H, I, rfl, by simpa [e] using q⟩
  · cases (show v = Value.none from rx)
    exact wpAny_is_other rfl (fun z => by cases z) ⟨.bl false, H, I, rfl, q⟩
  · obtain ⟨t, ht⟩ : ∃ t, v = Value.int i t := rx
    subst ht
    exact wpAny_is_other rfl (fun z => by cases z) ⟨.bl false, H, I, rfl, q⟩
  · obtain ⟨t, ht⟩ : ∃ t, v = Value.str i t := rx
    subst ht
    exact wpAny_is_other rfl (fun z => by cases z) ⟨.bl false, H, I, rfl, q⟩
  · cases (show v = Value.ref i from rx)
    exact wpAny_is_other rfl (fun z => by cases z) ⟨.bl false, H, I, rfl, q⟩
theorem okIsC {K : PySem.W.Frag} : OkOp K rIsC fIsC := by
  intro m B H S d e x y W Q rs rd re p
  cases e with
  | bl b =>
    unfold RD at re
    subst re
    cases d with
    | bl c =>
      unfold RD at rd
      subst rd
      exact ⟨b, rfl, .inl ⟨c, rfl, p.now rs _ (RDb _)⟩⟩
    | non =>
      unfold RD at rd
      subst rd
      exact ⟨b, rfl, .inr ⟨.inl rfl, p.now rs _ (RDb _)⟩⟩
    | int i =>
      unfold RD at rd
      subst rd
      exact ⟨b, rfl, .inr ⟨.inr (.inl ⟨i, rfl⟩), p.now rs _ (RDb _)⟩⟩
    | str i =>
      unfold RD at rd
      subst rd
      exact ⟨b, rfl, .inr ⟨.inr (.inr (.inl ⟨i, rfl⟩)), p.now rs _ (RDb _)⟩⟩
    | tup ds =>
      unfold RD at rd
      obtain ⟨r, vs, rfl, _⟩ := rd
      exact ⟨b, rfl, .inr ⟨.inr (.inr (.inr ⟨r, rfl⟩)), p.now rs _ (RDb _)⟩⟩
    | lst ds =>
      unfold RD at rd
      obtain ⟨r, vs, rfl, _⟩ := rd
      exact ⟨b, rfl, .inr ⟨.inr (.inr (.inr ⟨r, rfl⟩)), p.now rs _ (RDb _)⟩⟩
    | scr ds =>
      unfold RD at rd
      obtain ⟨r, vs, rfl, _⟩ := rd
      exact ⟨b, rfl, .inr ⟨.inr (.inr (.inr ⟨r, rfl⟩)), p.now rs _ (RDb _)⟩⟩
    | ref n =>
      unfold RD at rd
      obtain ⟨r, rfl, _⟩ := rd
      exact ⟨b, rfl, .inr ⟨.inr (.inr (.inr ⟨r, rfl⟩)), p.now rs _ (RDb _)⟩⟩
    | adr _ => exact p.elim
    | ty _ => exact p.elim
  | _ => cases d <;> exact p.elim
theorem ze_isC (ha : ZE X a da) (hb : ZE X b db) : ZE X (.Compare a [.Is] [b] pos) (e2 fIsC da db) := ze_cmp op_isC okIsC ha hb (nomark _)
theorem zt_isC (ha : ZE X a da) (hb : ZE X b db) : ZT X (.Compare a [.Is] [b] pos) (tVB (e2 fIsC da db)) := zt_cmp op_isC okIsC ha hb (nomark _)
/-! ### x in a tuple of whole numbers -/
def fInA (neg : Bool) : D → D → Sto → R D
  | .int i, .tup ds, S => match intsD ds with
    | some ns => .ok (.bl (if neg = true then !decide (i ∈ ns) else decide (i ∈ ns))) S
    | none => .bad
  | d, e, S => if neg = true then fNotIn d e S else fIn d e S
theorem inV_ints (i : Int) : ∀ ns : List Int, inV (.int i) (ns.map V.int) = decide (i ∈ ns)
  | [] => rfl
  | n :: ns => by
    have ih := inV_ints i ns
    unfold inV at ih ⊢
    rw [List.map_cons, List.any_cons, ih]
    have e : eqV (.int n) (.int i) = decide (n = i) := by
      show (n == i) = _
      by_cases h : n = i <;> simp [h]
    rw [e, Bool.eq_iff_iff]
    simp only [Bool.or_eq_true, decide_eq_true_eq, List.mem_cons]
    constructor
    · rintro (h | h)
      · exact .inl h.symm
      · exact .inr h
    · rintro (h | h)
      · exact .inl h.symm
      · exact .inr h
theorem flat_ints : ∀ ns : List Int, (ns.map V.int).all flatV = true
  | [] => rfl
  | n :: ns => by
    rw [List.map_cons, List.all_cons, flat_ints ns]
    rfl
def rInA (K : PySem.W.Frag) : R2 := fun x y H Q => rInD K x y H Q ∨ rIn K false x y H Q
theorem okInA {K : PySem.W.Frag} : OkOp K (rInA K) (fInA false) := by
  intro m B H S d e x y W Q rs rd re p
  have gen : Post K m B H W (fun d _ m' H' => ∀ v, RD K m' B H' d v → Q v H') (fIn d e S) → rInA K x y H Q := fun p => .inl (okIn m B H S d e x y W Q rs rd re p)
  cases d with
  | int i =>
    cases e with
    | tup ds =>
      simp only [fInA] at p
      split at p
      · rename_i ns hn
        unfold RD at rd re
        subst rd
        obtain ⟨r, vs, rfl, f, rv⟩ := re
        rw [intsD_ok rv hn] at f
        refine .inr ⟨r, _, rfl, .inr f.sq, rfl, flat_ints ns, ?_⟩
        simp only [inV_ints]
        exact p.now rs _ (RDb _)
      · exact p.elim
    | _ => exact gen p
  | _ => exact gen p
theorem ze_inA (hu : X.A.units + 65 < cLine) (ha : ZE X a da) (hb : ZE X b db) (hm : behindInMarks .In b = false := by rfl) : ZE X (.Compare a [.In] [b] pos) (e2 (fInA false) da db) := ze_cmp ((op_inD hu).or op_in_seq) okInA ha hb hm
theorem zt_inA (hu : X.A.units + 65 < cLine) (ha : ZE X a da) (hb : ZE X b db) (hm : behindInMarks .In b = false := by rfl) : ZT X (.Compare a [.In] [b] pos) (tVB (e2 (fInA false) da db)) := zt_cmp ((op_inD hu).or op_in_seq) okInA ha hb hm
/-! ### a list so many times -/
def gRep (S : Sto) (x y : D) : R (List D) := match lstH S x, y with
  | some xs, .int k => if 0 ≤ k ∧ k ≤ 1000 ∧ xs.length ≤ 1000 then .ok (List.replicate k.toNat xs).flatten S else .bad
  | _, _ => .bad
def lRep (a b : DE) : DA := fun ρ S => (a ρ S).bind fun x S1 => (b ρ S1).bind fun y S2 => gRep S2 x y
theorem zl_rep (ha : ZE X a da) (hb : ZE X b db) : ZL X (.BinOp a .Mult b pos) (lRep da db) := fun W tk => pe_weak (pe_op op_rep (ha W tk) (hb W tk)) fun σ H Q ⟨m, B, ρ, S, rs, e, p⟩ =>
  tE.takeL rs e p fun x S1 m1 H1 v g1 r1 e1 rx p1 => tE.takeL r1 e1 p1 fun y S2 m2 H2 u g2 r2 e2 ry p2 => by
    unfold gRep at p2
    split at p2
    · rename_i xs k h1
      split at p2
      · rename_i hl
        obtain ⟨a1, vs, rfl, q1, w1⟩ := lstH_ok r2 (rx.mono g2.tr) h1
        unfold RD at ry
        subst ry
        have b0 : vs.length * k.toNat ≤ 1000 * 1000 := Nat.mul_le_mul (by rw [← w1.len]; exact hl.2.2) (by omega)
        exact ⟨a1, k, vs, rfl, rfl, q1, by omega, by omega, by rw [sizeLine_eq]; omega, fun p hp => p2.put r2 (w1.rep k.toNat) hp⟩
      · exact p2.elim
    · exact p2.elim
/-! ### list(range(n)) -/
def gRange (S : Sto) : D → R (List D)
  | .int n => if 0 ≤ n ∧ n ≤ 16777216 then .ok (iRow 0 n.toNat) S else .bad
  | _ => .bad
def lRange (a : DE) : DA := fun ρ S => (a ρ S).bind fun d S1 => gRange S1 d
theorem rds_range {K : PySem.W.Frag} {m B : List Addr} {H : Hp} (n : Int) : RDs K m B H (iRow 0 n.toNat) (rgV 0 n) := by
  have e : rgV 0 n = ((List.range n.toNat).map fun i : Nat => (i : Int)).map V.int := by
    unfold rgV
    rw [List.map_map]
    have : (n - 0).toNat = n.toNat := by omega
    rw [this]
    apply List.map_congr_left
    intro i _
    simp
  have e2 : iRow 0 n.toNat = ((List.range n.toNat).map fun i : Nat => (i : Int)).map D.int := by
    rw [iRow_map0, List.map_map]
    rfl
  rw [e, e2]
  exact ints_rd _
theorem zl_range (hc : X.calm = true) (hm : X.mg "list" = none) (hmr : X.mg "range" = none) (ha : ZE X a da) (hg : Gl X "list" := by rfl) (hgr : Gl X "range" := by rfl) (na : starEach [a] X.env = (false, eval a X.env) :: starEach [] X.env := by rfl)
    (nb : starEach [.Call (.Name "range" p1) [a] [] p2] X.env = (false, eval (.Call (.Name "range" p1) [a] [] p2) X.env) :: starEach [] X.env := by rfl) : ZL X (.Call (.Name "list" p0) [.Call (.Name "range" p1) [a] [] p2] [] pos) (lRange da) := fun W tk =>
  pe_weak (pe_listRg hc hg hm (prg_1 hgr hmr (ha W tk) na) nb) fun σ H Q ⟨m, B, ρ, S, rs, e, p⟩ => tE.takeL rs e p fun d S1 m1 H1 v g1 r1 e1 rd p1 => by
    unfold gRange at p1
    split at p1
    · rename_i n
      split at p1
      · rename_i hn
        unfold RD at rd
        subst rd
        exact ⟨n, rfl, RgOk.of_le (by omega) (by omega) (by omega) hn.1, fun q hq => p1.put r1 (rds_range n) hq⟩
      · exact p1.elim
    · exact p1.elim
/-! ### sorted(set(a tuple of whole numbers)) -/
def gSortSetT (S : Sto) : List D → R (List D)
  | [d] => match d with
    | .tup ds => if ds.length < 64 ∧ (intsD ds).isSome = true then .ok (usortK keyT ds) S else .bad
    | _ => .bad
  | _ => .bad
def lSortSetT (a : DA) : DA := fun ρ S => (a ρ S).bind fun ds S1 => gSortSetT S1 ds
def rSetT (K : PySem.W.Frag) (w : World) : List V → Hp → VK → Prop := fun xs H Q => ∃ (l : Addr) (ns : List Int), xs = [V.ref l] ∧ SqT K H l (ns.map V.int) ∧ ns.length < 64 ∧ ∀ a c, H a = none → c ≤ ns.length → Q (.ref a) (L2.upd H a (SetO w a (fun j => decide (j ∈ ns)) c))
theorem cr_setT (hc : X.calm = true) : CallR X (.type "set") (rSetT X.K X.w) := by
  intro pins s σ H xs us Q I r h
  obtain ⟨l, ns, rfl, hl, hf, q⟩ := h
  rw [Vals.ref1 r]
  obtain ⟨its, rv, pl, hz⟩ := I.tuple hl
  have hn : H s.heap.objs.size = none := I.hok.fresh (Nat.le_refl _)
  refine call_set_tupI (P := X.prog) (w := X.w) ns (I.ok.hd hc) pl (by simpa using rv.ints) (by unfold scanBound; omega) fun h' tk c R hle k => ?_
  exact ⟨.ref s.heap.objs.size, L2.upd H s.heap.objs.size (SetO X.w s.heap.objs.size (fun j => decide (j ∈ ns)) c), I.laid (t' := tk) k (Nat.le_refl _) (setO_new R), rfl, q _ c hn hle⟩
theorem zl_sortSetT (hc : X.calm = true) (hm : X.mg "sorted" = none) (hm2 : X.mg "set" = none) (ha : ZA X [e] t) (hg : Gl X "sorted" := by rfl) (hg2 : Gl X "set" := by rfl) (he : starEach [e] X.env = (false, eval e X.env) :: starEach [] X.env := by rfl)
    (he2 : starEach [.Call (.Name "set" p1) [e] [] p2] X.env = (false, eval (.Call (.Name "set" p1) [e] [] p2) X.env) :: starEach [] X.env := by rfl) : ZL X (.Call (.Name "sorted" p0) [.Call (.Name "set" p1) [e] [] p2] [] pos) (lSortSetT t) := fun W tk =>
  pe_weak (pe_callB (cr_sortedSet hc) hg hm (by decide +kernel) (pa_cons (pe_callTy (cr_setT hc) hg2 hm2 (by decide +kernel) (ha W tk) (by decide) (by decide) he (by rfl)) pa_nil he2) (by decide) (by decide) he2 (by rfl)) fun σ H Q ⟨m, B, ρ, S, rs, e, p⟩ => tAr.takeL rs e p fun ds S1 m1 H1 vs g1 r1 e1 rds p1 => by
    match ds, rds, p1 with
    | [], _, p1 => exact p1.elim
    | _ :: _ :: _, _, p1 => exact p1.elim
    | [d], rds, p1 =>
      cases d <;> try exact p1.elim
      rename_i ds
      obtain ⟨v, rfl, rv⟩ := rds.one
      simp only [gSortSetT] at p1
      split at p1
      case isFalse => exact p1.elim
      rename_i hk
      obtain ⟨h64, hi⟩ := hk
      obtain ⟨ns, hn⟩ := Option.isSome_iff_exists.mp hi
      have ed := intsD_len hn
      unfold RD at rv
      obtain ⟨r, us, rfl, f, ru⟩ := rv
      rw [intsD_ok ru hn] at f
      have hln : ns.length < 64 := by rw [ed, List.length_map] at h64; exact h64
      refine ⟨r, ns, rfl, f.sq, hln, fun b c hb hcn => ?_⟩
      refine ⟨b, _, c, rfl, upd_same, by omega, fun ks p hs hmem hlen hp => ?_⟩
      have eq : ks.map D.int = usortK keyT ds := by
        rw [ed]
        refine usortK_uniq (fun z => ?_) (List.pairwise_map.mpr hs) ints_inj
        constructor
        · intro hz
          obtain ⟨i, hi, rfl⟩ := List.mem_map.mp hz
          exact List.mem_map.mpr ⟨i, of_decide_eq_true ((hmem i).mp hi), rfl⟩
        · intro hz
          obtain ⟨i, hi, rfl⟩ := List.mem_map.mp hz
          exact List.mem_map.mpr ⟨i, (hmem i).mpr (decide_eq_true hi), rfl⟩
      rw [← eq] at p1
      obtain ⟨g2, r2⟩ := r1.new (u := SetO X.w b (fun j => decide (j ∈ ns)) c) hb
      exact PostL.put (p1.ge g2) r2 (ints_rd ks) hp
/-! ### a list that nobody changes: xs.index(y) -/
def isLv : D → Bool
  | .lst _ => true
  | _ => false
def eBV (f : D → List D → Sto → R D) (o : DE) (r : DA) : DE := fun ρ S => (o ρ S).bind fun d S1 => if isLv d = true then (r ρ S1).bind fun ds S2 => f d ds S2 else .bad
def findP (d : PyData) : List PyData → Nat → Option Nat
  | [], _ => none
  | z :: zs, j => if PyData.eqv z d = true then some j else findP d zs (j + 1)
theorem findP_ok {d : PyData} : ∀ {zs : List PyData} {j i : Nat}, findP d zs j = some i → ∃ k z, i = j + k ∧ zs[k]? = some z ∧ PyData.eqv z d = true ∧ ∀ m z', m < k → zs[m]? = some z' → PyData.eqv z' d = false
  | [], _, _, h => by cases h
  | z :: zs, j, i, h => by
    unfold findP at h
    split at h
    · rename_i he
      cases h
      exact ⟨0, z, rfl, rfl, he, fun m z' hm => by omega⟩
    · rename_i he
      obtain ⟨k, z2, h1, h2, h3, h4⟩ := findP_ok h
      refine ⟨k + 1, z2, by omega, h2, h3, fun m z' hm hz => ?_⟩
      cases m with
      | zero =>
        cases hz
        exact Bool.eq_false_iff.mpr he
      | succ m => exact h4 m z' (by omega) hz
def fIdx : D → List D → Sto → R D
  | .lst ds, [y], S => match toP S (.lst ds), toP S y with
    | some (.list qs), some q => if SeqAt.shaped (.list qs) = true ∧ SeqAt.shaped q = true then match findP q qs 0 with
        | some j => .ok (.int (j : Nat)) S
        | none => .bad
      else .bad
    | _, _ => .bad
  | _, _, _ => .bad
theorem okIdx {K : PySem.W.Frag} : OkM K (rIndexD K) fIdx := by
  intro m B H S d ds x vs W Q rs rd rds p
  cases d <;> try exact p.elim
  rename_i xs
  match ds, rds, p with
  | [], _, p => exact p.elim
  | _ :: _ :: _, _, p => exact p.elim
  | [y], rds, p =>
    obtain ⟨w, rfl, rw'⟩ := rds.one
    simp only [fIdx] at p
    split at p
    case h_2 => exact p.elim
    rename_i qs q h1 h2
    split at p
    case isFalse => exact p.elim
    rename_i hs
    split at p
    case h_2 => exact p.elim
    rename_i j hj
    obtain ⟨k, z, e1, e2, e3, e4⟩ := findP_ok hj
    have t1 := toP_ok rs rd h1
    have t2 := toP_ok rs rw' h2
    have rd' := rd
    unfold RD at rd'
    obtain ⟨a, us, rfl, _⟩ := rd'
    have ek : j = k := by omega
    subst ek
    exact ⟨a, w, q, qs, j, z, rfl, rfl, t1, t2, hs.1, hs.2, e2, e3, e4, p.now rs _ (RDi _)⟩
end
end Z
namespace Z
open PySem PySem.Spec PyProof.Rows L2
section
variable {X : Cx} {pos apos : Pos} {e o : Expr} {dobj : DE} {t : DA}
theorem isLv_ty {K : PySem.W.Frag} {m B : List Addr} {H : Hp} {S : Sto} {d : D} {v : V} (rs : RS K m B H S) (rd : RD K m B H d v) (h : isLv d = true) : tyV K "list" v H := by
  cases d <;> try (cases h; done)
  unfold RD at rd
  obtain ⟨a, vs, rfl, f, r⟩ := rd
  exact .inl ⟨rfl, vs, f.sq⟩
theorem ze_idx (hu : X.A.units + 65 < cLine) (ho : ZE X o dobj) (ha : ZA X [e] t) (hb : attributeBase o "index" X.env (eval o X.env) = eval o X.env := by rfl)
    (hfew : ((backTo pos (starEach [e] X.env)).all (fun x => !x.1) && (backToKw pos (keywordEach [] X.env)).all (fun x => x.1.isSome) && decide ([e].length + ([] : List Keyword).length + (if ([] : List Keyword).isEmpty then 0 else 1) < 30)) = true := by rfl)
    (hl : (apos.endLine == pos.line) = true := by rfl) (hs : starEach [e] X.env = (false, eval e X.env) :: starEach [] X.env := by rfl) : ZE X (.Call (.Attribute o "index" apos) [e] [] pos) (eBV fIdx dobj t) := fun W tk =>
  pe_weak (pe_bm PySem.F.plainAttrs_list PySem.F.slot_list_index PySem.F.type_list_index (mt_indexD hu) (ho W tk) (ha W tk) hb hfew hl hs (by rfl)) fun σ H Q ⟨m, B, ρ, S, rs, e, p⟩ => tE.takeA rs e p fun d S1 m1 H1 v g1 r1 e1 rd p1 => by
    split at p1
    · rename_i hL
      exact ⟨isLv_ty r1 rd hL, tAr.take r1 e1 p1 fun ds S2 m2 H2 vs g2 r2 e2 rds p2 => okIdx m2 B H2 S2 d ds v vs _ Q r2 (rd.mono g2.tr) rds p2⟩
    · exact p1.elim
end
end Z
namespace Z
open PySem PySem.Spec PyProof.Rows L2
theorem ktB {K : PySem.W.Frag} {x : Str} {vs : List He.Dv} (h : He.tupB K x vs = true) : KT K (He.ga K x) (vs.map (He.Dv.v K)) := by
  rcases He.tupB_ok h (fun _ => none) with (r | ⟨o, r⟩) | k
  · cases r
  · cases r
  · exact k
end Z
namespace Z
open PySem PySem.Spec PyProof.Rows L2 PpSet
/-! ### a set by comprehension, one for: what is added may be of any kind for which adding is known -/
section
variable {α : Type}
/-- adding to the set ent D a: pre, what must be known; post, what it may become -/
def AddR (X : Cx) (ent : Addr → α → HO) (pre : Hp → α → V → Prop) (post : Hp → α → V → α → Prop) : Prop := ∀ (pins : List (Addr × Obj)) (σ : L2.St) (H : Hp) (s : Shared) (E : Value → Shared → Prop) (D : Addr) (a : α) (y : V) (u : Value) (Q : Value → Shared → Prop),
  Inv X pins σ H s → RelV y u → H D = some (ent D a) → pre H a y → (∀ (a' : α) (s' : Shared), post H a y a' → Inv X pins σ (L2.upd H D (ent D a')) s' → Q .none s') → wpAny (model X.prog X.w) X.A (call (.builtin "set.add") [.ref D, u]) Q E s
def emptyS (w : World) : Obj := { cls := .type "set", dict := none, data := .set #[] 0 (.fresh 0 0 (!w.params.followText "set-order")) }
def NewR (P : Program) (w : World) (ent : Addr → α → HO) (a0 : α) : Prop := ∀ (H : Hp) (h : Heap), ObjOk P w H (h.push (emptyS w)) h.objs.size (ent h.objs.size a0)
def tSg (ent : Addr → α → HO) (a0 : α) (pre : Hp → α → V → Prop) (post : Hp → α → V → α → Prop) (wi : TI) (g : TG) (tt : TT) (te : TE) (vs : List Nat) : TE := fun σ H Q => wi σ H fun J Ha => ∀ D, Ha D = none →
  ∃ W : Nat → Nat → Hp → Prop, (∃ m, W 0 m (L2.upd Ha D (ent D a0))) ∧ ∀ i m Hb, W i m Hb → (J.stop i Hb ∧ Q (.ref D) Hb) ∨
    (J.go i Hb ∧ ∃ Nx : Hp → Prop, (∀ Hc, Nx Hc → ∃ m', m' < m ∧ W (i + 1) m' Hc) ∧ ∀ x Hc, J.yld i Hb x Hc → g x (wipe σ vs) Hc fun σd Hd => wipe σd vs = wipe σ vs ∧ tt σd Hd fun b He =>
      if b = true then te σd He fun y Hf => ∃ a, Hf D = some (ent D a) ∧ pre Hf a y ∧ ∀ a', post Hf a y a' → Nx (L2.upd Hf D (ent D a')) else Nx He)
end
section
variable {X : Cx} {α : Type} {ent : Addr → α → HO} {a0 : α} {pre : Hp → α → V → Prop} {post : Hp → α → V → α → Prop}
theorem sg_core {pins : List (Addr × Obj)} {s : Shared} {σ : L2.St} {H : Hp} {Q : VK} {elt tg iter : Expr} {ifs : List Expr} {scope : Scope} {own : List (PySem.Str × Nat)} {pos pos' : Pos} {wi : TI} {g : TG} {tt : TT} {te : TE} {use : Option (Value → Sem Unit)} {Qf : Value → Shared → Prop}
    (hc : X.calm = true) (hN : X.N.Nodup) (I : Inv X pins σ H s)
    (hnew : NewR X.prog X.w ent a0) (hi : PI X tg iter wi) (ok : BlkOk X.N X.env.scope scope own)
    (hadd : ∀ (s : Shared) (H : Hp) (C : Addr) (cl : List (PySem.Str × Addr)) (fp : List Addr), AddR (X.blk s H scope (compEnvC scope cl C X.env) fp) ent pre post)
    (hg : ∀ (s : Shared) (H : Hp) (C : Addr) (cl : List (PySem.Str × Addr)) (fp : List Addr), PG (X.blk s H scope (compEnvC scope cl C X.env) fp) tg g)
    (ht : ∀ (s : Shared) (H : Hp) (C : Addr) (cl : List (PySem.Str × Addr)) (fp : List Addr), PTs (X.blk s H scope (compEnvC scope cl C X.env) fp) ifs tt)
    (he : ∀ (s : Shared) (H : Hp) (C : Addr) (cl : List (PySem.Str × Addr)) (fp : List Addr), PE (X.blk s H scope (compEnvC scope cl C X.env) fp) elt te)
    (hs : ∀ x, foldedSetIterable iter X.env x = pure x) (h : tSg ent a0 pre post wi g tt te (own.map (·.2)) σ H Q)
    (fin : ∀ D C sE m HE, Inv X pins σ HE sE → Q (.ref D) HE → sE.heap.Ns C m → FpOk X pins HE C →
      compPost (model X.prog X.w) X.A X.xe use Qf (.ref D) C (.ok .next) sE) :
    wpAny (model X.prog X.w) X.A (comprehension (.SetComp elt [⟨tg, iter, ifs, 0⟩] scope pos) scope X.env pos' (newSet (.type "set")) false (eval iter X.env) use) Qf X.xe s := by
  have caught : ∀ y ∈ scope.names, y.2 = .free → ∃ c, X.env.cells.lookup y.1 = some c := fun y hy e =>
    (ok.free y hy e).elim (fun k => I.ok.has _ (.inl k)) fun k => I.ok.has _ (.inr k)
  refine wpAny_comprehension_free (use := use) rfl hs (closure_ok caught) ok.kind (fun y hy e => by rw [ok.uniq y hy, e]) (thn (hi.run pins s σ H _ I h) fun xv t1 hx =>
    thn hx fun itv t2 hx2 => ?_)
  obtain ⟨it, fp, tn, J, Ha, rfl, Ia, T, sta, fa, q⟩ := hx2
  refine newSet_ok (newEnv_comp ?_)
  generalize hD : t2.heap.objs.size = D
  have freeD : Ha D = none := Ia.hok.fresh (Nat.le_of_eq hD)
  obtain ⟨W, ⟨m0, w0⟩, turn⟩ := q D freeD
  generalize hsb : ({ t2 with heap := t2.heap.push (emptyS X.w) } : Shared) = sb
  have Ib : Inv X pins σ (L2.upd Ha D (ent D a0)) sb := by
    rw [← hsb]
    refine Ia.laid (t' := t2.toks) (fun b o e => Heap.get?_push_of_some _ e) (Nat.le_of_eq hD) ?_
    have := hnew (L2.upd Ha t2.heap.objs.size (ent t2.heap.objs.size a0)) t2.heap
    rw [← hD]
    exact hnew _ t2.heap
  have heb : sb.heap = t2.heap.push (emptyS X.w) := by rw [← hsb]
  have lowfp : ∀ b ∈ fp, b < t2.heap.objs.size := fun b hb => by
    have ⟨o, e, _⟩ := T.obj _ _ sta b hb
    exact Heap.lt_size e
  have fb : ∀ b ∈ fp, FpOk X pins (L2.upd Ha D (ent D a0)) b ∧ b < sb.heap.objs.size := fun b hb => by
    have lt := lowfp b hb
    refine ⟨⟨?_, (fa b hb).2⟩, by rw [heb, Heap.size_push]; exact Nat.lt_succ_of_lt lt⟩
    rw [L2.upd_ne (by rw [← hD]; exact Nat.ne_of_lt lt)]
    exact (fa b hb).1
  have stb : tn 0 sb.heap := T.keep _ _ _ sta fun b _ o e => by rw [heb]; exact Heap.get?_push_of_some _ e
  have Ic := block_start Ib ok hN fb
  generalize hcl : cellsFrom (sb.heap.objs.size + 1) scope.names (cloFrom X.env.cells scope.names []) = cl at Ic ⊢
  have pa := hadd sb (L2.upd Ha D (ent D a0)) sb.heap.objs.size cl fp
  have pg := hg sb (L2.upd Ha D (ent D a0)) sb.heap.objs.size cl fp
  have pt := ht sb (L2.upd Ha D (ent D a0)) sb.heap.objs.size cl fp
  have pe := he sb (L2.upd Ha D (ent D a0)) sb.heap.objs.size cl fp
  have nofp : ∀ b ∈ fp, (L2.upd Ha D (ent D a0)) b = none := fun b hb => (fb b hb).1.1
  rw [show ({ t2 with heap := t2.heap.push { cls := .type "set", dict := none, data := .set #[] 0 (.fresh 0 0 (!X.w.params.followText "set-order")) } } : Shared) = sb from hsb, hcl]
  show codeAny (model X.prog X.w) X.A (.compStart (.SetComp elt [⟨tg, iter, ifs, 0⟩] scope pos) 0 (.ref it) (.ref D) (compEnvC scope cl sb.heap.objs.size X.env))
    (compPost (model X.prog X.w) X.A X.xe use Qf (.ref D) sb.heap.objs.size) { sb with heap := pushCells (sb.heap.push { cls := .type "dict", data := .dict #[] }) scope.names }
  generalize hce : compEnvC scope cl sb.heap.objs.size X.env = ce at Ic pa pg pt pe ⊢
  have cL : ce.locals = sb.heap.objs.size := by subst hce; rfl
  generalize hHb : L2.upd Ha D (ent D a0) = Hb at Ib Ic pa pg pt pe w0 nofp fb
  generalize hsc : ({ sb with heap := pushCells (sb.heap.push { cls := .type "dict", data := .dict #[] }) scope.names } : Shared) = sc at Ic ⊢
  have stc : tn 0 sc.heap := T.keep _ _ _ stb fun b _ o e => by rw [← hsc]; exact pushCells_keeps _ _ _ _ (Heap.get?_push_of_some _ e)
  have stat : ∀ {σ' : L2.St} {H' : Hp} {s' : Shared}, Inv (X.blk sb Hb scope ce fp) [] σ' H' s' → (∀ b ∈ fp, H' b = none) →
      ∀ b ∈ fp, FpOk (X.blk sb Hb scope ce fp) [] H' b := fun {σ' H' s'} I' hn b hb =>
    ⟨hn b hb, (I'.ok.exf b hb).1, I'.ok.exfs b hb, .inl hb, fun x c e => (I'.ok.exf b hb).2 x c e, fun p hp => by cases hp⟩
  have loop : codeAny (model X.prog X.w) X.A (.compLoop (.SetComp elt [⟨tg, iter, ifs, 0⟩] scope pos) 0 (.ref it) (.ref D) ce) (compPost (model X.prog X.w) X.A X.xe use Qf (.ref D) sb.heap.objs.size) sc := by
    refine compLoopS_any (fun k sk => ∃ i Hk, Inv (X.blk sb Hb scope ce fp) [] (wipe σ (own.map (·.2))) Hk sk ∧ tn i sk.heap ∧ (∀ b ∈ fp, Hk b = none) ∧ W i k Hk) ?_ m0 ⟨0, Hb, Ic, stc, nofp, w0⟩
    rintro k sk ⟨i, Hk, Ik, stk, nk, wk⟩
    rcases turn i k Hk wk with ⟨stop, over⟩ | ⟨go, Nx, hNx, step⟩
    · refine thnF (T.done (X.blk sb Hb scope ce fp) rfl rfl rfl hc i [] sk _ Hk (fun _ _ => False) Ik (stat Ik nk) stk stop) fun r sE ⟨hr, IE⟩ => ?_
      subst hr
      have IX : Inv X pins σ Hk sE := Ib.call' (ch := fp) IE.os IE.base IE.hok IE.bare fun b hb => by
        have z := (fb b hb).1.2
        exact ⟨z.2.2.1, z.1, z.2.2.2.1, z.2.2.2.2⟩
      have nC : Hk sb.heap.objs.size = none := by
        have z : Hk ce.locals = none := IE.free
        rwa [cL] at z
      obtain ⟨m, hn, _⟩ := IE.loc
      have hn' : sE.heap.Ns ce.locals m := hn
      rw [cL] at hn'
      exact fin D sb.heap.objs.size sE m Hk IX over hn' (Ib.fpOk (Nat.le_refl _) nC)
    · refine thnF (T.item (X.blk sb Hb scope ce fp) rfl rfl rfl hc i [] sk _ Hk (fun _ _ => False) Ik (stat Ik nk) stk go) fun r s6 ⟨u, hr, h6⟩ => ?_
      subst hr
      refine thnF h6 fun _ s7 ⟨x, H7, I7, rx, yx, stx, nx7⟩ => ?_
      refine thnF (pg.run _ s7 _ H7 x u _ (I7.pinned (stat I7 nx7) (T.obj _ _ stx)) rx (step x H7 yx)) fun _ s8 ⟨σ8, H8, I8, hw8, q8⟩ => ?_
      refine thnF (pt.run _ s8 σ8 H8 _ I8 q8) fun b s9 ⟨H9, I9, q9⟩ => ?_
      have close : ∀ {sz : Shared} {Hz : Hp}, Inv (X.blk sb Hb scope ce fp) ([] ++ pinsAt fp s7.heap) σ8 Hz sz → Nx Hz →
          ∃ m, m < k ∧ ∃ i Hk, Inv (X.blk sb Hb scope ce fp) [] (wipe σ (own.map (·.2))) Hk sz ∧ tn i sz.heap ∧ (∀ b ∈ fp, Hk b = none) ∧ W i m Hk := fun {sz Hz} Iz nz => by
        obtain ⟨m', hm, w'⟩ := hNx Hz nz
        have held : ∀ b ∈ fp, ∀ o, s7.heap.get? b = some o → sz.heap.get? b = some o ∧ Hz b = none := fun b hb o e => by
          have z := Iz.pin (b, o) (List.mem_append_right _ (List.mem_append_right _ (mem_pinsAt hb e)))
          exact ⟨z.1, z.2.1⟩
        have len : (wipe σ (own.map (·.2))).length = σ8.length := by rw [← hw8, wipe_length]
        refine ⟨m', hm, i + 1, Hz, (Iz.unpinned (pins := [])).weak len (fun j v e => ?_), T.keep _ _ _ stx (fun b hb o e => (held b hb o e).1), fun b hb => ?_, w'⟩
        · rw [← hw8] at e
          exact (wipe_some e).1
        · have ⟨o, e, _⟩ := T.obj _ _ stx b hb
          exact (held b hb o e).2
      cases b with
      | false =>
        simp only [Bool.false_eq_true, if_false] at q9 ⊢
        exact close I9 q9
      | true =>
        simp only [if_true] at q9 ⊢
        refine thnF (pe.run _ s9 σ8 H9 _ I9 q9) fun z sA ⟨yv, HA, IA, rA, a, hDA, hpre, nx⟩ => ?_
        exact pa _ σ8 HA sA _ D a yv z _ IA rA hDA hpre fun a' s' hp I' => close I' (nx a' hp)
  exact codeAny_compStart_set loop (T.self X.A 0 _ _ _ stc loop)
theorem pe_sg {elt tg iter : Expr} {ifs : List Expr} {scope : Scope} {own : List (PySem.Str × Nat)} {pos : Pos} {wi : TI} {g : TG} {tt : TT} {te : TE} (hc : X.calm = true) (hN : X.N.Nodup)
    (hnew : NewR X.prog X.w ent a0) (hi : PI X tg iter wi) (ok : BlkOk X.N X.env.scope scope own)
    (hadd : ∀ (s : Shared) (H : Hp) (C : Addr) (cl : List (PySem.Str × Addr)) (fp : List Addr), AddR (X.blk s H scope (compEnvC scope cl C X.env) fp) ent pre post)
    (hg : ∀ (s : Shared) (H : Hp) (C : Addr) (cl : List (PySem.Str × Addr)) (fp : List Addr), PG (X.blk s H scope (compEnvC scope cl C X.env) fp) tg g)
    (ht : ∀ (s : Shared) (H : Hp) (C : Addr) (cl : List (PySem.Str × Addr)) (fp : List Addr), PTs (X.blk s H scope (compEnvC scope cl C X.env) fp) ifs tt)
    (he : ∀ (s : Shared) (H : Hp) (C : Addr) (cl : List (PySem.Str × Addr)) (fp : List Addr), PE (X.blk s H scope (compEnvC scope cl C X.env) fp) elt te)
    (hs : ∀ x, foldedSetIterable iter X.env x = pure x := by intro _; rfl) : PE X (.SetComp elt [⟨tg, iter, ifs, 0⟩] scope pos) (tSg ent a0 pre post wi g tt te (own.map (·.2))) := by
  refine ⟨fun pins s σ H Q I h => ?_⟩
  rw [eval_SetComp]
  refine sg_core hc hN I hnew hi ok hadd hg ht he hs h fun D C sE m HE IE over hn f => ⟨m, hn, fun h'' gone => ?_⟩
  obtain ⟨f0, f1, f2, f3, f4, f5⟩ := f
  exact ⟨.ref D, HE, IE.turned (t' := sE.toks) (fun b o hb e => (gone.2 b hb).trans e) f0 f1 f3 f4 f5, rfl, over⟩
end
/-! ### of whole numbers, of tuples of them -/
def entI (w : World) (D : Addr) (a : (Int → Bool) × Nat) : HO := SetO w D a.1 a.2
def postI (_ : Hp) (a : (Int → Bool) × Nat) (y : V) (a' : (Int → Bool) × Nat) : Prop := ∃ i, y = .int i ∧ a' = (fun j => a.1 j || decide (j = i), if a.1 i = true then a.2 else a.2 + 1)
theorem newI (P : Program) (w : World) : NewR P w (entI w) (fun _ => false, 0) := fun H h => by
  have r : SetR w (h.push (emptyS w)) h.objs.size (fun _ => false) 0 := by
    have := setR_fresh (h := h) w
    exact this
  exact setO_new r
theorem addI (X : Cx) : AddR X (entI X.w) (fun _ a y => (∃ i, y = .int i) ∧ a.2 + 1 < scanBound) postI := fun pins σ H s E D a y u Q I ry hD hpre h => by
  obtain ⟨⟨i, rfl⟩, room⟩ := hpre
  obtain ⟨tk, rfl⟩ := ry
  refine setR_add (setO_get I hD) room fun hp sb new => ?_
  have there : ∃ o, hp.get? D = some o := by
    have ⟨o, _, _, _, ho, _⟩ := new
    exact ⟨o, ho⟩
  exact h (_, _) _ ⟨i, rfl, rfl⟩ (I.write (e := D) (t' := s.toks + 1) (by rw [hD]; trivial) (.inl rfl) (fun b o hb e => (sb.2 b hb).trans e) there (setO_new new))
end Z
namespace Z
open PySem PySem.Spec PyProof.Rows L2 PpSet
/-! ### a set by comprehension, two fors -/
section
variable {prog : Program} {w : World} {A : Around} {R : Result → Shared → Prop} {s : Shared} {en : PySem.Env} {elt t0 t1 i0 i1 : Expr} {q0 q1 : List Expr} {scope : Scope} {pos : Pos} {it acc : Value}
theorem turnS2_in : compTurn (.SetComp elt [⟨t0, i0, q0, 0⟩, ⟨t1, i1, q1, 0⟩] scope pos) 1 it acc en = (do
      standAt i1.pos
      match ← pyNext it with
      | none => pure (.done .next)
      | some v =>
        letOwnedTupleGo t1 it v
        assign t1 en v
        let mut ok := true
        for c in q1 do
          if ok then ok ← isTrue c en (eval c en)
        if ok then
          (do let v ← eval elt en; standAt elt.pos; let _ ← call (.builtin "set.add") [acc, v])
        again (.compLoop (.SetComp elt [⟨t0, i0, q0, 0⟩, ⟨t1, i1, q1, 0⟩] scope pos) 1 it acc en)) := by rfl
theorem turnS2_out : compTurn (.SetComp elt [⟨t0, i0, q0, 0⟩, ⟨t1, i1, q1, 0⟩] scope pos) 0 it acc en = (do
      standAt i0.pos
      match ← pyNext it with
      | none => pure (.done .next)
      | some v =>
        letOwnedTupleGo t0 it v
        assign t0 en v
        let mut ok := true
        for c in q0 do
          if ok then ok ← isTrue c en (eval c en)
        if ok then
          let x ← eval i1 en
          standAt i1.pos
          let x ← foldedSetIterable i1 en x
          let _ ← runOwn (.compStart (.SetComp elt [⟨t0, i0, q0, 0⟩, ⟨t1, i1, q1, 0⟩] scope pos) 1 (← holding [x] (pyIter x)) acc en) en
        again (.compLoop (.SetComp elt [⟨t0, i0, q0, 0⟩, ⟨t1, i1, q1, 0⟩] scope pos) 0 it acc en)) := by rfl
abbrev nbS (prog : Program) (w : World) (A : Around) (R : Result → Shared → Prop) (en : PySem.Env) : Value → Shared → Prop := notedBy (model prog w) A en fun e z => R (.error e) z
abbrev testsS (qs : List Expr) (en : PySem.Env) : Sem Bool := forIn qs true fun c r => if r = true then do let ok ← isTrue c en (eval c en); pure (ForInStep.yield ok) else pure (ForInStep.yield r)
theorem loopS2_out (hs : ∀ x, foldedSetIterable i1 en x = pure x) (I : Nat → Shared → Prop)
    (turn : ∀ n s, I n s → wpAny (model prog w) A (pyNext it) (fun r a1 => match r with
      | none => R (.ok .next) a1
      | some v => wpAny (model prog w) A (letOwnedTupleGo t0 it v) (fun _ a2 => wpAny (model prog w) A (assign t0 en v) (fun _ a3 => wpAny (model prog w) A (testsS q0 en) (fun ok a4 =>
            if ok = true then wpAny (model prog w) A (eval i1 en) (fun x a5 => wpAny (model prog w) A (pyIter x) (fun j a6 =>
              codeAny (model prog w) A (.compStart (.SetComp elt [⟨t0, i0, q0, 0⟩, ⟨t1, i1, q1, 0⟩] scope pos) 1 j acc en) (fun r z => match r with
                | .ok _ => ∃ m, m < n ∧ I m z
                | .error _ => False) a6) (nbS prog w A R en) a5) (nbS prog w A R en) a4
            else ∃ m, m < n ∧ I m a4) (nbS prog w A R en) a3) (nbS prog w A R en) a2) (nbS prog w A R en) a1) (nbS prog w A R en) s)
    (n : Nat) (h : I n s) : codeAny (model prog w) A (.compLoop (.SetComp elt [⟨t0, i0, q0, 0⟩, ⟨t1, i1, q1, 0⟩] scope pos) 0 it acc en) R s := by
  refine codeAny_loop rfl I (fun n s hI => ?_) n h
  show wpAny _ A ((compTurn (.SetComp elt [⟨t0, i0, q0, 0⟩, ⟨t1, i1, q1, 0⟩] scope pos) 0 it acc en).onRaise (fun x => do noteFrame x en; theTreesLotGoes x)) _ _ s
  refine wpAny_noted ?_
  rw [turnS2_out]
  refine wpAny_bind (wpAny_standAt (wpAny_bind (wpAny_mono (turn n s hI) (fun r a1 b1 => ?_) fun _ _ z => z)))
  cases r with
  | none => exact wpAny_pure b1
  | some v =>
    refine wpAny_bind (wpAny_mono b1 (fun _ a2 b2 => ?_) fun _ _ z => z)
    refine wpAny_bind (wpAny_mono b2 (fun _ a3 b3 => wpAny_bind (wpAny_mono b3 (fun ok a4 b4 => ?_) fun _ _ z => z)) fun _ _ z => z)
    cases ok with
    | false => exact wpAny_pure ⟨rfl, b4⟩
    | true =>
      refine wpAny_bind (wpAny_mono b4 (fun x a5 b5 => ?_) fun _ _ z => z)
      refine wpAny_bind (wpAny_standAt (wpAny_bind (wpAny_of_eq (hs x) (wpAny_bind (wpAny_holding (wpAny_mono b5 (fun j a6 b6 => ?_) fun _ _ z => z))))))
      refine wpAny_bind (wpAny_runOwn ?_)
      rw [Around.mark_none]
      refine codeAny_mono b6 fun r z hr => ?_
      cases r with
      | ok f => first | exact wpAny_pure ⟨rfl, hr⟩ | exact wpAny_bind (wpAny_pure (wpAny_pure ⟨rfl, hr⟩))
      | error e => exact hr.elim
theorem loopS2_in (I : Nat → Shared → Prop)
    (turn : ∀ n s, I n s → wpAny (model prog w) A (pyNext it) (fun r a1 => match r with
      | none => R (.ok .next) a1
      | some v => wpAny (model prog w) A (letOwnedTupleGo t1 it v) (fun _ a2 => wpAny (model prog w) A (assign t1 en v) (fun _ a3 => wpAny (model prog w) A (testsS q1 en) (fun ok a4 =>
            if ok = true then wpAny (model prog w) A (eval elt en) (fun x a5 => wpAny (model prog w) A (call (.builtin "set.add") [acc, x]) (fun _ a6 => ∃ m, m < n ∧ I m a6) (nbS prog w A R en) a5) (nbS prog w A R en) a4
            else ∃ m, m < n ∧ I m a4) (nbS prog w A R en) a3) (nbS prog w A R en) a2) (nbS prog w A R en) a1) (nbS prog w A R en) s)
    (n : Nat) (h : I n s) : codeAny (model prog w) A (.compLoop (.SetComp elt [⟨t0, i0, q0, 0⟩, ⟨t1, i1, q1, 0⟩] scope pos) 1 it acc en) R s := by
  refine codeAny_loop rfl I (fun n s hI => ?_) n h
  show wpAny _ A ((compTurn (.SetComp elt [⟨t0, i0, q0, 0⟩, ⟨t1, i1, q1, 0⟩] scope pos) 1 it acc en).onRaise (fun x => do noteFrame x en; theTreesLotGoes x)) _ _ s
  refine wpAny_noted ?_
  rw [turnS2_in]
  refine wpAny_bind (wpAny_standAt (wpAny_bind (wpAny_mono (turn n s hI) (fun r a1 b1 => ?_) fun _ _ z => z)))
  cases r with
  | none => exact wpAny_pure b1
  | some v =>
    refine wpAny_bind (wpAny_mono b1 (fun _ a2 b2 => ?_) fun _ _ z => z)
    refine wpAny_bind (wpAny_mono b2 (fun _ a3 b3 => wpAny_bind (wpAny_mono b3 (fun ok a4 b4 => ?_) fun _ _ z => z)) fun _ _ z => z)
    cases ok with
    | false => exact wpAny_pure ⟨rfl, b4⟩
    | true =>
      exact wpAny_bind (wpAny_bind (wpAny_mono b4 (fun x a5 b5 => wpAny_bind (wpAny_standAt (wpAny_bind (wpAny_mono b5 (fun _ a6 b6 => wpAny_pure (wpAny_pure ⟨rfl, b6⟩)) fun _ _ z => z)))) fun _ _ z => z))
theorem startS2 (h0 : codeAny (model prog w) A (.compLoop (.SetComp elt [⟨t0, i0, q0, 0⟩, ⟨t1, i1, q1, 0⟩] scope pos) 1 it acc en) R s)
    (h : wpAny (model prog w) A (pyIter it) (fun j z => codeAny (model prog w) A (.compLoop (.SetComp elt [⟨t0, i0, q0, 0⟩, ⟨t1, i1, q1, 0⟩] scope pos) 1 j acc en) R z) (nbS prog w A R en) s) :
    codeAny (model prog w) A (.compStart (.SetComp elt [⟨t0, i0, q0, 0⟩, ⟨t1, i1, q1, 0⟩] scope pos) 1 it acc en) R s := by
  refine codeAny_of_tree ?_
  show wpAny _ _ ((compStart (.SetComp elt [⟨t0, i0, q0, 0⟩, ⟨t1, i1, q1, 0⟩] scope pos) 1 it acc en).onRaise (fun x => do noteFrame x en; standAt theWindowsPlace)) _ _ s
  refine wpAny_notedAt ?_
  unfold compStart
  show wpAny _ _ (ask >>= _) _ _ s
  refine wpAny_bind (wpAny_askSetting (wpAny_ite ?_))
  split
  · first | exact wpAny_bind (wpAny_pure (wpAny_pure (And.intro rfl h0))) | exact wpAny_pure (And.intro rfl h0)
  · first
      | exact wpAny_bind (wpAny_rule (wpAny_bind (wpAny_standAt (wpAny_bind (wpAny_mono h (fun j z q => wpAny_pure (And.intro rfl q)) fun _ _ x => x)))))
      | (refine wpAny_bind (wpAny_rule ?_); show wpAny _ _ (standAt i1.pos >>= _) _ _ s; exact wpAny_bind (wpAny_standAt (wpAny_bind (wpAny_mono h (fun j z q => wpAny_pure (And.intro rfl q)) fun _ _ x => x))))
end
section
variable {α : Type}
def tSg2 (ent : Addr → α → HO) (a0 : α) (pre : Hp → α → V → Prop) (post : Hp → α → V → α → Prop) (wi : TI) (g : TG) (tt : TT) (wi1 : TI) (g1 : TG) (tt1 : TT) (te : TE) (vs vs1 : List Nat) : TE := fun σ H Q => wi σ H fun J Ha => ∀ D, Ha D = none →
  ∃ W : Nat → Nat → Hp → Prop, (∃ m, W 0 m (L2.upd Ha D (ent D a0))) ∧ ∀ i m Hb, W i m Hb → (J.stop i Hb ∧ Q (.ref D) Hb) ∨
    (J.go i Hb ∧ ∃ Nx : Hp → Prop, (∀ Hc, Nx Hc → ∃ m', m' < m ∧ W (i + 1) m' Hc) ∧ ∀ x Hc, J.yld i Hb x Hc → g x (wipe σ vs) Hc fun σd Hd => wipe σd vs = wipe σ vs ∧ tt σd Hd fun b He =>
      if b = true then wi1 σd He fun J1 Hf => ∃ W1 : Nat → Nat → Hp → Prop, (∃ m, W1 0 m Hf) ∧ ∀ j k Hg, W1 j k Hg → (J1.stop j Hg ∧ Nx Hg) ∨
        (J1.go j Hg ∧ ∃ Nx1 : Hp → Prop, (∀ Hh, Nx1 Hh → ∃ k', k' < k ∧ W1 (j + 1) k' Hh) ∧ ∀ x Hh, J1.yld j Hg x Hh → g1 x (wipe σd vs1) Hh fun σe Hi => wipe σe vs1 = wipe σd vs1 ∧ tt1 σe Hi fun b Hj =>
          if b = true then te σe Hj fun y Hk => ∃ a, Hk D = some (ent D a) ∧ pre Hk a y ∧ ∀ a', post Hk a y a' → Nx1 (L2.upd Hk D (ent D a')) else Nx1 Hj)
      else Nx He)
end
section
variable {X : Cx} {α : Type} {ent : Addr → α → HO} {a0 : α} {pre : Hp → α → V → Prop} {post : Hp → α → V → α → Prop}
/-- what is asked within the block -/
def InBlk (X : Cx) (scope : Scope) (T : Cx → Prop) : Prop := ∀ (s : Shared) (H : Hp) (C : Addr) (cl : List (PySem.Str × Addr)) (fp : List Addr), T (X.blk s H scope (compEnvC scope cl C X.env) fp)
theorem sg2_core {pins : List (Addr × Obj)} {s : Shared} {σ : L2.St} {H : Hp} {Q : VK} {elt tg iter tg1 iter1 : Expr} {ifs ifs1 : List Expr} {scope : Scope} {own : List (PySem.Str × Nat)} {vs1 : List Nat} {pos pos' : Pos} {wi wi1 : TI} {g g1 : TG} {tt tt1 : TT} {te : TE} {use : Option (Value → Sem Unit)} {Qf : Value → Shared → Prop}
    (hc : X.calm = true) (hN : X.N.Nodup) (I : Inv X pins σ H s) (hnew : NewR X.prog X.w ent a0) (hi : PI X tg iter wi) (ok : BlkOk X.N X.env.scope scope own) (hv : ∀ i ∈ vs1, i ∈ own.map (·.2))
    (hadd : InBlk X scope fun Y => AddR Y ent pre post) (hg : InBlk X scope fun Y => PG Y tg g) (ht : InBlk X scope fun Y => PTs Y ifs tt) (hi1 : InBlk X scope fun Y => PI Y tg1 iter1 wi1) (hg1 : InBlk X scope fun Y => PG Y tg1 g1) (ht1 : InBlk X scope fun Y => PTs Y ifs1 tt1) (he : InBlk X scope fun Y => PE Y elt te)
    (hs : ∀ x, foldedSetIterable iter X.env x = pure x) (hs1 : ∀ env x, foldedSetIterable iter1 env x = pure x) (h : tSg2 ent a0 pre post wi g tt wi1 g1 tt1 te (own.map (·.2)) vs1 σ H Q)
    (fin : ∀ D C sE m HE, Inv X pins σ HE sE → Q (.ref D) HE → sE.heap.Ns C m → FpOk X pins HE C → compPost (model X.prog X.w) X.A X.xe use Qf (.ref D) C (.ok .next) sE) :
    wpAny (model X.prog X.w) X.A (comprehension (.SetComp elt [⟨tg, iter, ifs, 0⟩, ⟨tg1, iter1, ifs1, 0⟩] scope pos) scope X.env pos' (newSet (.type "set")) false (eval iter X.env) use) Qf X.xe s := by
  have caught : ∀ y ∈ scope.names, y.2 = .free → ∃ c, X.env.cells.lookup y.1 = some c := fun y hy e =>
    (ok.free y hy e).elim (fun k => I.ok.has _ (.inl k)) fun k => I.ok.has _ (.inr k)
  refine wpAny_comprehension_free (use := use) rfl hs (closure_ok caught) ok.kind (fun y hy e => by rw [ok.uniq y hy, e]) (thn (hi.run pins s σ H _ I h) fun xv t1 hx =>
    thn hx fun itv t2 hx2 => ?_)
  obtain ⟨it, fp, tn, J, Ha, rfl, Ia, T, sta, fa, q⟩ := hx2
  refine newSet_ok (newEnv_comp ?_)
  generalize hD : t2.heap.objs.size = D
  have freeD : Ha D = none := Ia.hok.fresh (Nat.le_of_eq hD)
  obtain ⟨W, ⟨m0, w0⟩, turn⟩ := q D freeD
  generalize hsb : ({ t2 with heap := t2.heap.push (emptyS X.w) } : Shared) = sb
  have Ib : Inv X pins σ (L2.upd Ha D (ent D a0)) sb := by
    rw [← hsb]
    refine Ia.laid (t' := t2.toks) (fun b o e => Heap.get?_push_of_some _ e) (Nat.le_of_eq hD) ?_
    rw [← hD]
    exact hnew _ t2.heap
  have heb : sb.heap = t2.heap.push (emptyS X.w) := by rw [← hsb]
  have lowfp : ∀ b ∈ fp, b < t2.heap.objs.size := fun b hb => by
    have ⟨o, e, _⟩ := T.obj _ _ sta b hb
    exact Heap.lt_size e
  have fb : ∀ b ∈ fp, FpOk X pins (L2.upd Ha D (ent D a0)) b ∧ b < sb.heap.objs.size := fun b hb => by
    have lt := lowfp b hb
    refine ⟨⟨?_, (fa b hb).2⟩, by rw [heb, Heap.size_push]; exact Nat.lt_succ_of_lt lt⟩
    rw [L2.upd_ne (by rw [← hD]; exact Nat.ne_of_lt lt)]
    exact (fa b hb).1
  have stb : tn 0 sb.heap := T.keep _ _ _ sta fun b _ o e => by rw [heb]; exact Heap.get?_push_of_some _ e
  have Ic := block_start Ib ok hN fb
  generalize hcl : cellsFrom (sb.heap.objs.size + 1) scope.names (cloFrom X.env.cells scope.names []) = cl at Ic ⊢
  have pa := hadd sb (L2.upd Ha D (ent D a0)) sb.heap.objs.size cl fp
  have pg := hg sb (L2.upd Ha D (ent D a0)) sb.heap.objs.size cl fp
  have pt := ht sb (L2.upd Ha D (ent D a0)) sb.heap.objs.size cl fp
  have pi1 := hi1 sb (L2.upd Ha D (ent D a0)) sb.heap.objs.size cl fp
  have pg1 := hg1 sb (L2.upd Ha D (ent D a0)) sb.heap.objs.size cl fp
  have pt1 := ht1 sb (L2.upd Ha D (ent D a0)) sb.heap.objs.size cl fp
  have pe := he sb (L2.upd Ha D (ent D a0)) sb.heap.objs.size cl fp
  have nofp : ∀ b ∈ fp, (L2.upd Ha D (ent D a0)) b = none := fun b hb => (fb b hb).1.1
  rw [show ({ t2 with heap := t2.heap.push { cls := .type "set", dict := none, data := .set #[] 0 (.fresh 0 0 (!X.w.params.followText "set-order")) } } : Shared) = sb from hsb, hcl]
  show codeAny (model X.prog X.w) X.A (.compStart (.SetComp elt [⟨tg, iter, ifs, 0⟩, ⟨tg1, iter1, ifs1, 0⟩] scope pos) 0 (.ref it) (.ref D) (compEnvC scope cl sb.heap.objs.size X.env))
    (compPost (model X.prog X.w) X.A X.xe use Qf (.ref D) sb.heap.objs.size) { sb with heap := pushCells (sb.heap.push { cls := .type "dict", data := .dict #[] }) scope.names }
  generalize hce : compEnvC scope cl sb.heap.objs.size X.env = ce at Ic pa pg pt pi1 pg1 pt1 pe ⊢
  have cL : ce.locals = sb.heap.objs.size := by subst hce; rfl
  generalize hHb : L2.upd Ha D (ent D a0) = Hb at Ib Ic pa pg pt pi1 pg1 pt1 pe w0 nofp fb
  generalize hsc : ({ sb with heap := pushCells (sb.heap.push { cls := .type "dict", data := .dict #[] }) scope.names } : Shared) = sc at Ic ⊢
  have stc : tn 0 sc.heap := T.keep _ _ _ stb fun b _ o e => by rw [← hsc]; exact pushCells_keeps _ _ _ _ (Heap.get?_push_of_some _ e)
  have stat : ∀ {σ' : L2.St} {H' : Hp} {s' : Shared}, Inv (X.blk sb Hb scope ce fp) [] σ' H' s' → (∀ b ∈ fp, H' b = none) →
      ∀ b ∈ fp, FpOk (X.blk sb Hb scope ce fp) [] H' b := fun {σ' H' s'} I' hn b hb =>
    ⟨hn b hb, (I'.ok.exf b hb).1, I'.ok.exfs b hb, .inl hb, fun x c e => (I'.ok.exf b hb).2 x c e, fun p hp => by cases hp⟩
  have loop : codeAny (model X.prog X.w) X.A (.compLoop (.SetComp elt [⟨tg, iter, ifs, 0⟩, ⟨tg1, iter1, ifs1, 0⟩] scope pos) 0 (.ref it) (.ref D) ce) (compPost (model X.prog X.w) X.A X.xe use Qf (.ref D) sb.heap.objs.size) sc := by
    refine loopS2_out (hs1 ce) (fun k sk => ∃ i Hk, Inv (X.blk sb Hb scope ce fp) [] (wipe σ (own.map (·.2))) Hk sk ∧ tn i sk.heap ∧ (∀ b ∈ fp, Hk b = none) ∧ W i k Hk) ?_ m0 ⟨0, Hb, Ic, stc, nofp, w0⟩
    rintro k sk ⟨i, Hk, Ik, stk, nk, wk⟩
    rcases turn i k Hk wk with ⟨stop, over⟩ | ⟨go, Nx, hNx, step⟩
    · refine thnF (T.done (X.blk sb Hb scope ce fp) rfl rfl rfl hc i [] sk _ Hk (fun _ _ => False) Ik (stat Ik nk) stk stop) fun r sE ⟨hr, IE⟩ => ?_
      subst hr
      have IX : Inv X pins σ Hk sE := Ib.call' (ch := fp) IE.os IE.base IE.hok IE.bare fun b hb => by
        have z := (fb b hb).1.2
        exact ⟨z.2.2.1, z.1, z.2.2.2.1, z.2.2.2.2⟩
      have nC : Hk sb.heap.objs.size = none := by
        have z : Hk ce.locals = none := IE.free
        rwa [cL] at z
      obtain ⟨m, hn, _⟩ := IE.loc
      have hn' : sE.heap.Ns ce.locals m := hn
      rw [cL] at hn'
      exact fin D sb.heap.objs.size sE m Hk IX over hn' (Ib.fpOk (Nat.le_refl _) nC)
    · refine thnF (T.item (X.blk sb Hb scope ce fp) rfl rfl rfl hc i [] sk _ Hk (fun _ _ => False) Ik (stat Ik nk) stk go) fun r s6 ⟨u, hr, h6⟩ => ?_
      subst hr
      refine thnF h6 fun _ s7 ⟨x, H7, I7, rx, yx, stx, nx7⟩ => ?_
      refine thnF (pg.run _ s7 _ H7 x u _ (I7.pinned (stat I7 nx7) (T.obj _ _ stx)) rx (step x H7 yx)) fun _ s8 ⟨σ8, H8, I8, hw8, q8⟩ => ?_
      refine thnF (pt.run _ s8 σ8 H8 _ I8 q8) fun b s9 ⟨H9, I9, q9⟩ => ?_
      have close : ∀ {σz : L2.St} {sz : Shared} {Hz : Hp}, Inv (X.blk sb Hb scope ce fp) ([] ++ pinsAt fp s7.heap) σz Hz sz → (wipe σ (own.map (·.2))).length = σz.length → (∀ (j : Nat) v, (wipe σ (own.map (·.2)))[j]? = some (some v) → σz[j]? = some (some v)) → Nx Hz →
          ∃ m, m < k ∧ ∃ i Hk, Inv (X.blk sb Hb scope ce fp) [] (wipe σ (own.map (·.2))) Hk sz ∧ tn i sz.heap ∧ (∀ b ∈ fp, Hk b = none) ∧ W i m Hk := fun {σz sz Hz} Iz len kn nz => by
        obtain ⟨m', hm, w'⟩ := hNx Hz nz
        have held : ∀ b ∈ fp, ∀ o, s7.heap.get? b = some o → sz.heap.get? b = some o ∧ Hz b = none := fun b hb o e => by
          have z := Iz.pin (b, o) (List.mem_append_right _ (List.mem_append_right _ (mem_pinsAt hb e)))
          exact ⟨z.1, z.2.1⟩
        refine ⟨m', hm, i + 1, Hz, (Iz.unpinned (pins := [])).weak len kn, T.keep _ _ _ stx (fun b hb o e => (held b hb o e).1), fun b hb => ?_, w'⟩
        have ⟨o, e, _⟩ := T.obj _ _ stx b hb
        exact (held b hb o e).2
      have len8 : (wipe σ (own.map (·.2))).length = σ8.length := by rw [← hw8, wipe_length]
      have kn8 : ∀ (j : Nat) v, (wipe σ (own.map (·.2)))[j]? = some (some v) → σ8[j]? = some (some v) := fun j v e => by
        rw [← hw8] at e
        exact (wipe_some e).1
      have kn9 : ∀ (j : Nat) v, (wipe σ (own.map (·.2)))[j]? = some (some v) → (wipe σ8 vs1)[j]? = some (some v) := fun j v e => by
        rw [← hw8] at e
        have ⟨e1, e2⟩ := wipe_some e
        rw [wipe_out fun z => e2 (hv j z)]
        exact e1
      cases b with
      | false =>
        simp only [Bool.false_eq_true, if_false] at q9 ⊢
        exact close I9 len8 kn8 q9
      | true =>
        simp only [if_true] at q9 ⊢
        refine thnF (pi1.run _ s9 σ8 H9 _ I9 q9) fun xw sA hA => thnF hA fun itw sB hB => ?_
        obtain ⟨it1, fp1, tn1, J1, HB, rfl, IB, T1, stB, fB, W1, ⟨m1, w1⟩, turn1⟩ := hB
        have stat1 : ∀ {H' : Hp}, (∀ b ∈ fp1, H' b = none) → ∀ b ∈ fp1, FpOk (X.blk sb Hb scope ce fp) ([] ++ pinsAt fp s7.heap) H' b := fun hn b hb => ⟨hn b hb, (fB b hb).2⟩
        have inner : codeAny (model X.prog X.w) X.A (.compLoop (.SetComp elt [⟨tg, iter, ifs, 0⟩, ⟨tg1, iter1, ifs1, 0⟩] scope pos) 1 (.ref it1) (.ref D) ce)
            (fun r z => match r with
              | .ok _ => ∃ m, m < k ∧ ∃ i Hk, Inv (X.blk sb Hb scope ce fp) [] (wipe σ (own.map (·.2))) Hk z ∧ tn i z.heap ∧ (∀ b ∈ fp, Hk b = none) ∧ W i m Hk
              | .error _ => False) sB := by
          refine loopS2_in (fun k1 z => ∃ j Hz, Inv (X.blk sb Hb scope ce fp) ([] ++ pinsAt fp s7.heap) (wipe σ8 vs1) Hz z ∧ tn1 j z.heap ∧ (∀ b ∈ fp1, Hz b = none) ∧ W1 j k1 Hz) ?_ m1 ⟨0, HB, IB.weak (wipe_length _ _) (fun j v e => (wipe_some e).1), stB, fun b hb => (fB b hb).1, w1⟩
          rintro k1 sC ⟨j, HC, IC, stC, nC, wC⟩
          rcases turn1 j k1 HC wC with ⟨stop1, over1⟩ | ⟨go1, Nx1, hNx1, step1⟩
          · refine thnF (T1.done (X.blk sb Hb scope ce fp) rfl rfl rfl hc j _ sC (wipe σ8 vs1) HC (fun _ _ => False) IC (stat1 nC) stC stop1) fun r sD ⟨hr, ID⟩ => ?_
            subst hr
            exact close ID (len8.trans (wipe_length σ8 vs1).symm) kn9 over1
          · refine thnF (T1.item (X.blk sb Hb scope ce fp) rfl rfl rfl hc j _ sC (wipe σ8 vs1) HC (fun _ _ => False) IC (stat1 nC) stC go1) fun r sD ⟨u1, hr, hD1⟩ => ?_
            subst hr
            refine thnF hD1 fun _ sE ⟨x1, HE, IE, rE, yE, stE, nE⟩ => ?_
            refine thnF (pg1.run _ sE (wipe σ8 vs1) HE x1 u1 _ (IE.pinned (stat1 nE) (T1.obj _ _ stE)) rE (step1 x1 HE yE)) fun _ sF ⟨σF, HF, IF, hwF, qF⟩ => ?_
            refine thnF (pt1.run _ sF σF HF _ IF qF) fun b1 sG ⟨HG, IG, qG⟩ => ?_
            have close1 : ∀ {z : Shared} {Hz : Hp}, Inv (X.blk sb Hb scope ce fp) (([] ++ pinsAt fp s7.heap) ++ pinsAt fp1 sE.heap) σF Hz z → Nx1 Hz → ∃ m, m < k1 ∧ ∃ j Hz, Inv (X.blk sb Hb scope ce fp) ([] ++ pinsAt fp s7.heap) (wipe σ8 vs1) Hz z ∧ tn1 j z.heap ∧ (∀ b ∈ fp1, Hz b = none) ∧ W1 j m Hz := fun {z Hz} Iz nz => by
              obtain ⟨m', hm, w'⟩ := hNx1 Hz nz
              have held : ∀ b ∈ fp1, ∀ o, sE.heap.get? b = some o → z.heap.get? b = some o ∧ Hz b = none := fun b hb o e => by
                have t := Iz.pin (b, o) (List.mem_append_right _ (List.mem_append_right _ (mem_pinsAt hb e)))
                exact ⟨t.1, t.2.1⟩
              refine ⟨m', hm, j + 1, Hz, Iz.unpinned.weak (by rw [← hwF, wipe_length]) (fun j v e => by rw [← hwF] at e; exact (wipe_some e).1), T1.keep _ _ _ stE (fun b hb o e => (held b hb o e).1), fun b hb => ?_, w'⟩
              have ⟨o, e, _⟩ := T1.obj _ _ stE b hb
              exact (held b hb o e).2
            cases b1 with
            | false =>
              simp only [Bool.false_eq_true, if_false] at qG ⊢
              exact close1 IG qG
            | true =>
              simp only [if_true] at qG ⊢
              refine thnF (pe.run _ sG σF HG _ IG qG) fun z sH ⟨yv, HH, IH, rH, a, hDH, hpre, nx⟩ => ?_
              exact pa _ σF HH sH _ D a yv z _ IH rH hDH hpre fun a' s' hp I' => close1 I' (nx a' hp)
        exact startS2 inner (T1.self X.A 0 _ _ _ stB inner)
  exact codeAny_compStart_set loop (T.self X.A 0 _ _ _ stc loop)
theorem pe_sg2 {elt tg iter tg1 iter1 : Expr} {ifs ifs1 : List Expr} {scope : Scope} {own : List (PySem.Str × Nat)} {vs1 : List Nat} {pos : Pos} {wi wi1 : TI} {g g1 : TG} {tt tt1 : TT} {te : TE} (hc : X.calm = true) (hN : X.N.Nodup) (hnew : NewR X.prog X.w ent a0) (hi : PI X tg iter wi) (ok : BlkOk X.N X.env.scope scope own) (hv : ∀ i ∈ vs1, i ∈ own.map (·.2))
    (hadd : InBlk X scope fun Y => AddR Y ent pre post) (hg : InBlk X scope fun Y => PG Y tg g) (ht : InBlk X scope fun Y => PTs Y ifs tt) (hi1 : InBlk X scope fun Y => PI Y tg1 iter1 wi1) (hg1 : InBlk X scope fun Y => PG Y tg1 g1) (ht1 : InBlk X scope fun Y => PTs Y ifs1 tt1) (he : InBlk X scope fun Y => PE Y elt te)
    (hs : ∀ x, foldedSetIterable iter X.env x = pure x := by intro _; rfl) (hs1 : ∀ env x, foldedSetIterable iter1 env x = pure x := by intro _ _; rfl) : PE X (.SetComp elt [⟨tg, iter, ifs, 0⟩, ⟨tg1, iter1, ifs1, 0⟩] scope pos) (tSg2 ent a0 pre post wi g tt wi1 g1 tt1 te (own.map (·.2)) vs1) := by
  refine ⟨fun pins s σ H Q I h => ?_⟩
  rw [eval_SetComp]
  refine sg2_core hc hN I hnew hi ok hv hadd hg ht hi1 hg1 ht1 he hs hs1 h fun D C sE m HE IE over hn f => ⟨m, hn, fun h'' gone => ?_⟩
  obtain ⟨f0, f1, f2, f3, f4, f5⟩ := f
  exact ⟨.ref D, HE, IE.turned (t' := sE.toks) (fun b o hb e => (gone.2 b hb).trans e) f0 f1 f3 f4 f5, rfl, over⟩
end
end Z
namespace Z
open PySem PySem.Spec PyProof.Rows L2 PpSet
theorem JY.tr {K : PySem.W.Frag} {J : It} {m B m1 B1 : List Addr} {H H1 : Hp} {ds : List D} {chk : Sto → Prop} (j : JY K J m B H ds chk) (t : Tr m B H m1 B1 H1) : JY K J m1 B1 H1 ds chk :=
  ⟨fun i m' B' H' S t' => j.go i m' B' H' S (t.trans t'), fun i m' B' H' S x H2 d t' => j.yl i m' B' H' S x H2 d (t.trans t'), fun i m' B' H' S t' => j.st i m' B' H' S (t.trans t')⟩
/-- what a set by comprehension bears -/
structure Bear {α : Type} (K : PySem.W.Frag) (ent : Addr → α → HO) (a0 : α) (pre : Hp → α → V → Prop) (post : Hp → α → V → α → Prop) (lim : Nat) (gd : D → Bool) (be : List Addr → List Addr → Hp → α → List D → Prop) : Prop where
  nx : ∀ p a, NX (ent p a)
  zero : ∀ m B H, be m B H a0 []
  mono : ∀ {m B H m' B' H' a acc}, Tr m B H m' B' H' → be m B H a acc → be m' B' H' a acc
  add : ∀ {m B H a acc y v}, be m B H a acc → RD K m B H y v → gd y = true → acc.length < lim → pre H a v ∧ ∀ a', post H a v a' → be m B H a' (acc ++ [y])
section
variable {α : Type} {K : PySem.W.Frag} {ent : Addr → α → HO} {a0 : α} {pre : Hp → α → V → Prop} {post : Hp → α → V → α → Prop} {lim : Nat} {gd : D → Bool} {be : List Addr → List Addr → Hp → α → List D → Prop}
def KontS (K : PySem.W.Frag) (ent : Addr → α → HO) (lim : Nat) (gd : D → Bool) (be : List Addr → List Addr → Hp → α → List D → Prop) (mO : List Addr) (HO : Hp) (mi Bi : List Addr) (Hi : Hp) (Dl : Addr) (N : List Addr → Sto → Hp → α → List D → Prop) : R (List D) → Prop
  | .ok acc S' => acc.length ≤ lim ∧ (∀ y ∈ acc, gd y = true) ∧ ∀ m' H' a, Ge mO HO m' H' → Tr mi Bi Hi m' Bi H' → RS K m' Bi H' S' → H' Dl = some (ent Dl a) → be m' Bi H' a acc → N m' S' H' a acc
  | _ => False
variable {tg : Tg} {dt : DT} {de : DE} {vs : List Nat} {ρ : Env} {σ : L2.St} {J : It} {ds : List D} {chk : Sto → Prop} {mO mi B : List Addr} {HO Hi : Hp} {Si : Sto} {Dl : Addr} {acc : List D} {a : α} {Nx : Hp → Prop}
theorem sg_inner (bear : Bear K ent a0 pre post lim gd be) (hD : HO Dl = none) (gO : Ge mO HO mi Hi) (rs : RS K mi (Dl :: B) Hi Si) (e : REs K mi (Dl :: B) Hi ρ σ) (hc : chk Si) (jy : JY K J mi (Dl :: B) Hi ds chk) (hix : ∀ i ∈ tg.ix, i ∈ vs) (hl0 : Hi Dl = some (ent Dl a)) (ra0 : be mi (Dl :: B) Hi a acc)
    (p : KontS K ent lim gd be mO HO mi (Dl :: B) Hi Dl (fun _ _ H' _ _ => Nx H') ((lcI tg chk dt de (wipeD ρ vs) ds Si).bind fun ys S' => .ok (acc ++ ys) S')) : ∃ W1 : Nat → Nat → Hp → Prop, (∃ m, W1 0 m Hi) ∧ ∀ j k H, W1 j k H →
      (J.stop j H ∧ Nx H) ∨ (J.go j H ∧ ∃ Nx1 : Hp → Prop, (∀ H', Nx1 H' → ∃ k', k' < k ∧ W1 (j + 1) k' H') ∧ ∀ x H', J.yld j H x H' → gT K tg x (wipe σ vs) H' fun σ3 H5 => wipe σ3 vs = wipe σ vs ∧ tTe WF K dt σ3 H5 fun b H6 =>
        if b = true then tE WF K de σ3 H6 fun y H7 => ∃ a, H7 Dl = some (ent Dl a) ∧ pre H7 a y ∧ ∀ a', post H7 a y a' → Nx1 (L2.upd H7 Dl (ent Dl a')) else Nx1 H6) := by
  let St := fun (i : Nat) (H : Hp) => i ≤ ds.length ∧ ∃ m S acc a, Ge mO HO m H ∧ Tr mi (Dl :: B) Hi m (Dl :: B) H ∧ RS K m (Dl :: B) H S ∧ chk S ∧ H Dl = some (ent Dl a) ∧ be m (Dl :: B) H a acc ∧
    KontS K ent lim gd be mO HO mi (Dl :: B) Hi Dl (fun _ _ H' _ _ => Nx H') ((lcI tg chk dt de (wipeD ρ vs) (ds.drop i) S).bind fun ys S' => .ok (acc ++ ys) S')
  refine ⟨fun i k H => k = ds.length - i ∧ St i H, ⟨_, rfl, Nat.zero_le _, mi, Si, acc, a, gO, .refl, rs, hc, hl0, ra0, p⟩, ?_⟩
  rintro i k H ⟨rfl, hi, m, S, acc, a, g, tr, r, hch, hl, ra, p2⟩
  by_cases hlt : i < ds.length
  · refine .inr ⟨jy.go i m (Dl :: B) H S tr r hch hlt, St (i + 1), fun H' h => ⟨ds.length - (i + 1), by omega, rfl, h⟩, fun x H3 y => ?_⟩
    obtain ⟨ext, rx⟩ := jy.yl i m (Dl :: B) H S x H3 ds[i] tr r hch (by simp [hlt]) y
    obtain ⟨g3, r3⟩ := r.ext ext
    rw [List.drop_eq_getElem_cons hlt] at p2
    unfold lcI at p2
    have ew : REs K m (Dl :: B) H3 (wipeD ρ vs) (wipe σ vs) := (e.mono (tr.trans g3.tr)).wipe vs
    cases ha : Tg.asg S tg ds[i] (wipeD ρ vs) with
    | none => rw [ha] at p2; exact (show False from p2).elim
    | some ρ1 =>
      rw [ha] at p2
      simp only at p2
      refine ⟨m, Dl :: B, S, _, wipeD ρ vs, ρ1, r3, rx, ew, ha, fun σ2 e2 sam => ⟨by rw [sam vs hix, wipe_wipe], m, Dl :: B, ρ1, S, r3, e2, ?_⟩⟩
      cases ht : dt ρ1 S with
      | exc _ _ _ => rw [ht] at p2; exact (show False from p2).elim
      | bad => rw [ht] at p2; exact (show False from p2).elim
      | ok b S1 =>
        rw [ht] at p2
        simp only [R.safe_ok, R.bind_ok] at p2
        refine fun m4 H4 g4 r4 => ?_
        have nt : NT (ent Dl a) := (bear.nx Dl a).1
        have hl4 : H4 Dl = some (ent Dl a) := (g4.keep Dl _ (fun q => r3.dis Dl q (List.mem_cons_self ..)) (ext _ _ hl) nt).2
        have ra4 := bear.mono (g3.tr.trans g4.tr) ra
        cases b with
        | false =>
          rw [if_neg Bool.false_ne_true] at p2
          show St (i + 1) H4
          split at p2
          · rename_i hc1
            exact ⟨hlt, m4, S1, acc, a, (g.trans g3).trans g4, (tr.trans g3.tr).trans g4.tr, r4, hc1, hl4, ra4, p2⟩
          · exact (show False from p2).elim
        | true =>
          rw [if_pos rfl] at p2
          show tE WF K de σ2 H4 _
          refine ⟨m4, Dl :: B, ρ1, S1, r4, e2.mono g4.tr, ?_⟩
          cases he : de ρ1 S1 with
          | exc _ _ _ => rw [he] at p2; exact (show False from p2).elim
          | bad => rw [he] at p2; exact (show False from p2).elim
          | ok y S2 =>
            rw [he] at p2
            simp only [R.safe_ok, R.bind_ok] at p2
            refine fun m5 H5 g5 r5 v rv => ?_
            have hl5 : H5 Dl = some (ent Dl a) := (g5.keep Dl _ (fun q => r4.dis Dl q (List.mem_cons_self ..)) hl4 nt).2
            have ra5 := bear.mono g5.tr ra4
            split at p2
            · rename_i hc2
              have p3 : KontS K ent lim gd be mO HO mi (Dl :: B) Hi Dl (fun _ _ H' _ _ => Nx H') ((lcI tg chk dt de (wipeD ρ vs) (ds.drop (i + 1)) S2).bind fun ys S' => .ok ((acc ++ [y]) ++ ys) S') := by
                cases hr : lcI tg chk dt de (wipeD ρ vs) (ds.drop (i + 1)) S2 with
                | ok ys S3 =>
                  rw [hr] at p2
                  simp only [R.bind_ok, List.append_assoc, List.singleton_append] at p2 ⊢
                  exact p2
                | exc _ _ _ => rw [hr] at p2; exact (show False from p2).elim
                | bad => rw [hr] at p2; exact (show False from p2).elim
              have hlen : acc.length < lim ∧ gd y = true := by
                cases hr : lcI tg chk dt de (wipeD ρ vs) (ds.drop (i + 1)) S2 with
                | ok ys S3 =>
                  rw [hr] at p3
                  have h1 := p3.1
                  have h2 := p3.2.1 y (by simp)
                  simp at h1
                  exact ⟨by omega, h2⟩
                | exc _ _ _ => rw [hr] at p3; exact (show False from p3).elim
                | bad => rw [hr] at p3; exact (show False from p3).elim
              obtain ⟨q1, q2⟩ := bear.add ra5 rv hlen.2 hlen.1
              refine ⟨a, hl5, q1, fun a' hpost => ⟨hlt, m5, S2, acc ++ [y], a', ?_, ?_, ?_, hc2, L2.upd_same, ?_, p3⟩⟩
              · have g6 := ((g.trans g3).trans g4).trans g5
                exact ⟨g6.pre, fun b o hb q nt => ⟨(g6.keep b o hb q nt).1, by rw [L2.upd_ne (ne_of_none q hD)]; exact (g6.keep b o hb q nt).2⟩⟩
              · exact (((tr.trans g3.tr).trans g4.tr).trans g5.tr).trans (Tr.chg (List.mem_cons_self ..))
              · exact r5.chg (List.mem_cons_self ..) (bear.nx Dl a')
              · exact bear.mono (Tr.chg (List.mem_cons_self ..)) (q2 a' hpost)
            · exact (show False from p2).elim
  · have e' : i = ds.length := by omega
    subst e'
    rw [List.drop_length] at p2
    simp only [lcI, R.bind_ok, List.append_nil] at p2
    exact .inl ⟨jy.st _ m (Dl :: B) H S tr r hch (Nat.le_refl _), p2.2.2 m H a g tr r hl ra⟩
variable {m0 : List Addr} {H0 : Hp} {S0 : Sto} {Q : VK} {tg1 : Tg} {dt1 : DT} {di1 : DI} {vs1 : List Nat}
def PostSg (K : PySem.W.Frag) (ent : Addr → α → L2.HO) (lim : Nat) (gd : D → Bool) (be : List Addr → List Addr → Hp → α → List D → Prop) (m B : List Addr) (H : Hp) (Q : VK) : R (List D) → Prop
  | .ok ds S' => ds.length ≤ lim ∧ (∀ y ∈ ds, gd y = true) ∧ ∀ m' H' p a, Ge m H m' H' → RS K m' (p :: B) H' S' → p ∉ B → Nw H p → H' p = some (ent p a) → be m' (p :: B) H' a ds → Q (.ref p) H'
  | _ => False
theorem sg_walk (bear : Bear K ent a0 pre post lim gd be) (rs : RS K m0 B H0 S0) (e : REs K m0 B H0 ρ σ) (hc : chk S0) (jy : JY K J m0 B H0 ds chk) (hix : ∀ i ∈ tg.ix, i ∈ vs)
    (p : PostSg K ent lim gd be m0 B H0 Q (lcI tg chk dt de (wipeD ρ vs) ds S0)) : ∀ Dl, H0 Dl = none → ∃ W : Nat → Nat → Hp → Prop, (∃ m, W 0 m (L2.upd H0 Dl (ent Dl a0))) ∧ ∀ i m H, W i m H →
      (J.stop i H ∧ Q (.ref Dl) H) ∨ (J.go i H ∧ ∃ Nx : Hp → Prop, (∀ H', Nx H' → ∃ m', m' < m ∧ W (i + 1) m' H') ∧ ∀ x H', J.yld i H x H' → gT K tg x (wipe σ vs) H' fun σ2 H2 => wipe σ2 vs = wipe σ vs ∧ tTe WF K dt σ2 H2 fun b H3 =>
        if b = true then tE WF K de σ2 H3 fun y H7 => ∃ a, H7 Dl = some (ent Dl a) ∧ pre H7 a y ∧ ∀ a', post H7 a y a' → Nx (L2.upd H7 Dl (ent Dl a')) else Nx H3) := by
  intro Dl hD
  have hDB : Dl ∉ B := rs.notB hD
  have tb : Tr m0 B H0 m0 (Dl :: B) (L2.upd H0 Dl (ent Dl a0)) := Tr.ban hD
  refine sg_inner (acc := []) (Nx := fun H => Q (.ref Dl) H) bear hD (rs.new hD).1 (rs.ban hD (bear.nx Dl a0)) (e.mono tb) hc (jy.tr tb) hix L2.upd_same (bear.zero ..) ?_
  cases h : lcI tg chk dt de (wipeD ρ vs) ds S0 with
  | ok ys S' =>
    rw [h] at p
    exact ⟨p.1, p.2.1, fun m' H' a g t r hl hb => p.2.2 m' H' Dl a g r hDB (nw_none hD) hl hb⟩
  | exc c d S' => rw [h] at p; exact p
  | bad => rw [h] at p; exact p
theorem sg2_walk (bear : Bear K ent a0 pre post lim gd be) (rs : RS K m0 B H0 S0) (e : REs K m0 B H0 ρ σ) (hc : chk S0) (jy : JY K J m0 B H0 ds chk) (hix : ∀ i ∈ tg.ix, i ∈ vs) (hix1 : ∀ i ∈ tg1.ix, i ∈ vs1)
    (p : PostSg K ent lim gd be m0 B H0 Q (lc2I tg chk dt (innI tg1 di1 dt1 de vs1) (wipeD ρ vs) ds S0)) : ∀ Dl, H0 Dl = none → ∃ W : Nat → Nat → Hp → Prop, (∃ m, W 0 m (L2.upd H0 Dl (ent Dl a0))) ∧ ∀ i m H, W i m H →
      (J.stop i H ∧ Q (.ref Dl) H) ∨ (J.go i H ∧ ∃ Nx : Hp → Prop, (∀ H', Nx H' → ∃ m', m' < m ∧ W (i + 1) m' H') ∧ ∀ x H', J.yld i H x H' → gT K tg x (wipe σ vs) H' fun σ2 H2 => wipe σ2 vs = wipe σ vs ∧ tTe WF K dt σ2 H2 fun b H3 =>
        if b = true then tI WF K di1 σ2 H3 fun J1 H4 => ∃ W1 : Nat → Nat → Hp → Prop, (∃ m, W1 0 m H4) ∧ ∀ j k H, W1 j k H →
          (J1.stop j H ∧ Nx H) ∨ (J1.go j H ∧ ∃ Nx1 : Hp → Prop, (∀ H', Nx1 H' → ∃ k', k' < k ∧ W1 (j + 1) k' H') ∧ ∀ x H', J1.yld j H x H' → gT K tg1 x (wipe σ2 vs1) H' fun σ3 H5 => wipe σ3 vs1 = wipe σ2 vs1 ∧ tTe WF K dt1 σ3 H5 fun b H6 =>
            if b = true then tE WF K de σ3 H6 fun y H7 => ∃ a, H7 Dl = some (ent Dl a) ∧ pre H7 a y ∧ ∀ a', post H7 a y a' → Nx1 (L2.upd H7 Dl (ent Dl a')) else Nx1 H6)
        else Nx H3) := by
  intro Dl hD
  have hDm : Dl ∉ m0 := rs.notin hD
  have hDB : Dl ∉ B := rs.notB hD
  let St := fun (i : Nat) (H : Hp) => i ≤ ds.length ∧ ∃ m S acc a, Ge m0 H0 m H ∧ Tr m0 B H0 m (Dl :: B) H ∧ RS K m (Dl :: B) H S ∧ chk S ∧ H Dl = some (ent Dl a) ∧ be m (Dl :: B) H a acc ∧
    PostSg K ent lim gd be m0 B H0 Q ((lc2I tg chk dt (innI tg1 di1 dt1 de vs1) (wipeD ρ vs) (ds.drop i) S).bind fun ys S' => .ok (acc ++ ys) S')
  refine ⟨fun i k H => k = ds.length - i ∧ St i H, ⟨_, rfl, Nat.zero_le _, m0, S0, [], a0, (rs.new hD).1, Tr.ban hD, rs.ban hD (bear.nx Dl a0), hc, L2.upd_same, bear.zero .., ?_⟩, ?_⟩
  · show PostSg K ent lim gd be m0 B H0 Q ((lc2I tg chk dt (innI tg1 di1 dt1 de vs1) (wipeD ρ vs) ds S0).bind fun ys S' => .ok ys S')
    cases h : lc2I tg chk dt (innI tg1 di1 dt1 de vs1) (wipeD ρ vs) ds S0 with
    | ok ys S' => rw [h] at p; exact p
    | exc c d S' => rw [h] at p; exact p
    | bad => rw [h] at p; exact p
  · rintro i k H ⟨rfl, hi, m, S, acc, a, g, tr, r, hch, hl, ra, p2⟩
    by_cases hlt : i < ds.length
    · refine .inr ⟨jy.go i m (Dl :: B) H S tr r hch hlt, St (i + 1), fun H' h => ⟨ds.length - (i + 1), by omega, rfl, h⟩, fun x H3 y => ?_⟩
      obtain ⟨ext, rx⟩ := jy.yl i m (Dl :: B) H S x H3 ds[i] tr r hch (by simp [hlt]) y
      obtain ⟨g3, r3⟩ := r.ext ext
      rw [List.drop_eq_getElem_cons hlt] at p2
      unfold lc2I at p2
      have ew : REs K m (Dl :: B) H3 (wipeD ρ vs) (wipe σ vs) := (e.mono (tr.trans g3.tr)).wipe vs
      cases ha : Tg.asg S tg ds[i] (wipeD ρ vs) with
      | none => rw [ha] at p2; exact (show False from p2).elim
      | some ρ1 =>
        rw [ha] at p2
        simp only at p2
        refine ⟨m, Dl :: B, S, _, wipeD ρ vs, ρ1, r3, rx, ew, ha, fun σ2 e2 sam => ⟨by rw [sam vs hix, wipe_wipe], m, Dl :: B, ρ1, S, r3, e2, ?_⟩⟩
        cases ht : dt ρ1 S with
        | exc _ _ _ => rw [ht] at p2; exact (show False from p2).elim
        | bad => rw [ht] at p2; exact (show False from p2).elim
        | ok b S1 =>
          rw [ht] at p2
          simp only [R.safe_ok, R.bind_ok] at p2
          refine fun m4 H4 g4 r4 => ?_
          have nt : NT (ent Dl a) := (bear.nx Dl a).1
          have hl4 : H4 Dl = some (ent Dl a) := (g4.keep Dl _ (fun q => r3.dis Dl q (List.mem_cons_self ..)) (ext _ _ hl) nt).2
          have ra4 := bear.mono (g3.tr.trans g4.tr) ra
          have gg := (g.trans g3).trans g4
          have tt := (tr.trans g3.tr).trans g4.tr
          cases b with
          | false =>
            rw [if_neg Bool.false_ne_true] at p2
            show St (i + 1) H4
            split at p2
            · rename_i hc1
              exact ⟨hlt, m4, S1, acc, a, gg, tt, r4, hc1, hl4, ra4, p2⟩
            · exact (show False from p2).elim
          | true =>
            rw [if_pos rfl] at p2
            show tI WF K di1 σ2 H4 _
            refine ⟨m4, Dl :: B, ρ1, S1, r4, e2.mono g4.tr, ?_⟩
            unfold innI at p2
            cases hi1 : di1 ρ1 S1 with
            | exc _ _ _ => rw [hi1] at p2; exact (show False from p2).elim
            | bad => rw [hi1] at p2; exact (show False from p2).elim
            | ok q S2 =>
              rw [hi1] at p2
              simp only [R.safe_ok, R.bind_ok] at p2
              refine fun m5 H5 g5 r5 hc5 J1 jy1 => ?_
              have hl5 : H5 Dl = some (ent Dl a) := (g5.keep Dl _ (fun q => r4.dis Dl q (List.mem_cons_self ..)) hl4 nt).2
              have ra5 := bear.mono g5.tr ra4
              refine sg_inner (acc := acc) (a := a) bear hD (gg.trans g5) r5 ((e2.mono g4.tr).mono g5.tr) hc5 jy1 hix1 hl5 ra5 ?_
              cases hin : lcI tg1 q.2 dt1 de (wipeD ρ1 vs1) q.1 S2 with
              | exc _ _ _ => rw [hin] at p2; exact (show False from p2).elim
              | bad => rw [hin] at p2; exact (show False from p2).elim
              | ok ys S3 =>
                rw [hin] at p2
                simp only [R.safe_ok, R.bind_ok] at p2 ⊢
                split at p2
                · rename_i hc3
                  have p3 : PostSg K ent lim gd be m0 B H0 Q ((lc2I tg chk dt (innI tg1 di1 dt1 de vs1) (wipeD ρ vs) (ds.drop (i + 1)) S3).bind fun zs S' => .ok ((acc ++ ys) ++ zs) S') := by
                    unfold innI
                    cases hr : lc2I tg chk dt (fun ρ S => (di1 ρ S).safe.bind fun p S1 => lcI tg1 p.2 dt1 de (wipeD ρ vs1) p.1 S1) (wipeD ρ vs) (ds.drop (i + 1)) S3 with
                    | ok zs S4 =>
                      rw [hr] at p2
                      simp only [R.bind_ok, List.append_assoc] at p2 ⊢
                      exact p2
                    | exc _ _ _ => rw [hr] at p2; exact (show False from p2).elim
                    | bad => rw [hr] at p2; exact (show False from p2).elim
                  have hh : (acc ++ ys).length ≤ lim ∧ ∀ y ∈ acc ++ ys, gd y = true := by
                    cases hr : lc2I tg chk dt (innI tg1 di1 dt1 de vs1) (wipeD ρ vs) (ds.drop (i + 1)) S3 with
                    | ok zs S4 =>
                      rw [hr] at p3
                      have h1 := p3.1
                      have h2 := p3.2.1
                      simp at h1 ⊢
                      exact ⟨by omega, fun y hy => h2 y (by simp; rcases hy with h | h <;> simp [h])⟩
                    | exc _ _ _ => rw [hr] at p3; exact (show False from p3).elim
                    | bad => rw [hr] at p3; exact (show False from p3).elim
                  exact ⟨hh.1, hh.2, fun m6 H6 vb g6 t6 r6 hl6 ra6 => ⟨hlt, m6, S3, acc ++ ys, vb, g6, (tt.trans g5.tr).trans t6, r6, hc3, hl6, ra6, p3⟩⟩
                · exact (show False from p2).elim
    · have e' : i = ds.length := by omega
      subst e'
      rw [List.drop_length] at p2
      simp only [lc2I, R.bind_ok, List.append_nil] at p2
      exact .inl ⟨jy.st _ m (Dl :: B) H S tr r hch (Nat.le_refl _), p2.2.2 m H Dl a g r hDB (nw_none hD) hl ra⟩
end
end Z
namespace Z
open PySem PySem.Spec PyProof.Rows L2 PpSet
/-! ### sorted({.. for ..}), whole numbers -/
theorem nx_ext {f : Heap → Prop} {a : Addr} (h : ∀ g, f g → ∃ o es ep t, g.get? a = some o ∧ o.data = .set es ep t) : NX (.ext f) := by
  refine ⟨fun ps e => (by cases e), fun c q e => ?_⟩
  unfold LamX.CodeO at e
  have e2 := HO.ext.inj e
  let ob : Obj := { cls := .type "code", data := .fields #[.none, .str q 0] }
  let g : Heap := { objs := Array.replicate (c + 1) ob }
  have at_ : ∀ b o, g.get? b = some o → o = ob := fun b o hb => by
    unfold Heap.get? at hb
    by_cases hl : b < c + 1
    · have e3 : g.objs[b]? = some ob := by simp [g, hl]
      rw [e3] at hb
      exact (Option.some.inj hb).symm
    · have e3 : g.objs[b]? = none := by
        simp only [g, Array.getElem?_replicate, hl, if_false]
      rw [e3] at hb
      cases hb
  have hc : g.get? c = some ob := by
    unfold Heap.get?
    have e3 : g.objs[c]? = some ob := by simp [g]
    rw [e3]
  have fg : f g := by
    rw [e2]
    exact ⟨ob, #[.none, .str q 0], 0, hc, rfl, rfl⟩
  obtain ⟨o, es, ep, t, h1, h2⟩ := h g fg
  rw [at_ a o h1] at h2
  cases h2
theorem nx_setO (w : World) (a : Addr) (p : Int → Bool) (n : Nat) : NX (SetO w a p n) := nx_ext (a := a) fun g ⟨o, es, ep, t, h1, _, h2, _⟩ => ⟨o, es, ep, t, h1, h2⟩
def isInt : D → Bool
  | .int _ => true
  | _ => false
def beI : List Addr → List Addr → Hp → (Int → Bool) × Nat → List D → Prop := fun _ _ _ a acc => ∃ ns : List Int, acc = ns.map D.int ∧ a.1 = (fun j => decide (j ∈ ns)) ∧ a.2 ≤ ns.length
theorem scan63 : 64 < scanBound := by decide
theorem bearI (K : PySem.W.Frag) (w : World) : Bear K (entI w) (fun _ => false, 0) (fun _ a y => (∃ i, y = .int i) ∧ a.2 + 1 < scanBound) postI 63 isInt beI where
  nx := fun p a => nx_setO w p a.1 a.2
  zero := fun m B H => ⟨[], rfl, by funext j; simp, Nat.le_refl _⟩
  mono := fun _ h => h
  add := fun {m B H a acc y v} ⟨ns, e1, e2, e3⟩ rd hy hl => by
    cases y <;> try (cases hy; done)
    rename_i i
    unfold RD at rd
    subst rd
    have hl' : ns.length < 63 := by rw [e1, List.length_map] at hl; exact hl
    refine ⟨⟨⟨i, rfl⟩, by have := scan63; omega⟩, fun a' ⟨j, hj, ha⟩ => ⟨ns ++ [i], by rw [e1]; simp, ?_, ?_⟩⟩
    · cases hj
      rw [ha]
      funext k
      show (a.1 k || decide (k = i)) = _
      rw [e2, Bool.eq_iff_iff]
      simp
    · cases hj
      rw [ha]
      show (if a.1 i = true then a.2 else a.2 + 1) ≤ _
      rw [List.length_append]
      split <;> simp <;> omega
def gSc (ds : List D) (S : Sto) : R (List D) := if ds.length < 64 ∧ (ds.all isInt) = true then .ok (usortK keyT ds) S else .bad
noncomputable def lSortSc (tg : Tg) (i : DI) (t : DT) (e : DE) (vs : List Nat) : DA := fun ρ S => (lLc tg i t e vs ρ S).bind gSc
noncomputable def lSortSc2 (tg : Tg) (i : DI) (t : DT) (tg1 : Tg) (i1 : DI) (t1 : DT) (e : DE) (vs vs1 : List Nat) : DA := fun ρ S => (lLc2 tg i t tg1 i1 t1 e vs vs1 ρ S).bind gSc
/-- what sorted makes of the set -/
theorem sc_end {K : PySem.W.Frag} {w : World} {W : Value → Option Addr → Hp → Prop} {m B m' : List Addr} {H H' : Hp} {ds : List D} {S' : Sto} {Q : VK} {p : Addr} {a : (Int → Bool) × Nat} (pl : PostL K m B H W Q (gSc ds S')) (g : Ge m H m' H') (r : RS K m' (p :: B) H' S') (hl : H' p = some (entI w p a)) (hb : beI m' (p :: B) H' a ds) : rSortedSet w [.ref p] H' Q := by
  unfold gSc at pl
  split at pl
  · rename_i hk
    obtain ⟨ns, e1, e2, e3⟩ := hb
    have hn : ns.length < 64 := by have := hk.1; rw [e1, List.length_map] at this; exact this
    refine ⟨p, a.1, a.2, rfl, hl, by omega, fun ks q hs hmem hlen hq => ?_⟩
    have eq : ks.map D.int = usortK keyT ds := by
      rw [e1]
      refine usortK_uniq (fun z => ?_) (List.pairwise_map.mpr hs) ints_inj
      constructor
      · intro hz
        obtain ⟨i, hi, rfl⟩ := List.mem_map.mp hz
        have := (hmem i).mp hi
        rw [e2] at this
        exact List.mem_map.mpr ⟨i, of_decide_eq_true this, rfl⟩
      · intro hz
        obtain ⟨i, hi, rfl⟩ := List.mem_map.mp hz
        exact List.mem_map.mpr ⟨i, (hmem i).mpr (by rw [e2]; exact decide_eq_true hi), rfl⟩
    rw [← eq] at pl
    exact PostL.put (pl.ge g) r.free (ints_rd ks) hq
  · exact (show False from pl).elim
section
variable {X : Cx} {pos p0 spos : Pos} {elt t iter t1 iter1 : Expr} {ifs ifs1 : List Expr} {scope : Scope} {own : List (PySem.Str × Nat)} {tg tg1 : Tg} {di di1 : DI} {dt dt1 : DT} {de : DE}
theorem zl_sortSc (hm : X.mg "sorted" = none) (hc : X.calm = true) (hN : X.N.Nodup) (hi : ZI X t iter di) (ok : BlkOk X.N X.env.scope scope own) (hix : ∀ i ∈ tg.ix, i ∈ own.map (·.2))
    (hg : InBlk X scope fun Y => ZG Y t tg) (ht : InBlk X scope fun Y => ZTs Y ifs dt) (he : InBlk X scope fun Y => ZE Y elt de) (hgl : Gl X "sorted" := by rfl) (hs : ∀ x, foldedSetIterable iter X.env x = pure x := by intro _; rfl)
    (he2 : starEach [.SetComp elt [⟨t, iter, ifs, 0⟩] scope spos] X.env = (false, eval (.SetComp elt [⟨t, iter, ifs, 0⟩] scope spos) X.env) :: starEach [] X.env := by rfl) :
    ZL X (.Call (.Name "sorted" p0) [.SetComp elt [⟨t, iter, ifs, 0⟩] scope spos] [] pos) (lSortSc tg di dt de (own.map (·.2))) := fun W tk =>
  pe_weak (pe_callB (cr_sortedSet hc) hgl hm (by decide +kernel) (pa_cons (pe_sg (ent := entI X.w) (a0 := (fun _ => false, 0)) (pre := fun _ a y => (∃ i, y = .int i) ∧ a.2 + 1 < scanBound) (post := postI) (g := gT X.K tg) (tt := tTe WF X.K dt) (te := tE WF X.K de) hc hN (newI _ _) (hi W tk) ok (fun s H C cl fp => addI _) (fun s H C cl fp => hg s H C cl fp) (fun s H C cl fp => ht s H C cl fp WF takes0) (fun s H C cl fp => he s H C cl fp WF takes0) hs) pa_nil he2) (by decide) (by decide) he2 (by rfl)) fun σ H Q ⟨m, B, ρ, S, rs, e, p⟩ => by
    refine ⟨m, B, ρ, S, rs, e, ?_⟩
    unfold lSortSc lLc at p
    cases hd : di ρ S with
    | ok q S1 =>
      rw [hd] at p
      simp only [R.bind_ok] at p
      refine fun m1 H1 g1 r1 hc J jy => ?_
      split at p
      case isFalse => exact (show False from p).elim
      rename_i hz
      refine sg_walk (dt := dt) (de := de) (Q := fun v H => rSortedSet X.w [v] H Q) (bearI X.K X.w) r1 (e.mono g1.tr) hc jy hix ?_
      cases h : lcI tg q.2 dt de (wipeD ρ (own.map (·.2))) q.1 S1 with
      | ok ys S' =>
        rw [h] at p
        have hk : ys.length < 64 ∧ (ys.all isInt) = true := by
          by_cases hk : ys.length < 64 ∧ (ys.all isInt) = true
          · exact hk
          · have : gSc ys S' = .bad := by unfold gSc; rw [if_neg hk]
            have p' : PostL X.K m B H (fun c x H' => W c x σ H') Q (gSc ys S') := p
            rw [this] at p'
            exact (show False from p').elim
        exact ⟨by omega, fun y hy => List.all_eq_true.mp hk.2 y hy, fun m2 H2 pp a g2 r2 hB h0 h2 hb => sc_end (show PostL X.K m B H (fun c x H' => W c x σ H') Q (gSc ys S') from p) (g1.trans g2) r2 h2 hb⟩
      | exc c d S' => exact absurd h (lcI_noexc _ _ _ _ _)
      | bad => rw [h] at p; exact p
    | exc c d S1 => rw [hd] at p; exact p
    | bad => rw [hd] at p; exact p
theorem zl_sortSc2 {vs1 : List Nat} (hm : X.mg "sorted" = none) (hc : X.calm = true) (hN : X.N.Nodup) (hi : ZI X t iter di) (ok : BlkOk X.N X.env.scope scope own) (hix : ∀ i ∈ tg.ix, i ∈ own.map (·.2)) (hix1 : ∀ i ∈ tg1.ix, i ∈ vs1) (hv : ∀ i ∈ vs1, i ∈ own.map (·.2))
    (hg : InBlk X scope fun Y => ZG Y t tg) (ht : InBlk X scope fun Y => ZTs Y ifs dt) (hi1 : InBlk X scope fun Y => ZI Y t1 iter1 di1) (hg1 : InBlk X scope fun Y => ZG Y t1 tg1) (ht1 : InBlk X scope fun Y => ZTs Y ifs1 dt1) (he : InBlk X scope fun Y => ZE Y elt de) (hgl : Gl X "sorted" := by rfl)
    (hs : ∀ x, foldedSetIterable iter X.env x = pure x := by intro _; rfl) (hs1 : ∀ env x, foldedSetIterable iter1 env x = pure x := by intro _ _; rfl)
    (he2 : starEach [.SetComp elt [⟨t, iter, ifs, 0⟩, ⟨t1, iter1, ifs1, 0⟩] scope spos] X.env = (false, eval (.SetComp elt [⟨t, iter, ifs, 0⟩, ⟨t1, iter1, ifs1, 0⟩] scope spos) X.env) :: starEach [] X.env := by rfl) :
    ZL X (.Call (.Name "sorted" p0) [.SetComp elt [⟨t, iter, ifs, 0⟩, ⟨t1, iter1, ifs1, 0⟩] scope spos] [] pos) (lSortSc2 tg di dt tg1 di1 dt1 de (own.map (·.2)) vs1) := fun W tk =>
  pe_weak (pe_callB (cr_sortedSet hc) hgl hm (by decide +kernel) (pa_cons (pe_sg2 (ent := entI X.w) (a0 := (fun _ => false, 0)) (pre := fun _ a y => (∃ i, y = .int i) ∧ a.2 + 1 < scanBound) (post := postI) (g := gT X.K tg) (tt := tTe WF X.K dt) (wi1 := tI WF X.K di1) (g1 := gT X.K tg1) (tt1 := tTe WF X.K dt1) (te := tE WF X.K de) hc hN (newI _ _) (hi W tk) ok hv (fun s H C cl fp => addI _) (fun s H C cl fp => hg s H C cl fp) (fun s H C cl fp => ht s H C cl fp WF takes0)
    (fun s H C cl fp => hi1 s H C cl fp WF takes0) (fun s H C cl fp => hg1 s H C cl fp) (fun s H C cl fp => ht1 s H C cl fp WF takes0) (fun s H C cl fp => he s H C cl fp WF takes0) hs hs1) pa_nil he2) (by decide) (by decide) he2 (by rfl)) fun σ H Q ⟨m, B, ρ, S, rs, e, p⟩ => by
    refine ⟨m, B, ρ, S, rs, e, ?_⟩
    unfold lSortSc2 lLc2 at p
    cases hd : di ρ S with
    | ok q S1 =>
      rw [hd] at p
      simp only [R.bind_ok] at p
      refine fun m1 H1 g1 r1 hc J jy => ?_
      refine sg2_walk (dt := dt) (de := de) (dt1 := dt1) (di1 := di1) (Q := fun v H => rSortedSet X.w [v] H Q) (bearI X.K X.w) r1 (e.mono g1.tr) hc jy hix hix1 ?_
      cases h : lc2I tg q.2 dt (innI tg1 di1 dt1 de vs1) (wipeD ρ (own.map (·.2))) q.1 S1 with
      | ok ys S' =>
        rw [h] at p
        simp only [R.safe_ok, R.bind_ok] at p
        split at p
        case isFalse => exact (show False from p).elim
        rename_i hz
        have hk : ys.length < 64 ∧ (ys.all isInt) = true := by
          by_cases hk : ys.length < 64 ∧ (ys.all isInt) = true
          · exact hk
          · have : gSc ys S' = .bad := by unfold gSc; rw [if_neg hk]
            have p' : PostL X.K m B H (fun c x H' => W c x σ H') Q (gSc ys S') := p
            rw [this] at p'
            exact (show False from p').elim
        exact ⟨by omega, fun y hy => List.all_eq_true.mp hk.2 y hy, fun m2 H2 pp a g2 r2 hB h0 h2 hb => sc_end (show PostL X.K m B H (fun c x H' => W c x σ H') Q (gSc ys S') from p) (g1.trans g2) r2 h2 hb⟩
      | exc c d S' => rw [h] at p; exact (show False from p).elim
      | bad => rw [h] at p; exact (show False from p).elim
    | exc c d S1 => rw [hd] at p; exact p
    | bad => rw [hd] at p; exact p
end
end Z
namespace Z
open PySem PySem.Spec PyProof.Rows L2
/-! ### tuple(a dict): its keys -/
section
variable {prog : Program} {w : World} {A : Around} {E : Value → Shared → Prop} {s : Shared} {T : String} {r d : Addr} {n : Nat} {P : Nat → Value → Prop} {OK : Heap → Prop}
theorem collect_src {Q : List Value → Shared → Prop} (K : PySem.W.KdlSrc prog w T r d n P OK) (hh : A.handled = none) (hok : OK s.heap) (hn : n ≤ sizeLine)
    (hQ : ∀ (h' : Heap) (tk : Nat) (acc : Array Value), (∀ b o, s.heap.get? b = some o → h'.get? b = some o) → ItemsOf P acc n → Q acc.toList { s with heap := h', toks := tk }) : wpAny (model prog w) A (collect (.ref r)) Q E s := by
  unfold collect
  refine wpAny_bind (wpAny_runValue (codeAny_builtin F.entry_proto_collect ?_))
  rw [Around.under_plainId F.plain_proto_collect _]
  show wpAny _ A.in1 (newList [] >>= fun l => again (.builtin "list.__iadd__" ⟨[l, .ref r], []⟩)) _ _ s
  refine wpAny_bind (wpAny_newObj_type ?_)
  refine wpAny_pure ⟨plainId_quiet F.plain_list_iadd _, codeAny_builtin F.entry_list_iadd ?_⟩
  rw [Around.under_plainId F.plain_list_iadd _]
  show wpAny _ A.in1 (Builtin.List.listExtendWith (.ref s.heap.objs.size) (.ref r) (.ref s.heap.objs.size)) _ _ _
  generalize hN : s.heap.objs.size = N
  have hlt := K.there _ hok
  have hS : (s.heap.push { cls := .type "list", data := .seq ([] : List Value).toArray }).get? N = some { cls := .type "list", data := .seq #[] 0 } := by rw [← hN]; exact Heap.get?_push_size _ rfl
  refine wpAny_mono (PySem.W.kdl_extend (A := A) (R := fun rr z => rr = .ok (.ret (.ref N)) ∧ ∃ (h' : Heap) (tk : Nat) (acc : Array Value) (c' : Nat), z = { s with heap := h', toks := tk } ∧
      (∀ b o, s.heap.get? b = some o → h'.get? b = some o) ∧ h'.get? N = some { cls := .type "list", dict := none, data := .seq acc c', slots := #[] } ∧ ItemsOf P acc n)
    (s := { s with heap := s.heap.push { cls := .type "list", data := .seq ([] : List Value).toArray } }) K hh (K.keep _ _ hok fun b _ o e => Heap.get?_push_of_some _ e) N (by rw [← hN]; exact Nat.ne_of_gt hlt.1) (by rw [← hN]; exact Nat.ne_of_gt hlt.2) (.ref N) 0 hS
    (fun h' tk acc c' hk e hi => ⟨rfl, h', tk, acc, c', rfl, fun b o q => hk b o (by rw [← hN]; exact Nat.ne_of_lt (Heap.lt_size q)) (Heap.get?_push_of_some _ q), e, hi⟩) hn) (fun fin z h => ?_) (fun e z h => ?_)
  · cases fin with
    | done f =>
      obtain ⟨e, h', tk, acc, c', rfl, hk, hS', hi⟩ := h
      cases e
      show wpAny _ A (load N >>= _) _ _ _
      exact wpAny_bind (wpAny_load hS' (wpAny_pure (hQ h' tk acc hk hi)))
    | again c' =>
      refine ⟨h.1, codeAny_mono h.2 fun rr z hr' => ?_⟩
      obtain ⟨rfl, h', tk, acc, c', rfl, hk, hS', hi⟩ := hr'
      show wpAny _ A (load N >>= _) _ _ _
      exact wpAny_bind (wpAny_load hS' (wpAny_pure (hQ h' tk acc hk hi)))
  · exact absurd h.1 (by simp)
theorem tuple_new_dict {Q₁ : Value → Shared → Prop} (K : PySem.W.KdlSrc prog w "dict" r d n P OK) (hh : A.handled = none) (hok : OK s.heap) (hn : n ≤ sizeLine)
    (h : ∀ (h' : Heap) (tk : Nat) (acc : Array Value), (∀ b o, s.heap.get? b = some o → h'.get? b = some o) → ItemsOf P acc n → Q₁ (.ref h'.objs.size) { s with heap := h'.push { cls := .type "tuple", data := .seq acc }, toks := tk }) :
    codeAny (model prog w) A (.call (.builtin "tuple.__new__") ⟨[.type "tuple", .ref r], []⟩) (wants Q₁ E) s := by
  refine codeAny_of_tree ?_
  show wpAny _ A.in1 (do checkBuiltinCall "tuple.__new__" ⟨[.type "tuple", .ref r], []⟩; again (.builtin "tuple.__new__" ⟨[.type "tuple", .ref r], []⟩)) _ _ s
  refine wpAny_bind (wpAny_of_eq (F.newCall_tuple_1 _) (wpAny_pure ⟨plainId_quiet F.plain_tuple_new _, codeAny_builtin F.entry_tuple_new ?_⟩))
  rw [Around.under_plainId F.plain_tuple_new _]
  have hsub := sub_tuple_self
  have hinit := init_tuple_lookup
  have hmh := madeHere_tuple
  have hTI : s.TypeIs (.ref r) "dict" := K.type s hok
  have hh1 : A.in1.handled = none := hh
  wp_walk using wpAny_typeOf hTI, collect_src (A := A.in1) K hh1 hok hn
  intro h' tk acc hk hacc
  show wpAny _ _ (Builtin.Tuple.tupleExact acc.toList.toArray >>= fun v => ret v) _ _ _
  unfold Builtin.Tuple.tupleExact
  refine wpAny_bind (wpAny_newObj_type ?_ (by show acc.toList.toArray.size ≤ sizeLine; simp only [Array.toArray_toList]; rw [hacc.1]; exact hn))
  refine wpAny_pure ?_
  have e : acc.toList.toArray = acc := by simp
  rw [e]
  exact h h' tk acc hk hacc
theorem call_tuple_src {Q : Value → Shared → Prop} (K : PySem.W.KdlSrc prog w "dict" r d n P OK) (hh : A.handled = none) (hok : OK s.heap) (hn : n ≤ sizeLine)
    (hQ : ∀ (h' : Heap) (tk : Nat) (acc : Array Value), (∀ b o, s.heap.get? b = some o → h'.get? b = some o) → ItemsOf P acc n → Q (.ref h'.objs.size) { s with heap := h'.push { cls := .type "tuple", data := .seq acc }, toks := tk }) :
    wpAny (model prog w) A (call (.type "tuple") [.ref r]) Q E s := by
  refine callType_codes (Q₁ := fun obj z => z.TypeIs obj "tuple" ∧ Q obj z) F.called_tuple (F.typeCall_tuple_1 _) F.entry_object_init
    (tuple_new_dict (A := A.in1) K hh hok hn fun h' tk acc hk hacc => ⟨⟨_, Heap.get?_push_size _ rfl, rfl⟩, hQ h' tk acc hk hacc⟩) fun obj z h₁ => ?_
  exact ⟨h₁.1, F.args_object_init_2 obj _, object_init_meets F.called_tuple.init.lookup F.called_tuple.made (by decide) prog w A.in1 _ z ⟨h₁.1, rfl, h₁.2⟩⟩
end
section
variable {X : Cx}
theorem call_tupleD (hcalm : X.calm = true) : CallR X (.type "tuple") (fun xs H Q => ∃ (a : Addr) (kvs : List (Key × V)), xs = [.ref a] ∧ Rd H a (.dK kvs) ∧ ∀ p, H p = none → Q (.ref p) (L2.upd H p (.tup (kvs.map fun kv => kV kv.1)))) := by
  intro pins s σ H xs us Q I r q
  obtain ⟨a, kvs, rfl, hd, q⟩ := q
  rw [Vals.ref1 r]
  obtain ⟨z, lo, vs, rel, dd⟩ := dk_rd I.hok hd
  obtain ⟨ep, hat⟩ := dd.dictAt
  have ek : (kvs.map fun kv => kV kv.1) = vs.map fun p => kV p.1 := by
    have e := congrArg (List.map kV) rel.keys
    rw [List.map_map, List.map_map] at e
    exact e
  refine call_tuple_src (PySem.W.kdl_dict (knd := mixKind X.prog X.w) (kvs := vs) (ep := ep) lo) (I.ok.hd hcalm) hat (by rw [← rel.length]; exact z) fun h' tk acc hk hacc => ?_
  have hv : Vals (vs.map fun p => kV p.1) acc.toList := keys_at (by rw [Array.length_toList]; exact hacc.1) fun j v e => hacc.2 j v (by rw [← Array.getElem?_toList]; exact e)
  have I1 : Inv X pins σ H { s with heap := h', toks := tk } := I.kept (t' := tk) hk
  have hl : (kvs.map fun kv => kV kv.1).length ≤ sizeLine := by rw [List.length_map]; exact z
  have I2 : Inv X pins σ (L2.upd H h'.objs.size (.tup (kvs.map fun kv => kV kv.1))) { s with heap := h'.push { cls := .type "tuple", data := .seq acc }, toks := tk } :=
    I1.laid (t' := tk) (fun b o e => Heap.get?_push_of_some _ e) (Nat.le_refl _) (show ObjOk X.prog X.w _ _ _ (.tup _) from ⟨hl, acc.toList, by rw [ek]; exact hv, by simpa using IsTup.new _ _⟩)
  exact ⟨.ref h'.objs.size, _, I2, rfl, q _ (I1.hok.fresh (Nat.le_refl _))⟩
end
end Z
namespace Z
open PySem PySem.Spec PyProof.Rows L2
/-! ### == of an object with itself -/
section
variable {prog : Program} {w : World} {A : Around} {E : Value → Shared → Prop} {s : Shared} {K : PySem.W.Frag} {x C : Addr} {ox : Obj} {od : Option Obj}
theorem call_objSelf {Q : Value → Shared → Prop} (X : K.In s.heap) (I : PySem.W.InstAt s.heap x ox C od) (hm : PySem.W.mroIn K C (.type "object") = some true) (hq : Q (.bool true) s) :
    wpAny (model prog w) A (call (.builtin "object.__eq__") [.ref x, .ref x]) Q E s :=
  wpAny_call (codeAny_call_builtin F.cmp_object.eq.plain F.cmpEntry_eq (PySem.W.check_slot F.cmpKind_eq F.cmpSplit_eq (I.type.andThen (PySem.W.looks_mroIn X hm)) (F.cmpArgs_eq _ _) (objEq_entry_same hq)))
theorem rc_self (hu : A.units < cLine) (X : K.In s.heap) (I : PySem.W.InstAt s.heap x ox C od) (hm : PySem.W.mroIn K C (.type "object") = some true) (hs : PySem.W.findIn K (.ref C) "__eq__" = some (some (.builtin "object.__eq__"))) {Q : Value → Shared → Prop} (h : Q (.bool true) s) :
    wpAny (model prog w) A (richCompare .Eq (.ref x) (.ref x)) Q E s := by
  have one : wpAny (model prog w) A (tryCompare (.ref x) "__eq__" (.ref x)) (fun r z => r = some (.bool true) ∧ z = s) E s := by
    unfold tryCompare
    exact wpAny_bind (HN.ifBound_objEq X I hs (call_objSelf X I hm (wpAny_pure ⟨rfl, rfl⟩)))
  simp only [richCompare, cmpInfo_Eq, oneThing_ref]
  refine wpAny_holding (wpAny_bind (wpAny_cRoomFor hu ?_))
  refine wpAny_bind (I.type.here ?_)
  refine wpAny_bind (I.type.here ?_)
  rw [if_neg (by simp)]
  refine wpAny_bind (wpAny_pure ?_)
  simp only [Bool.false_eq_true, if_false, Bool.not_false, if_true]
  refine wpAny_bind (m := tryCompare (.ref x) _ (.ref x)) (wpAny_mono one (fun r s1 z => ?_) fun _ _ e => e)
  obtain ⟨rfl, rfl⟩ := z
  exact wpAny_pure h
end
section
variable {X : Cx}
/-- the class has no == of its own -/
def NoEq (K : PySem.W.Frag) (cs : List Addr) : Prop := ∀ c ∈ cs, PySem.W.mroIn K c (.type "object") = some true ∧ PySem.W.findIn K (.ref c) "__eq__" = some (some (.builtin "object.__eq__"))
def rEqSelf (K : PySem.W.Frag) (cs : List Addr) : R2 := fun x y H Q => ∃ a C dx fs, x = .ref a ∧ y = .ref a ∧ H a = some (.ins C dx fs) ∧ C ∈ cs ∧ Q (.bl true) H
theorem op_eqSelf {cs : List Addr} (hc : NoEq X.K cs) (hu : X.A.units < cLine) : OpR X (compareOp .Eq) (rEqSelf X.K cs) := by
  intro pins s σ H x y v u Q I rx ry h
  obtain ⟨a, C, dx, fs, rfl, rfl, ha, hC, q⟩ := h
  obtain rfl : v = Value.ref a := rx
  obtain rfl : u = Value.ref a := ry
  obtain ⟨mA, O, _⟩ := ins_get I.hok ha
  obtain ⟨od, J, _⟩ := O.look
  exact rc_self hu I.kIn J (hc C hC).1 (hc C hC).2 ⟨.bl true, H, I, rfl, q⟩
def fEqO (cs : List Addr) (d e : D) (S : Sto) : R D := match d, e with
  | .ref n, .ref k => if n = k then match S[n]? with
    | some (.ins C _) => if C ∈ cs then .ok (.bl true) S else .bad
    | _ => fEq d e S
    else fEq d e S
  | _, _ => fEq d e S
theorem okEqO {K : PySem.W.Frag} {cs : List Addr} : OkOp K (fun x y H Q => rEqSelf K cs x y H Q ∨ rEqD K x y H Q) (fEqO cs) := by
  intro m B H S d e x y W Q rs rd re p
  have gen : Post K m B H W (fun d _ m' H' => ∀ v, RD K m' B H' d v → Q v H') (fEq d e S) → rEqSelf K cs x y H Q ∨ rEqD K x y H Q := fun p => .inr (okEq m B H S d e x y W Q rs rd re p)
  unfold fEqO at p
  split at p
  · rename_i n k
    split at p
    · rename_i hnk
      subst hnk
      split at p
      · rename_i C fs hn
        split at p
        · rename_i hC
          unfold RD at rd re
          obtain ⟨a, rfl, h1⟩ := rd
          obtain ⟨b, rfl, h2⟩ := re
          rw [h1] at h2
          cases h2
          obtain ⟨dx, vs, e1, _⟩ := rs.ob n a _ h1 hn
          exact .inl ⟨a, C, dx, vs, rfl, rfl, e1, hC, p.now rs _ (RDb _)⟩
        · exact p.elim
      · exact gen p
    · exact gen p
  · exact gen p
variable {pos p0 p2 : Pos} {a b e : Expr} {da db : DE} {t : DA}
theorem ze_eqO {cs : List Addr} (hc : NoEq X.K cs) (hu : X.A.units + 64 < cLine) (ha : ZE X a da) (hb : ZE X b db) : ZE X (.Compare a [.Eq] [b] pos) (e2 (fEqO cs) da db) := ze_cmp ((op_eqSelf hc (by omega)).or (op_eqD hu)) okEqO ha hb (nomark _)
theorem zt_eqO {cs : List Addr} (hc : NoEq X.K cs) (hu : X.A.units + 64 < cLine) (ha : ZE X a da) (hb : ZE X b db) : ZT X (.Compare a [.Eq] [b] pos) (tVB (e2 (fEqO cs) da db)) := zt_cmp ((op_eqSelf hc (by omega)).or (op_eqD hu)) okEqO ha hb (nomark _)
def noEqB (K : PySem.W.Frag) (xs : List Str) : Bool := xs.all fun x => decide (PySem.W.mroIn K (He.ga K x) (.type "object") = some true) && He.eqO (PySem.W.findIn K (.ref (He.ga K x)) "__eq__") (some (some (.builtin "object.__eq__")))
theorem noEqB_ok {K : PySem.W.Frag} {xs : List Str} (h : noEqB K xs = true) : NoEq K (xs.map (He.ga K)) := fun c hc => by
  obtain ⟨x, hx, rfl⟩ := List.mem_map.mp hc
  have := List.all_eq_true.mp h x hx
  rw [Bool.and_eq_true] at this
  exact ⟨of_decide_eq_true this.1, He.eqO_ok this.2⟩
/-! ### d != {} -/
def rNeNil : R2 := fun x y H Q => ∃ a b ks, x = .ref a ∧ y = .ref b ∧ H a = some (.dK ks) ∧ H b = some (.dK []) ∧ Q (.bl (!ks.isEmpty)) H
theorem op_neNil (hu : X.A.units < cLine) : OpR X (compareOp .NotEq) rNeNil := by
  intro pins s σ H x y v u Q I rx ry h
  obtain ⟨a, b, ks, rfl, rfl, ea, eb, q⟩ := h
  obtain rfl : v = Value.ref a := rx
  obtain rfl : u = Value.ref b := ry
  obtain ⟨_, ya, va, ra, da⟩ := (show ObjOk X.prog X.w H s.heap a (.dK ks) from I.hok a _ ea)
  obtain ⟨_, yb, vb, rb, db⟩ := (show ObjOk X.prog X.w H s.heap b (.dK []) from I.hok b _ eb)
  have hb : vb.length = 0 := rb.length.symm
  have ha : va.length = ks.length := ra.length.symm
  refine PySem.W.keq_ne (knd := mixKind X.prog X.w) (r := true) ya yb da db hu (fun hl => ?_) (fin_bl I q ?_)
  · have h0 : ks = [] := List.eq_nil_of_length_eq_zero (by omega)
    subst h0
    exact hits_all rb ra (fun p hp => by cases hp)
  · rw [ha, hb]
    cases ks <;> simp
def fNonNil (d : D) (S : Sto) : R D := match d with
  | .ref n => match S[n]? with
    | some (.dct kvs) => .ok (.bl (!kvs.isEmpty)) S
    | _ => .bad
  | _ => .bad
theorem ze_neNil (hu : X.A.units < cLine) (ha : ZE X a da) : ZE X (.Compare a [.NotEq] [.Dict [] [] p2] pos) (e1 fNonNil da) := fun W tk => pe_weak (pe_cmpR (op_neNil hu) (ha W tk) pe_dnewK (nomark _)) fun σ H Q ⟨m, B, ρ, S, rs, e, p⟩ =>
  tE.take (f := fNonNil) rs e p fun d S1 m1 H1 v g1 r1 e1 rd p1 => fun q hq => by
    cases d <;> try exact p1.elim
    rename_i n
    unfold RD at rd
    obtain ⟨r, rfl, hr⟩ := rd
    simp only [fNonNil] at p1
    split at p1
    · rename_i kvs hn
      obtain ⟨vs, ev, rv⟩ := r1.ob n r _ hr hn
      obtain ⟨g2, r2⟩ := r1.new (u := .dK []) hq
      refine ⟨r, q, vs, rfl, rfl, new_ext hq _ _ ev, L2.upd_same, ?_⟩
      have es : vs.isEmpty = kvs.isEmpty := by
        have := rv.len1
        cases vs <;> cases kvs <;> simp at this ⊢
      rw [es]
      exact p1 m1 _ g2 r2 _ (RDb _)
    · exact p1.elim
/-! ### tuple(x), x a list, a tuple, a dict -/
def fTupleA : List D → Sto → R D
  | [.ref n], S => match S[n]? with
    | some (.dct kvs) => .ok (.tup (kvs.map fun kv => keyD kv.1)) S
    | _ => fTuple [.ref n] S
  | ds, S => fTuple ds S
def rTupleA (K : PySem.W.Frag) : List V → Hp → VK → Prop := fun xs H Q => (∃ (a : Addr) (kvs : List (Key × V)), xs = [.ref a] ∧ Rd H a (.dK kvs) ∧ ∀ p, H p = none → Q (.ref p) (L2.upd H p (.tup (kvs.map fun kv => kV kv.1)))) ∨
  ∃ p ys, xs = [.ref p] ∧ ((SqL K H p ys ∧ ∀ l, H l = none → Q (.ref l) (L2.upd H l (.tup ys))) ∨ (SqT K H p ys ∧ Q (.ref p) H))
theorem okTupleA {K : PySem.W.Frag} : OkCall K (rTupleA K) fTupleA := by
  intro m B H S ds vs W Q rs rds p
  have gen : Post K m B H W (fun d _ m' H' => ∀ v, RD K m' B H' d v → Q v H') (fTuple ds S) → rTupleA K vs H Q := fun p => Or.inr (okTuple m B H S ds vs W Q rs rds p)
  unfold fTupleA at p
  split at p
  · rename_i n
    split at p
    · rename_i kvs hn
      obtain ⟨v, rfl, rv⟩ := rds.one
      unfold RD at rv
      obtain ⟨a, rfl, q⟩ := rv
      obtain ⟨us, ea, ru⟩ := rs.ob n a _ q hn
      refine .inl ⟨a, us, rfl, .inl ea, fun l hl => ?_⟩
      obtain ⟨g2, r2⟩ := rs.new (u := .tup (us.map fun kv => kV kv.1)) hl
      refine p m _ g2 r2 _ ?_
      unfold RD
      exact ⟨l, _, rfl, .inl ⟨rs.notin hl, rs.notB hl, .inl L2.upd_same⟩, RDs.mono g2.tr _ _ (keys_rd ru)⟩
    · exact gen p
  · exact gen p
theorem ze_tupleA (hc : X.calm = true) (hm : X.mg "tuple" = none) (ha : ZA X [e] t) (hg : Gl X "tuple" := by rfl) (he : starEach [e] X.env = (false, eval e X.env) :: starEach [] X.env := by rfl) : ZE X (.Call (.Name "tuple" p0) [e] [] pos) (eCall fTupleA t) :=
  ze_callTy ((call_tupleD hc).or call_tuple_of) okTupleA hm ha hg (he := he)
/-! ### min(xs), min(a dict), whole numbers -/
def minI : Int → List Int → Int
  | m, [] => m
  | m, x :: r => minI (if x < m then x else m) r
theorem minI_le : ∀ (l : List Int) (m : Int), minI m l ≤ m ∧ ∀ x ∈ l, minI m l ≤ x
  | [], m => ⟨Int.le_refl _, fun x h => absurd h (by simp)⟩
  | y :: l, m => by
    have ih := minI_le l (if y < m then y else m)
    have k : (if y < m then y else m) ≤ m ∧ (if y < m then y else m) ≤ y := by split <;> omega
    unfold minI
    refine ⟨Int.le_trans ih.1 k.1, fun x h => ?_⟩
    rcases List.mem_cons.mp h with rfl | h
    · exact Int.le_trans ih.1 k.2
    · exact ih.2 x h
theorem minI_mem : ∀ (l : List Int) (m : Int), minI m l = m ∨ minI m l ∈ l
  | [], m => .inl rfl
  | y :: l, m => by
    unfold minI
    rcases minI_mem l (if y < m then y else m) with h | h
    · by_cases hy : y < m
      · rw [if_pos hy] at h ⊢
        exact .inr (by rw [h]; exact List.mem_cons_self ..)
      · rw [if_neg hy] at h ⊢
        exact .inl h
    · exact .inr (List.mem_cons_of_mem _ h)
theorem minI_uniq {x k : Int} {l : List Int} (hk : k ∈ x :: l) (hle : ∀ y ∈ x :: l, k ≤ y) : k = minI x l := by
  have h3 := minI_le l x
  have h4 : k ≤ minI x l := hle _ (by rcases minI_mem l x with q | q; · rw [q]; exact List.mem_cons_self ..
                                      · exact List.mem_cons_of_mem _ q)
  rcases List.mem_cons.mp hk with rfl | hk
  · omega
  · have := h3.2 k hk
    omega
def keyIs : List (Key × D) → Option (List Int)
  | [] => some []
  | (.inl i, _) :: r => (keyIs r).map fun l => i :: l
  | _ :: _ => none
theorem keyIs_ok : ∀ {kvs : List (Key × D)} {is : List Int}, keyIs kvs = some is → kvs.map (·.1) = is.map Sum.inl
  | [], is, h => by cases h; rfl
  | (.inl i, d) :: r, is, h => by
    unfold keyIs at h
    obtain ⟨l, h1, rfl⟩ := Option.map_eq_some_iff.mp h
    rw [List.map_cons, keyIs_ok h1]
    rfl
  | (.inr i, d) :: r, is, h => by unfold keyIs at h; cases h
def minS (S : Sto) (d : D) : Option (List Int) := match d with
  | .ref n => match S[n]? with
    | some (.dct kvs) => keyIs kvs
    | _ => (lstOf S d).bind intsD
  | _ => (lstOf S d).bind intsD
def fMin : List D → Sto → R D
  | [d], S => match minS S d with
    | some (x :: r) => .ok (.int (minI x r)) S
    | _ => .bad
  | _, _ => .bad
theorem okMin {K : PySem.W.Frag} : OkCall K (fun xs H Q => rMinK xs H Q ∨ rMin K xs H Q) fMin := by
  intro m B H S ds vs W Q rs rds p
  match ds with
  | [] => exact p.elim
  | d :: e :: r => exact p.elim
  | [d] =>
    obtain ⟨v, rfl, rv⟩ := rds.one
    simp only [fMin] at p
    split at p
    · rename_i x l h
      have lst : (lstOf S d).bind intsD = some (x :: l) → rMinK [v] H Q ∨ rMin K [v] H Q := fun h => by
        obtain ⟨ds, h1, h2⟩ := Option.bind_eq_some_iff.mp h
        obtain ⟨a, vs, rfl, sq, r⟩ := lstOf_ok rs rv h1
        rw [intsD_ok r h2] at sq
        refine .inr ⟨a, x :: l, rfl, sq, by simp, fun k hk hge => ?_⟩
        rw [minI_uniq hk hge]
        exact p.now rs _ (RDi _)
      unfold minS at h
      split at h
      · rename_i n
        split at h
        · rename_i kvs hn
          unfold RD at rv
          obtain ⟨a, rfl, q⟩ := rv
          obtain ⟨us, ea, ru⟩ := rs.ob n a _ q hn
          refine .inl ⟨a, us, x :: l, rfl, ea, by rw [← ru.keys]; exact keyIs_ok h, by simp, fun k hk hge => ?_⟩
          rw [minI_uniq hk hge]
          exact p.now rs _ (RDi _)
        · exact lst h
      · exact lst h
    · exact p.elim
theorem ze_min (hc : X.calm = true) (hm : X.mg "min" = none) (ha : ZA X [e] t) (hg : Gl X "min" := by rfl) (he : starEach [e] X.env = (false, eval e X.env) :: starEach [] X.env := by rfl) : ZE X (.Call (.Name "min" p0) [e] [] pos) (eCall fMin t) := ze_callB ((cr_minK hc).or (cr_min hc)) okMin hm ha hg (he := he)
/-! ### a text in a tuple of texts -/
def isStr : D → Option Str
  | .str s => some s
  | _ => none
def strsD : List D → Option (List Str)
  | [] => some []
  | d :: r => (isStr d).bind fun s => (strsD r).map fun l => s :: l
theorem strsD_ok {K : PySem.W.Frag} {m B : List Addr} {H : Hp} : ∀ (ds : List D) {vs : List V} {ss : List Str}, RDs K m B H ds vs → strsD ds = some ss → vs = ss.map V.str := fun ds => by
  induction ds with
  | nil =>
    intro vs ss h e
    unfold RDs at h
    cases e
    exact h
  | cons d r ih =>
    intro vs ss h e
    unfold RDs at h
    obtain ⟨x, q, rfl, h1, h2⟩ := h
    simp only [strsD, Option.bind_eq_some_iff, Option.map_eq_some_iff] at e
    obtain ⟨s, e0, l, e1, rfl⟩ := e
    cases d <;> try (cases e0; done)
    cases e0
    unfold RD at h1
    rw [h1, ih h2 e1]
    rfl
def fInS (neg : Bool) : D → D → Sto → R D
  | .str i, .tup ds, S => match strsD ds with
    | some ss => .ok (.bl (if neg = true then !decide (i ∈ ss) else decide (i ∈ ss))) S
    | none => .bad
  | d, e, S => fInA neg d e S
theorem inV_strs (i : Str) : ∀ ss : List Str, inV (.str i) (ss.map V.str) = decide (i ∈ ss)
  | [] => rfl
  | n :: ss => by
    have ih := inV_strs i ss
    unfold inV at ih ⊢
    rw [List.map_cons, List.any_cons, ih]
    have e : eqV (.str n) (.str i) = decide (n = i) := by
      show (n == i) = _
      by_cases h : n = i <;> simp [h]
    rw [e, Bool.eq_iff_iff]
    simp only [Bool.or_eq_true, decide_eq_true_eq, List.mem_cons]
    constructor
    · rintro (h | h)
      · exact .inl h.symm
      · exact .inr h
    · rintro (h | h)
      · exact .inl h.symm
      · exact .inr h
theorem flat_strs : ∀ ss : List Str, (ss.map V.str).all flatV = true
  | [] => rfl
  | n :: ss => by
    rw [List.map_cons, List.all_cons, flat_strs ss]
    rfl
theorem okInS {K : PySem.W.Frag} : OkOp K (fun x y H Q => rInA K x y H Q ∨ rIn K false x y H Q) (fInS false) := by
  intro m B H S d e x y W Q rs rd re p
  have gen : Post K m B H W (fun d _ m' H' => ∀ v, RD K m' B H' d v → Q v H') (fInA false d e S) → rInA K x y H Q ∨ rIn K false x y H Q := fun p => .inl (okInA m B H S d e x y W Q rs rd re p)
  cases d with
  | str i =>
    cases e with
    | tup ds =>
      simp only [fInS] at p
      split at p
      · rename_i ss hn
        unfold RD at rd re
        subst rd
        obtain ⟨r, vs, rfl, f, rv⟩ := re
        rw [strsD_ok _ rv hn] at f
        refine .inr ⟨r, _, rfl, .inr f.sq, rfl, flat_strs ss, ?_⟩
        simp only [inV_strs]
        exact p.now rs _ (RDb _)
      · exact p.elim
    | _ => exact gen p
  | _ => exact gen p
theorem ze_inS (hu : X.A.units + 65 < cLine) (ha : ZE X a da) (hb : ZE X b db) (hm : behindInMarks .In b = false := by rfl) : ZE X (.Compare a [.In] [b] pos) (e2 (fInS false) da db) := ze_cmp (((op_inD hu).or op_in_seq).or op_in_seq) okInS ha hb hm
theorem zt_inS (hu : X.A.units + 65 < cLine) (ha : ZE X a da) (hb : ZE X b db) (hm : behindInMarks .In b = false := by rfl) : ZT X (.Compare a [.In] [b] pos) (tVB (e2 (fInS false) da db)) := zt_cmp (((op_inD hu).or op_in_seq).or op_in_seq) okInS ha hb hm
end
end Z
namespace Z
open PySem PySem.Spec PyProof.Rows L2
/-! ### dict comprehensions -/
section
variable {X : Cx}
theorem sw_trueD {kx vx : Expr} {gs : List Comprehension} {scope : Scope} {pos py : Pos} {y : PySem.Str} {l : Nat} {env : PySem.Env} (hk : env.scope.kind = .function) (hy : env.scope.names.lookup y = some .local) (hl : (py.line == pos.line) = true)
    (ha : (scope.names.any fun (n, k) => n == y && (k == .local || k == .cell)) = false) : swapsWith (.DictComp kx vx gs scope pos) (some (.Name y py)) l env = pure true := by
  have kd : env.kindOf y = some .local := hy
  have bk : env.blockKind = .function := by unfold PySem.Env.blockKind; rw [hk]; rfl
  unfold swapsWith
  simp only [bk, kd, ha, Expr.pos, hl]
  rfl
theorem ps_setDc {i : Nat} {y : PySem.Str} {py : Pos} {kx vx tg iter : Expr} {ifs : List Expr} {scope : Scope} {own : List (PySem.Str × Nat)} {pos spos : Pos} {wi : TI} {g : TG} {tt : TT} {tk tv : TE} (hc : X.calm = true) (hN : X.N.Nodup) (hy : X.N[i]? = some y) (hyl : X.env.scope.names.lookup y = some .local)
    (hsw : swapsWith (.DictComp kx vx [⟨tg, iter, ifs, 0⟩] scope pos) (some (.Name y py)) spos.line X.env = pure true) (hi : PI X tg iter wi) (ok : BlkOk X.N X.env.scope scope own)
    (hg : InBlk X scope fun Y => PG Y tg g) (ht : InBlk X scope fun Y => PTs Y ifs tt) (hk : InBlk X scope fun Y => PE Y kx tk) (he : InBlk X scope fun Y => PE Y vx tv) (hs : ∀ x, foldedSetIterable iter X.env x = pure x) :
    PS X (.Assign [.Name y py] (.DictComp kx vx [⟨tg, iter, ifs, 0⟩] scope pos) spos) (tAsg (tDc wi g tt tk tv (own.map (·.2))) (gName i)) := by
  refine ⟨fun pins s σ H D I h => ?_⟩
  rw [exec_Assign_Name_used _ _ _ _ hsw]
  refine wpAny_bind (wpAny_standAt (wpAny_bind ?_))
  show wpAny _ X.A (do let _ ← comprehension (.DictComp kx vx [⟨tg, iter, ifs, 0⟩] scope pos) scope X.env (firstIterPos [⟨tg, iter, ifs, 0⟩] pos) newDict false (eval iter X.env) (some (assign (.Name y py) X.env))) _ _ s
  have h' : tDc wi g tt tk tv (own.map (·.2)) σ H (fun x H1 => gName i x σ H1 D.nx) := h
  refine wpAny_bind (thn (dc_core (Qf := fun _ z => SP X pins D .next z) hc hN I hi ok hg ht hk he hs h' fun L C sE m HE IE q hn f => ?_) fun _ z hq => wpAny_pure (wpAny_pure hq))
  show wpAny _ _ (assign (.Name y py) X.env (.ref L)) _ _ _
  refine wpAny_assign_Name (store_ok2 (v := V.ref L) IE hN hy (.inl hyl) rfl (fun s2 I2 ⟨a, sb, ha⟩ => ?_) (.inr hyl))
  obtain ⟨f0, f1, f2, f3, f4, f5⟩ := f
  have apart : C ≠ a := by
    rcases ha with z | z
    · rw [z]; exact f1
    · exact fun e => f4 y a z e.symm
  refine ⟨m, hn.sameBut sb apart, fun h3 sb3 => ?_⟩
  exact ⟨_, HE, I2.turned (t' := s2.toks) (fun b o hb e => (sb3.2 b hb).trans e) f0 f1 f3 f4 f5, q⟩
end
def dcPut (kvs : List (Key × D)) : List D → Option (List (Key × D))
  | [] => some kvs
  | .tup [x, y] :: r => match dKey x with
    | some k => dcPut (putA kvs k y) r
    | none => none
  | _ :: _ => none
noncomputable def eDc (tg : Tg) (i : DI) (t : DT) (k v : DE) (vs : List Nat) : DE := fun ρ S => (lLc tg i t (eTup (aC k (aC v aN))) vs ρ S).bind fun ps S1 => match dcPut [] ps with
  | some kvs => .ok (.ref S1.length) (S1 ++ [.dct kvs])
  | none => .bad
theorem pairE {dk dv : DE} {ρ : Env} {S S' : Sto} {y : D} (h : (eTup (aC dk (aC dv aN)) ρ S).safe = .ok y S') : ∃ a b S1, dk ρ S = .ok a S1 ∧ dv ρ S1 = .ok b S' ∧ y = .tup [a, b] := by
  unfold eTup aC aN at h
  cases hk : dk ρ S with
  | ok a S1 =>
    rw [hk] at h
    simp only [R.bind_ok] at h
    cases hv : dv ρ S1 with
    | ok b S2 =>
      rw [hv] at h
      simp only [R.bind_ok, R.safe_ok] at h
      cases h
      exact ⟨a, b, S1, rfl, hv, rfl⟩
    | exc c d S2 => rw [hv] at h; cases h
    | bad => rw [hv] at h; cases h
  | exc c d S2 => rw [hk] at h; cases h
  | bad => rw [hk] at h; cases h
theorem putA_len (kvs : List (Key × D)) (k : Key) (d : D) : (putA kvs k d).length ≤ kvs.length + 1 := by
  unfold putA
  split <;> simp
section
variable {K : PySem.W.Frag} {tg : Tg} {dt : DT} {dk dv : DE} {vs : List Nat} {ρ : Env} {σ : L2.St} {J : It} {ds : List D} {chk : Sto → Prop} {m0 B : List Addr} {H0 : Hp} {S0 : Sto} {Q : VK}
def PostDc (K : PySem.W.Frag) (m B : List Addr) (H : Hp) (Q : VK) (kvs : List (Key × D)) : R (List D) → Prop
  | .ok ps S' => ∃ kvs', dcPut kvs ps = some kvs' ∧ ∀ m' H' p vs, Ge m H m' H' → RS K m' (p :: B) H' S' → p ∉ B → Nw H p → H' p = some (.dK vs) → RFs K m' (p :: B) H' kvs' vs → Q (.ref p) H'
  | _ => False
theorem dc_walk (rs : RS K m0 B H0 S0) (e : REs K m0 B H0 ρ σ) (hc : chk S0) (jy : JY K J m0 B H0 ds chk) (hix : ∀ i ∈ tg.ix, i ∈ vs) (hz : ds.length ≤ 16777216)
    (p : PostDc K m0 B H0 Q [] (lcI tg chk dt (eTup (aC dk (aC dv aN))) (wipeD ρ vs) ds S0)) : ∀ Dl, H0 Dl = none → ∃ W : Nat → Nat → Hp → Prop, (∃ m, W 0 m (L2.upd H0 Dl (.dK []))) ∧ ∀ i m H, W i m H →
      (J.stop i H ∧ Q (.ref Dl) H) ∨ (J.go i H ∧ ∃ Nx : Hp → Prop, (∀ H', Nx H' → ∃ m', m' < m ∧ W (i + 1) m' H') ∧ ∀ x H', J.yld i H x H' → gT K tg x (wipe σ vs) H' fun σ2 H2 => wipe σ2 vs = wipe σ vs ∧ tTe WF K dt σ2 H2 fun b H3 =>
        if b = true then tE WF K dk σ2 H3 fun y H4 => tE WF K dv σ2 H4 fun z H5 => ∃ kvs k, y = kV k ∧ H5 Dl = some (.dK kvs) ∧ kvs.length < sizeLine ∧ Nx (L2.upd H5 Dl (.dK (putK kvs k z))) else Nx H3) := by
  intro Dl hD
  have hDB : Dl ∉ B := rs.notB hD
  let St := fun (i : Nat) (H : Hp) => i ≤ ds.length ∧ ∃ m S acc va, Ge m0 H0 m H ∧ Tr m0 B H0 m (Dl :: B) H ∧ RS K m (Dl :: B) H S ∧ chk S ∧ H Dl = some (.dK va) ∧ RFs K m (Dl :: B) H acc va ∧ acc.length ≤ i ∧
    PostDc K m0 B H0 Q acc (lcI tg chk dt (eTup (aC dk (aC dv aN))) (wipeD ρ vs) (ds.drop i) S)
  refine ⟨fun i k H => k = ds.length - i ∧ St i H, ⟨_, rfl, Nat.zero_le _, m0, S0, [], [], (rs.new hD).1, Tr.ban hD, rs.ban hD, hc, L2.upd_same, rfl, Nat.le_refl _, p⟩, ?_⟩
  rintro i k H ⟨rfl, hi, m, S, acc, va, g, tr, r, hch, hl, ra, hla, p2⟩
  by_cases hlt : i < ds.length
  · refine .inr ⟨jy.go i m (Dl :: B) H S tr r hch hlt, St (i + 1), fun H' h => ⟨ds.length - (i + 1), by omega, rfl, h⟩, fun x H3 y => ?_⟩
    obtain ⟨ext, rx⟩ := jy.yl i m (Dl :: B) H S x H3 ds[i] tr r hch (by simp [hlt]) y
    obtain ⟨g3, r3⟩ := r.ext ext
    rw [List.drop_eq_getElem_cons hlt] at p2
    unfold lcI at p2
    have ew : REs K m (Dl :: B) H3 (wipeD ρ vs) (wipe σ vs) := (e.mono (tr.trans g3.tr)).wipe vs
    cases ha : Tg.asg S tg ds[i] (wipeD ρ vs) with
    | none => rw [ha] at p2; exact (show False from p2).elim
    | some ρ1 =>
      rw [ha] at p2
      simp only at p2
      refine ⟨m, Dl :: B, S, _, wipeD ρ vs, ρ1, r3, rx, ew, ha, fun σ2 e2 sam => ⟨by rw [sam vs hix, wipe_wipe], m, Dl :: B, ρ1, S, r3, e2, ?_⟩⟩
      cases ht : dt ρ1 S with
      | exc _ _ _ => rw [ht] at p2; exact (show False from p2).elim
      | bad => rw [ht] at p2; exact (show False from p2).elim
      | ok b S1 =>
        rw [ht] at p2
        simp only [R.safe_ok, R.bind_ok] at p2
        refine fun m4 H4 g4 r4 => ?_
        have hl4 : H4 Dl = some (.dK va) := (g4.keep Dl _ (fun q => r3.dis Dl q (List.mem_cons_self ..)) (ext _ _ hl) (fun ps e => by cases e)).2
        have ra4 := RFs.mono (g3.tr.trans g4.tr) _ _ ra
        cases b with
        | false =>
          rw [if_neg Bool.false_ne_true] at p2
          show St (i + 1) H4
          split at p2
          · rename_i hc1
            exact ⟨hlt, m4, S1, acc, va, (g.trans g3).trans g4, (tr.trans g3.tr).trans g4.tr, r4, hc1, hl4, ra4, by omega, p2⟩
          · exact (show False from p2).elim
        | true =>
          rw [if_pos rfl] at p2
          show tE WF K dk σ2 H4 _
          refine ⟨m4, Dl :: B, ρ1, S1, r4, e2.mono g4.tr, ?_⟩
          cases he : (eTup (aC dk (aC dv aN)) ρ1 S1).safe with
          | exc _ _ _ => rw [he] at p2; exact (show False from p2).elim
          | bad => rw [he] at p2; exact (show False from p2).elim
          | ok y S3 =>
            rw [he] at p2
            simp only [R.bind_ok] at p2
            obtain ⟨a, b, S2, hk, hv, rfl⟩ := pairE he
            rw [hk]
            refine fun m5 H5 g5 r5 v rv => ?_
            show tE WF K dv σ2 H5 _
            refine ⟨m5, Dl :: B, ρ1, S2, r5, (e2.mono g4.tr).mono g5.tr, ?_⟩
            rw [hv]
            refine fun m6 H6 g6 r6 u ru => ?_
            have hl6 : H6 Dl = some (.dK va) := by
              have q5 := (g5.keep Dl _ (fun q => r4.dis Dl q (List.mem_cons_self ..)) hl4 (fun ps e => by cases e)).2
              exact (g6.keep Dl _ (fun q => r5.dis Dl q (List.mem_cons_self ..)) q5 (fun ps e => by cases e)).2
            have ra6 := RFs.mono (g5.trans g6).tr _ _ ra4
            split at p2
            · rename_i hc2
              cases hr : lcI tg chk dt (eTup (aC dk (aC dv aN))) (wipeD ρ vs) (ds.drop (i + 1)) S3 with
              | exc _ _ _ => rw [hr] at p2; exact (show False from p2).elim
              | bad => rw [hr] at p2; exact (show False from p2).elim
              | ok ps S4 =>
                rw [hr] at p2
                obtain ⟨kvs', h1, h2⟩ := p2
                unfold dcPut at h1
                split at h1
                · rename_i kk hkk
                  have p3 : PostDc K m0 B H0 Q (putA acc kk b) (lcI tg chk dt (eTup (aC dk (aC dv aN))) (wipeD ρ vs) (ds.drop (i + 1)) S3) := by
                    rw [hr]
                    exact ⟨kvs', h1, h2⟩
                  refine ⟨va, kk, dKey_ok rv hkk, hl6, ?_, hlt, m6, S3, putA acc kk b, _, ?_, ?_, ?_, hc2, L2.upd_same, ?_, ?_, p3⟩
                  · rw [← ra6.len1, sizeLine_eq]
                    omega
                  · have g7 := (((g.trans g3).trans g4).trans g5).trans g6
                    exact ⟨g7.pre, fun b o hb q nt => ⟨(g7.keep b o hb q nt).1, by rw [L2.upd_ne (ne_of_none q hD)]; exact (g7.keep b o hb q nt).2⟩⟩
                  · exact (((((tr.trans g3.tr).trans g4.tr).trans g5.tr).trans g6.tr)).trans (Tr.chg (List.mem_cons_self ..))
                  · exact r6.chg (List.mem_cons_self ..)
                  · have t := Tr.chg (m := m6) (B := Dl :: B) (H := H6) (u := .dK (putK va kk u)) (List.mem_cons_self ..)
                    exact RFs.putA (RD.mono t _ _ ru) (RFs.mono t _ _ ra6)
                  · have := putA_len acc kk b
                    omega
                · cases h1
            · exact (show False from p2).elim
  · have e' : i = ds.length := by omega
    subst e'
    rw [List.drop_length] at p2
    simp only [lcI] at p2
    obtain ⟨kvs', h1, h2⟩ := p2
    cases h1
    exact .inl ⟨jy.st _ m (Dl :: B) H S tr r hch (Nat.le_refl _), h2 m H Dl va g r hDB (nw_none hD) hl ra⟩
end
section
variable {X : Cx} {pos spos : Pos} {kx vx t iter : Expr} {ifs : List Expr} {scope : Scope} {own : List (PySem.Str × Nat)} {tg : Tg} {di : DI} {dt : DT} {dk dv : DE}
theorem tdc_weak {K : PySem.W.Frag} {W : WX} {vs : List Nat} (hix : ∀ i ∈ tg.ix, i ∈ vs) (σ : L2.St) (H : Hp) (Q : VK) (h : tE W K (eDc tg di dt dk dv vs) σ H Q) : tDc (tI W K di) (gT K tg) (tTe WF K dt) (tE WF K dk) (tE WF K dv) vs σ H Q := by
  obtain ⟨m, B, ρ, S, rs, e, p⟩ := h
  refine ⟨m, B, ρ, S, rs, e, ?_⟩
  unfold eDc lLc at p
  cases hd : di ρ S with
  | ok q S1 =>
    rw [hd] at p
    simp only [R.bind_ok] at p
    refine fun m1 H1 g1 r1 hc J jy => ?_
    split at p
    · rename_i hz
      refine dc_walk r1 (e.mono g1.tr) hc jy hix hz ?_
      cases h : lcI tg q.2 dt (eTup (aC dk (aC dv aN))) (wipeD ρ vs) q.1 S1 with
      | ok ps S' =>
        rw [h] at p
        simp only [R.bind_ok] at p
        cases hp : dcPut [] ps with
        | none => rw [hp] at p; exact (show False from p).elim
        | some kvs =>
          rw [hp] at p
          refine ⟨kvs, hp, fun m2 H2 pp va g2 r2 hB h0 h2 rv => ?_⟩
        
          have r3 := r2.own (o := .dct kvs) hB ⟨va, h2, RFs.mono Tr.own _ _ rv⟩
          refine p (m2 ++ [pp]) H2 ((g1.trans g2).own ?_) r3 (.ref pp) ?_
          · exact g1.new_wasN (r2.out g2) h0
          · unfold RD
            exact ⟨pp, rfl, by rw [← r2.len, List.getElem?_append_right (Nat.le_refl _)]; simp⟩
      | exc c d S' => exact absurd h (lcI_noexc _ _ _ _ _)
      | bad => rw [h] at p; exact p
    · exact (show False from p).elim
  | exc c d S1 => rw [hd] at p; exact p
  | bad => rw [hd] at p; exact p
theorem ze_dc (hc : X.calm = true) (hN : X.N.Nodup) (hi : ZI X t iter di) (ok : BlkOk X.N X.env.scope scope own) (hix : ∀ i ∈ tg.ix, i ∈ own.map (·.2))
    (hg : InBlk X scope fun Y => ZG Y t tg) (ht : InBlk X scope fun Y => ZTs Y ifs dt) (hk : InBlk X scope fun Y => ZE Y kx dk) (he : InBlk X scope fun Y => ZE Y vx dv) (hs : ∀ x, foldedSetIterable iter X.env x = pure x := by intro _; rfl) :
    ZE X (.DictComp kx vx [⟨t, iter, ifs, 0⟩] scope pos) (eDc tg di dt dk dv (own.map (·.2))) := fun W tk =>
  pe_weak (pe_dc (g := gT X.K tg) (tt := tTe WF X.K dt) (tk := tE WF X.K dk) (tv := tE WF X.K dv) hc hN (hi W tk) ok (fun s H C cl fp => hg s H C cl fp) (fun s H C cl fp => ht s H C cl fp WF takes0) (fun s H C cl fp => hk s H C cl fp WF takes0) (fun s H C cl fp => he s H C cl fp WF takes0) hs) fun σ H Q h => tdc_weak hix σ H Q h
theorem zs_setDc {i : Nat} {y : PySem.Str} {py : Pos} (hc : X.calm = true) (hN : X.N.Nodup) (hi : ZI X t iter di) (ok : BlkOk X.N X.env.scope scope own) (hix : ∀ i ∈ tg.ix, i ∈ own.map (·.2))
    (hg : InBlk X scope fun Y => ZG Y t tg) (ht : InBlk X scope fun Y => ZTs Y ifs dt) (hk : InBlk X scope fun Y => ZE Y kx dk) (he : InBlk X scope fun Y => ZE Y vx dv) (hy : X.N[i]? = some y := by rfl) (hyl : X.env.scope.names.lookup y = some .local := by rfl)
    (hsw : swapsWith (.DictComp kx vx [⟨t, iter, ifs, 0⟩] scope pos) (some (.Name y py)) spos.line X.env = pure true := by exact sw_trueD rfl rfl rfl (by decide +kernel)) (hs : ∀ x, foldedSetIterable iter X.env x = pure x := by intro _; rfl) :
    ZS X (.Assign [.Name y py] (.DictComp kx vx [⟨t, iter, ifs, 0⟩] scope pos) spos) (sSet i (eDc tg di dt dk dv (own.map (·.2)))) := fun W tk =>
  ps_weak (ps_setDc (g := gT X.K tg) (tt := tTe WF X.K dt) (tk := tE WF X.K dk) (tv := tE WF X.K dv) hc hN hy hyl hsw (hi W tk) ok (fun s H C cl fp => hg s H C cl fp) (fun s H C cl fp => ht s H C cl fp WF takes0) (fun s H C cl fp => hk s H C cl fp WF takes0) (fun s H C cl fp => he s H C cl fp WF takes0) hs) fun E σ H ⟨m, B, ρ, S, rs, e, p⟩ => by
    refine tdc_weak hix σ H _ ?_
    exact tE.takeS (da := eDc tg di dt dk dv (own.map (·.2))) rs e p fun d S1 m1 H1 v g1 r1 e1 rd p1 => p1 m1 H1 _ (.refl _ _) r1 (e1.set i rd)
end
end Z
namespace Z
open PySem PySem.Spec PyProof.Rows L2
/-! ### xs.index(y), the list in the store or not -/
def isLw (S : Sto) : D → Bool
  | .lst _ => true
  | .ref n => match S[n]? with
    | some (.lst _) => true
    | _ => false
  | _ => false
def eBW (f : D → List D → Sto → R D) (o : DE) (r : DA) : DE := fun ρ S => (o ρ S).bind fun d S1 => if isLw S1 d = true then (r ρ S1).bind fun ds S2 => f d ds S2 else .bad
def fIdxA : D → List D → Sto → R D
  | d, [y], S => if isLw S d = true then match toP S d, toP S y with
    | some (.list qs), some q => if SeqAt.shaped (.list qs) = true ∧ SeqAt.shaped q = true then match findP q qs 0 with
        | some j => .ok (.int (j : Nat)) S
        | none => .bad
      else .bad
    | _, _ => .bad else .bad
  | _, _, _ => .bad
theorem isLw_ref {K : PySem.W.Frag} {m B : List Addr} {H : Hp} {S : Sto} {d : D} {v : V} (rs : RS K m B H S) (rd : RD K m B H d v) (h : isLw S d = true) : tyV K "list" v H := by
  cases d <;> try (cases h; done)
  · exact isLv_ty rs rd rfl
  · rename_i n
    simp only [isLw] at h
    split at h
    · rename_i ds hn
      unfold RD at rd
      obtain ⟨a, rfl, q⟩ := rd
      obtain ⟨vs, ea, _⟩ := rs.ob n a _ q hn
      exact .inl ⟨rfl, vs, SqL.of ea⟩
    · cases h
theorem isLw_at {K : PySem.W.Frag} {m B : List Addr} {H : Hp} {S : Sto} {d : D} {v : V} (rd : RD K m B H d v) (h : isLw S d = true) : ∃ a, v = .ref a := by
  cases d <;> try (cases h; done)
  · unfold RD at rd
    obtain ⟨a, vs, rfl, _⟩ := rd
    exact ⟨a, rfl⟩
  · unfold RD at rd
    obtain ⟨a, rfl, _⟩ := rd
    exact ⟨a, rfl⟩
theorem okIdxA {K : PySem.W.Frag} : OkM K (rIndexD K) fIdxA := by
  intro m B H S d ds x vs W Q rs rd rds p
  match ds, rds, p with
  | [], _, p => exact p.elim
  | _ :: _ :: _, _, p => exact p.elim
  | [y], rds, p =>
    obtain ⟨w, rfl, rw'⟩ := rds.one
    simp only [fIdxA] at p
    split at p
    case isFalse => exact p.elim
    rename_i hL
    split at p
    case h_2 => exact p.elim
    rename_i qs q h1 h2
    split at p
    case isFalse => exact p.elim
    rename_i hs
    split at p
    case h_2 => exact p.elim
    rename_i j hj
    obtain ⟨k, z, e1, e2, e3, e4⟩ := findP_ok hj
    have t1 := toP_ok rs rd h1
    have t2 := toP_ok rs rw' h2
    obtain ⟨a, rfl⟩ := isLw_at rd hL
    have ek : j = k := by omega
    subst ek
    exact ⟨a, w, q, qs, j, z, rfl, rfl, t1, t2, hs.1, hs.2, e2, e3, e4, p.now rs _ (RDi _)⟩
section
variable {X : Cx} {pos apos : Pos} {e o : Expr} {dobj : DE} {t : DA}
theorem ze_idxA (hu : X.A.units + 65 < cLine) (ho : ZE X o dobj) (ha : ZA X [e] t) (hb : attributeBase o "index" X.env (eval o X.env) = eval o X.env := by rfl)
    (hfew : ((backTo pos (starEach [e] X.env)).all (fun x => !x.1) && (backToKw pos (keywordEach [] X.env)).all (fun x => x.1.isSome) && decide ([e].length + ([] : List Keyword).length + (if ([] : List Keyword).isEmpty then 0 else 1) < 30)) = true := by rfl)
    (hl : (apos.endLine == pos.line) = true := by rfl) (hs : starEach [e] X.env = (false, eval e X.env) :: starEach [] X.env := by rfl) : ZE X (.Call (.Attribute o "index" apos) [e] [] pos) (eBW fIdxA dobj t) := fun W tk =>
  pe_weak (pe_bm PySem.F.plainAttrs_list PySem.F.slot_list_index PySem.F.type_list_index (mt_indexD hu) (ho W tk) (ha W tk) hb hfew hl hs (by rfl)) fun σ H Q ⟨m, B, ρ, S, rs, e, p⟩ => tE.takeA rs e p fun d S1 m1 H1 v g1 r1 e1 rd p1 => by
    split at p1
    · rename_i hL
      exact ⟨isLw_ref r1 rd hL, tAr.take r1 e1 p1 fun ds S2 m2 H2 vs g2 r2 e2 rds p2 => okIdxA m2 B H2 S2 d ds v vs _ Q r2 (rd.mono g2.tr) rds p2⟩
    · exact p1.elim
end
section
variable {X : Cx} {pos p2 : Pos} {a b : Expr} {da db : DE}
theorem te_din {K : PySem.W.Frag} {W : WX} {neg : Bool} (σ : L2.St) (H : Hp) (Q : VK) : tE W K (e2 (fDIn neg) db da) σ H Q → tE W K db σ H fun y H1 => tE W K da σ H1 fun x H2 => ∃ a o, x = .ref a ∧ DGet H2 a y o ∧ Q (.bl (if neg = true then !o.isSome else o.isSome)) H2 := fun ⟨m, B, ρ, S, rs, e, p⟩ =>
  tE.take (f := fun x S1 => (da ρ S1).bind fun y S2 => fDIn neg x y S2) rs e p fun y S1 m1 H1 u g1 r1 e1 ry p1 => tE.take (f := fun x S2 => fDIn neg y x S2) r1 e1 p1 fun d S2 m2 H2 v g2 r2 e2 rd p2 => by
    cases d <;> try (cases y <;> exact p2.elim)
    rename_i n
    unfold RD at rd
    obtain ⟨q, rfl, hq⟩ := rd
    simp only [fDIn] at p2
    split at p2
    · rename_i kvs k hn hk
      obtain ⟨vs, ev, rv⟩ := r2.ob n q _ hq hn
      have hv := rv.val k
      refine ⟨q, valV vs k, rfl, by rw [dKey_ok (ry.mono g2.tr) hk]; exact DGet.k ev, ?_⟩
      have es : (valV vs k).isSome = (valA kvs k).isSome := by
        cases h : valA kvs k with
        | none => rw [hv.2 h]; rfl
        | some d => obtain ⟨w, hw, _⟩ := hv.1 d h; rw [hw]; rfl
      rw [es]
      exact p2.now r2 _ (RDb _)
    · exact p2.elim
theorem zt_din (hu : X.A.units + 1 < cLine) (hb : ZE X b db) (ha : ZE X a da) (hm : behindInMarks .In a = false := by rfl) : ZT X (.Compare b [.In] [a] pos) (tVB (e2 (fDIn false) db da)) := fun W tk =>
  pt_weak (pt_cmp (pc_din hu (hb W tk) (ha W tk)) hm) fun σ H Q ⟨m, B, ρ, S, rs, e, p⟩ => te_din (neg := false) σ H _ (te_bool rs e p)
theorem zt_dnotin (hu : X.A.units + 1 < cLine) (hb : ZE X b db) (ha : ZE X a da) (hm : behindInMarks .NotIn a = false := by rfl) : ZT X (.Compare b [.NotIn] [a] pos) (tVB (e2 (fDIn true) db da)) := fun W tk =>
  pt_weak (pt_cmp (pc_dnotin hu (hb W tk) (ha W tk)) hm) fun σ H Q ⟨m, B, ρ, S, rs, e, p⟩ => te_din (neg := true) σ H _ (te_bool rs e p)
theorem te_neNil {K : PySem.W.Frag} {W : WX} (σ : L2.St) (H : Hp) (Q : VK) : tE W K (e1 fNonNil da) σ H Q → tOp rNeNil (tE W K da) tDNewK σ H Q := fun ⟨m, B, ρ, S, rs, e, p⟩ =>
  tE.take (f := fNonNil) rs e p fun d S1 m1 H1 v g1 r1 e1 rd p1 => fun q hq => by
    cases d <;> try exact p1.elim
    rename_i n
    unfold RD at rd
    obtain ⟨r, rfl, hr⟩ := rd
    simp only [fNonNil] at p1
    split at p1
    · rename_i kvs hn
      obtain ⟨vs, ev, rv⟩ := r1.ob n r _ hr hn
      obtain ⟨g2, r2⟩ := r1.new (u := .dK []) hq
      refine ⟨r, q, vs, rfl, rfl, new_ext hq _ _ ev, L2.upd_same, ?_⟩
      have es : vs.isEmpty = kvs.isEmpty := by
        have := rv.len1
        cases vs <;> cases kvs <;> simp at this ⊢
      rw [es]
      exact p1 m1 _ g2 r2 _ (RDb _)
    · exact p1.elim
theorem zt_neNil (hu : X.A.units < cLine) (ha : ZE X a da) : ZT X (.Compare a [.NotEq] [.Dict [] [] p2] pos) (tVB (e1 fNonNil da)) := fun W tk => pt_weak (pt_cmpR (op_neNil hu) (ha W tk) pe_dnewK (nomark _)) fun σ H Q ⟨m, B, ρ, S, rs, e, p⟩ => te_neNil σ H _ (te_bool rs e p)
end
end Z
namespace Z
open PySem PySem.Spec PyProof.Rows L2
/-! ### a tuple very many times -/
def rRepW (K : PySem.W.Frag) : R2 := fun x y H Q => ∃ (l : Addr) (j : Nat) (xs : List V), x = .ref l ∧ y = .int (j : Int) ∧ SqT K H l xs ∧ xs ≠ [] ∧ 2 ≤ j ∧ xs.length * j ≤ 1000000 ∧ ∀ p, H p = none → Q (.ref p) (L2.upd H p (.tup (List.replicate j xs).flatten))
section
variable {X : Cx}
theorem op_repW : OpR X (binaryOp .Mult) (rRepW X.K) := by
  intro pins s σ H x y v u Q I rx ry hh
  obtain ⟨l, j, xs, rfl, rfl, hT, ne, j2, few, q⟩ := hh
  obtain rfl : v = Value.ref l := rx
  obtain ⟨t, rfl⟩ : ∃ t, u = Value.int (j : Int) t := ry
  obtain ⟨its, rv, ⟨⟨cls, dd, data, sl⟩, ho, hc, n, hd⟩, room⟩ := I.tuple hT
  simp only at hc hd
  subst hc hd
  have len : its.length = xs.length := rv.length.symm
  have some1 : 0 < xs.length := List.length_pos_iff.mpr ne
  have size : its.toArray.size = xs.length := by rw [List.size_toArray, len]
  have jm : j ≤ 1000000 := Nat.le_trans (Nat.le_mul_of_pos_left j some1) few
  have prod : ((its.toArray.size : Nat) : Int) * (j : Int) = ((xs.length * j : Nat) : Int) := by rw [size]; exact (Int.natCast_mul ..).symm
  have tn : ((j : Int)).toNat = j := Int.toNat_natCast j
  have rl : ∀ {α : Type} (zs : List α), zs.length = xs.length → (List.replicate j zs).flatten.length ≤ sizeLine := fun zs hz => by
    rw [PyProof.Rows.lm_len_rep_flat, hz, sizeLine_eq, Nat.mul_comm]
    omega
  have k0 : (decide ((j : Int) < -(2 ^ 63)) || decide ((j : Int) ≥ 2 ^ 63)) = false := by
    rw [Bool.or_eq_false_iff]
    exact ⟨decide_eq_false (by omega), decide_eq_false (by omega)⟩
  have em : its.toArray.isEmpty = false := by
    cases its with
    | nil => rw [List.length_nil] at len; omega
    | cons a b => rfl
  have k1 : (its.toArray.isEmpty || (j : Int) == 1) = false := by
    rw [em]
    exact beq_eq_false_iff_ne.mpr (by omega)
  have k2 : (decide ((j : Int) ≤ 0) || its.toArray.isEmpty) = false := by
    rw [em]
    simp only [Bool.or_false]
    exact decide_eq_false (by omega)
  have k3 : ¬ ((its.toArray.size : Nat) : Int) * (j : Int) > (2 ^ 63 - 1) / 8 := by rw [prod]; omega
  have k4 : Builtin.Tuple.tupleTooMany (((its.toArray.size : Nat) : Int) * (j : Int)) = false := by
    rw [prod]
    unfold Builtin.Tuple.tupleTooMany
    exact decide_eq_false (by rw [sizeLine_eq]; omega)
  have k5 : (List.foldl (fun x1 x2 => x1 ++ x2) #[] (List.replicate ((j : Int)).toNat its.toArray)).size ≤ sizeLine := by
    rw [tn, size_rep, List.size_toArray]
    exact rl its len
  have mul := tuple_mulW l its.toArray n dd sl (j : Int) t k0 k1 k2 k3 k4 k5
  refine wpAny_binaryOp_repeat_ref (U := "int") (T := "tuple") (by decide) ⟨_, ho, rfl⟩ (fun z => typeIs_int z (j : Int) t) noFill_tuple_mul F.fills_int_mul F.slot_int_rmul repeat_tuple F.slot_int_index.lookup ?_
  refine call_meets F.slot_int_rmul (typeIs_int s (j : Int) t) F.entry_int_rmul (F.args_int_rmul_2 _ _) (int_rmul_tuple (j : Int) t l its.toArray n dd sl) ⟨ho, rfl, ⟨_, ho, rfl⟩, ?_⟩
  refine call_meets F.slot_tuple_mul ⟨_, ho, rfl⟩ F.entry_tuple_mul (F.args_tuple_mul_2 _ _) mul ⟨ho, ?_⟩
  rw [tn, size_rep]
  exact ⟨.ref s.heap.objs.size, _, I.laid (o := .tup (List.replicate j xs).flatten) (t' := s.toks) (fun b ob z => Heap.get?_push_of_some _ z) (Nat.le_refl _) ⟨rl xs rfl, _, rv.rep j, IsTup.new _ _⟩, rfl, q _ (I.hok.fresh (Nat.le_refl _))⟩
def fRepW : D → D → Sto → R D
  | .tup ds, .int k, S => if ds ≠ [] ∧ 2 ≤ k ∧ ds.length * k.toNat ≤ 1000000 then .ok (.tup (List.replicate k.toNat ds).flatten) S else .bad
  | _, _, _ => .bad
theorem okRepW {K : PySem.W.Frag} : OkOp K (rRepW K) fRepW := by
  intro m B H S d e x y W Q rs rd re p
  cases d with
  | tup ds =>
    cases e with
    | int k =>
      unfold RD at rd re
      obtain ⟨a, vs, rfl, f, r⟩ := rd
      subst re
      simp only [fRepW] at p
      split at p
      · rename_i h
        obtain ⟨h1, h2, h3⟩ := h
        have ek : k = ((k.toNat : Nat) : Int) := by omega
        refine ⟨a, k.toNat, vs, rfl, by rw [← ek], f.sq, fun e0 => h1 (List.length_eq_zero_iff.mp (by rw [r.len, e0]; rfl)), by omega, by rw [← r.len]; exact h3, fun q hq => ?_⟩
        obtain ⟨g2, r2⟩ := rs.new (u := .tup (List.replicate k.toNat vs).flatten) hq
        refine p m _ g2 r2 _ ?_
        unfold RD
        exact ⟨q, _, rfl, .inl ⟨rs.notin hq, rs.notB hq, .inl L2.upd_same⟩, RDs.mono g2.tr _ _ (r.rep _)⟩
      · exact p.elim
    | _ => exact p.elim
  | _ => cases e <;> exact p.elim
theorem ze_repW {pos : Pos} {a b : Expr} {da db : DE} (ha : ZE X a da) (hb : ZE X b db) : ZE X (.BinOp a .Mult b pos) (e2 fRepW da db) := ze_op op_repW okRepW ha hb
end
end Z
namespace Z
open PySem PySem.Spec PyProof.Rows L2 PpSet
/-! ### sorted({.. for ..}), tuples of whole numbers -/
def entT (P : Program) (w : World) (D : Addr) (L : List (Addr × List Int)) : HO := SetTO P w D L
def preT (K : PySem.W.Frag) (H : Hp) (L : List (Addr × List Int)) (y : V) : Prop := L.length + 1 < 64 ∧ (∀ p ∈ L, SqT K H p.1 (p.2.map V.int)) ∧ ∃ (x : Addr) (k : List Int), y = .ref x ∧ SqT K H x (k.map V.int)
def postT (K : PySem.W.Frag) (H : Hp) (L : List (Addr × List Int)) (y : V) (L' : List (Addr × List Int)) : Prop := ∀ (x : Addr) (k : List Int), y = .ref x → SqT K H x (k.map V.int) → (k ∈ L.map (·.2) → L' = L) ∧ (k ∉ L.map (·.2) → L'.Perm ((x, k) :: L))
theorem newT (P : Program) (w : World) : NewR P w (entT P w) [] := fun H h => by
  have e : (h.push (emptyS w)).get? h.objs.size = some (emptyS w) := Heap.get?_push_size h rfl
  exact setTO_new (setTR_fresh (P := P) e).t0
theorem ints_of {k k' : List Int} (h : k.map V.int = k'.map V.int) : k = k' := by
  induction k generalizing k' with
  | nil =>
    cases k' with
    | nil => rfl
    | cons x k' => cases h
  | cons x k ih =>
    cases k' with
    | nil => cases h
    | cons y k' =>
      rw [List.map_cons, List.map_cons] at h
      injection h with h1 h2
      injection h1 with h1
      rw [h1, ih h2]
theorem addT (X : Cx) (hu : X.A.units + 1 < cLine) : AddR X (entT X.prog X.w) (preT X.K) (postT X.K) := fun pins σ H s E D L y u Q I ry hD hpre h => by
  obtain ⟨hfew, hL, x, k, rfl, hx⟩ := hpre
  cases ry
  have R0 : SetT0 X.prog X.w s.heap D L := (I.hok D _ hD).1
  obtain ⟨es, ep, t, R⟩ := R0.full fun p hp => I.isT (hL p hp)
  obtain ⟨o, ho, hex, hd⟩ := R.ob
  refine wpAny_call_entry F.slot_set_add ⟨o, ho, hex.1⟩ F.entry_set_add ?_ (F.args_set_add_2 _ _)
  unfold Builtin.«set.add» Builtin.Frozenset.oneOther
  simp only [List.isEmpty_nil, bind_assoc]
  unfold Builtin.Frozenset.addrOf setAdd
  refine wpAny_bind (wpAny_pure ?_)
  try dsimp only
  refine wpAny_bind (wpAny_pure ?_)
  try dsimp only
  refine wpAny_bind ?_
  refine wpAny_holding ?_
  refine wpAny_bind (wpAny_pyHash_tuple (by rw [Around.in1_units]; exact hu) (I.isT hx) ?_)
  refine add_at (s := { s with toks := s.toks + (k.length + 1) }) R (I.isT hx) (by rw [Around.in1_units]; exact hu) hfew fun b h' L' es' ep' t' hsb R' c1 c2 => ?_
  show wpAny _ _ (ret Value.none) _ _ _
  refine wpAny_pure ⟨_, rfl, ?_⟩
  have there : ∃ o, h'.get? D = some o := by
    obtain ⟨o, ho, _⟩ := R'.ob
    exact ⟨o, ho⟩
  refine h L' _ (fun x' k' e hx' => ?_) (I.write (e := D) (t' := s.toks + (k.length + 1)) (by rw [hD]; trivial) (.inl rfl) (fun b o hb e => (hsb.2 b hb).trans e) there (setTO_new R'.t0))
  cases e
  have ek : k' = k := ints_of (I.tuple_inj hx' hx)
  subst ek
  exact ⟨c1, c2⟩
def isTupI (d : D) : Bool := (tupI d).isSome
def beT (K : PySem.W.Frag) : List Addr → List Addr → Hp → List (Addr × List Int) → List D → Prop := fun m B H L acc => ∃ kss : List (List Int), acc = kss.map (fun k => D.tup (k.map D.int)) ∧ (∀ p ∈ L, RD K m B H (.tup (p.2.map D.int)) (.ref p.1) ∧ p.2 ∈ kss) ∧ (∀ k ∈ kss, k ∈ L.map (·.2)) ∧ L.length ≤ kss.length
theorem sqT_of {K : PySem.W.Frag} {m B : List Addr} {H : Hp} {k : List Int} {x : Addr} (h : RD K m B H (.tup (k.map D.int)) (.ref x)) : SqT K H x (k.map V.int) := by
  obtain ⟨b, e, q⟩ := h.tupI
  cases e
  exact q
theorem bearT (K : PySem.W.Frag) (P : Program) (w : World) : Bear K (entT P w) [] (preT K) (postT K) 63 isTupI (beT K) where
  nx := fun p L => nx_ext (a := p) fun g hg => by
    obtain ⟨es, ep, t, ⟨o, h1, _, h2⟩, _⟩ := hg.ex
    exact ⟨o, es, ep, t, h1, h2⟩
  zero := fun m B H => ⟨[], rfl, fun p h => absurd h (by simp), fun k h => absurd h (by simp), Nat.le_refl _⟩
  mono := fun {m B H m' B' H' a acc} g ⟨kss, e1, e2, e3, e4⟩ => ⟨kss, e1, fun p hp => ⟨(e2 p hp).1.mono g, (e2 p hp).2⟩, e3, e4⟩
  add := fun {m B H L acc y v} ⟨kss, e1, e2, e3, e4⟩ rd hy hl => by
    obtain ⟨k, hk⟩ := Option.isSome_iff_exists.mp hy
    have ey := tupI_eq hk
    subst ey
    obtain ⟨x, rfl, hx⟩ := rd.tupI
    have hl' : kss.length < 63 := by rw [e1, List.length_map] at hl; exact hl
    refine ⟨⟨by omega, fun p hp => sqT_of (e2 p hp).1, x, k, rfl, hx⟩, fun L' hpost => ?_⟩
    obtain ⟨p1, p2⟩ := hpost x k rfl hx
    by_cases hm : k ∈ L.map (·.2)
    · have e := p1 hm
      subst e
      refine ⟨kss ++ [k], by rw [e1]; simp, fun p hp => ⟨(e2 p hp).1, List.mem_append_left _ (e2 p hp).2⟩, fun j hj => ?_, by simp; omega⟩
      rcases List.mem_append.mp hj with hj | hj
      · exact e3 j hj
      · rw [List.mem_singleton] at hj
        subst hj
        exact hm
    · have pm := p2 hm
      refine ⟨kss ++ [k], by rw [e1]; simp, fun p hp => ?_, fun j hj => ?_, by rw [pm.length_eq]; simp; omega⟩
      · rcases List.mem_cons.mp (pm.mem_iff.mp hp) with rfl | hp
        · exact ⟨rd, by simp⟩
        · exact ⟨(e2 p hp).1, List.mem_append_left _ (e2 p hp).2⟩
      · rw [(pm.map (·.2)).mem_iff, List.map_cons]
        rcases List.mem_append.mp hj with hj | hj
        · exact List.mem_cons_of_mem _ (e3 j hj)
        · rw [List.mem_singleton] at hj
          subst hj
          exact List.mem_cons_self ..
def gSt (ds : List D) (S : Sto) : R (List D) := if ds.length < 64 ∧ (ds.all isTupI) = true ∧ (ds = [] ∨ 1 ≤ lenT ds ∧ tupsB (lenT ds) ds = true) then .ok (usortK keyT ds) S else .bad
noncomputable def lSortSt (tg : Tg) (i : DI) (t : DT) (e : DE) (vs : List Nat) : DA := fun ρ S => (lLc tg i t e vs ρ S).bind gSt
noncomputable def lSortSt2 (tg : Tg) (i : DI) (t : DT) (tg1 : Tg) (i1 : DI) (t1 : DT) (e : DE) (vs vs1 : List Nat) : DA := fun ρ S => (lLc2 tg i t tg1 i1 t1 e vs vs1 ρ S).bind gSt
/-- what sorted makes of the set -/
theorem st_end {K : PySem.W.Frag} {P : Program} {w : World} {W : Value → Option Addr → Hp → Prop} {m B m' : List Addr} {H H' : Hp} {ds : List D} {S' : Sto} {Q : VK} {p : Addr} {L : List (Addr × List Int)} (pl : PostL K m B H W Q (gSt ds S')) (g : Ge m H m' H') (r : RS K m' (p :: B) H' S') (hl : H' p = some (entT P w p L)) (hb : beT K m' (p :: B) H' L ds) : rSortedT K P w [.ref p] H' Q := by
  unfold gSt at pl
  split at pl
  · rename_i hk
    obtain ⟨hk1, hk2, hk3⟩ := hk
    obtain ⟨kss, e1, e2, e3, e4⟩ := hb
    obtain ⟨d, hd1, hall⟩ : ∃ d, 1 ≤ d ∧ ∀ x ∈ ds, ∃ ns : List Int, x = .tup (ns.map D.int) ∧ ns.length = d ∧ TS.Bd 1024 ns := by
      rcases hk3 with rfl | ⟨h1, h2⟩
      · exact ⟨1, Nat.le_refl _, fun x h => absurd h (by simp)⟩
      · exact ⟨lenT ds, h1, fun x hx => tupsB_at h2 hx⟩
    have hinj : ∀ x ∈ ds, ∀ y ∈ ds, keyT x = keyT y → x = y := fun x hx y hy e => by
      obtain ⟨n1, rfl, l1, b1⟩ := hall x hx
      obtain ⟨n2, rfl, l2, b2⟩ := hall y hy
      rw [keyT_tup, keyT_tup] at e
      rw [code_inj (by omega) b1 b2 e]
    have hbd : ∀ p ∈ L, p.2.length = d ∧ TS.Bd 1024 p.2 := fun p hp => by
      obtain ⟨ns, f1, f2, f3⟩ := hall (.tup (p.2.map D.int)) (by rw [e1]; exact List.mem_map.mpr ⟨p.2, (e2 p hp).2, rfl⟩)
      have e4 : p.2 = ns := by
        have := congrArg tupI f1
        simp only [tupI, intsD_map] at this
        exact Option.some.inj this
      rw [e4]
      exact ⟨f2, f3⟩
    refine ⟨p, L, d, 1024, rfl, hl, fun q hq => sqT_of (e2 q hq).1, hd1, hbd, fun L' b hpm hnd hlen hpw hp => ?_⟩
    have hsub : ∀ q ∈ L', q ∈ L := fun q hq => hpm.mem_iff.mp hq
    have eq : L'.map (fun q => D.tup (q.2.map D.int)) = usortK keyT ds := by
      refine usortK_uniq (fun z => ?_) ?_ hinj
      · rw [e1]
        constructor
        · intro hz
          obtain ⟨q, hq, rfl⟩ := List.mem_map.mp hz
          exact List.mem_map.mpr ⟨q.2, (e2 q (hsub q hq)).2, rfl⟩
        · intro hz
          obtain ⟨k, hk, rfl⟩ := List.mem_map.mp hz
          obtain ⟨q, hq, rfl⟩ := List.mem_map.mp (e3 k hk)
          exact List.mem_map.mpr ⟨q, hpm.mem_iff.mpr hq, rfl⟩
      · rw [List.pairwise_map]
        have hnd' : L'.Pairwise fun q r => q.2 ≠ r.2 := List.pairwise_map.mp hnd
        refine (hpw.and hnd').imp_of_mem fun {q r} hq hr ⟨h1, h2⟩ => ?_
        rw [keyT_tup, keyT_tup]
        have b1 := hbd q (hsub q hq)
        have b2 := hbd r (hsub r hr)
        rcases Int.lt_or_eq_of_le h1 with c | c
        · exact c
        · exact absurd (code_inj (by omega) b1.2 b2.2 c) h2
    rw [← eq] at pl
    have rr : RDs K m' B H' (L'.map fun q => D.tup (q.2.map D.int)) (L'.map fun q => V.ref q.1) := by
      clear eq hpm hnd hlen hpw pl
      induction L' with
      | nil => exact RDs.nil
      | cons q L' ih => exact RDs.cons ((e2 q (hsub q (List.mem_cons_self ..))).1.mono Tr.free) (ih fun r hr => hsub r (List.mem_cons_of_mem _ hr))
    exact PostL.put (pl.ge g) r.free rr hp
  · exact (show False from pl).elim
section
variable {X : Cx} {pos p0 spos : Pos} {elt t iter t1 iter1 : Expr} {ifs ifs1 : List Expr} {scope : Scope} {own : List (PySem.Str × Nat)} {tg tg1 : Tg} {di di1 : DI} {dt dt1 : DT} {de : DE}
theorem gSt_ok {ds : List D} {S S' : Sto} {xs : List D} (h : gSt ds S = .ok xs S') : ds.length ≤ 63 ∧ ∀ y ∈ ds, isTupI y = true := by
  unfold gSt at h
  split at h
  · rename_i hk
    exact ⟨by omega, fun y hy => List.all_eq_true.mp hk.2.1 y hy⟩
  · cases h
theorem gSt_post {K : PySem.W.Frag} {m B : List Addr} {H : Hp} {W : Value → Option Addr → Hp → Prop} {Q : VK} {ds : List D} {S : Sto} (p : PostL K m B H W Q (gSt ds S)) : ds.length ≤ 63 ∧ ∀ y ∈ ds, isTupI y = true := by
  by_cases hk : ds.length < 64 ∧ (ds.all isTupI) = true ∧ (ds = [] ∨ 1 ≤ lenT ds ∧ tupsB (lenT ds) ds = true)
  · exact ⟨by omega, fun y hy => List.all_eq_true.mp hk.2.1 y hy⟩
  · have : gSt ds S = .bad := by unfold gSt; rw [if_neg hk]
    rw [this] at p
    exact (show False from p).elim
theorem zl_sortSt (hm : X.mg "sorted" = none) (hc : X.calm = true) (hu : X.A.units + 1 < cLine) (hN : X.N.Nodup) (hi : ZI X t iter di) (ok : BlkOk X.N X.env.scope scope own) (hix : ∀ i ∈ tg.ix, i ∈ own.map (·.2))
    (hg : InBlk X scope fun Y => ZG Y t tg) (ht : InBlk X scope fun Y => ZTs Y ifs dt) (he : InBlk X scope fun Y => ZE Y elt de) (hgl : Gl X "sorted" := by rfl) (hs : ∀ x, foldedSetIterable iter X.env x = pure x := by intro _; rfl)
    (he2 : starEach [.SetComp elt [⟨t, iter, ifs, 0⟩] scope spos] X.env = (false, eval (.SetComp elt [⟨t, iter, ifs, 0⟩] scope spos) X.env) :: starEach [] X.env := by rfl) :
    ZL X (.Call (.Name "sorted" p0) [.SetComp elt [⟨t, iter, ifs, 0⟩] scope spos] [] pos) (lSortSt tg di dt de (own.map (·.2))) := fun W tk =>
  pe_weak (pe_callB (cr_sortedT hc) hgl hm (by decide +kernel) (pa_cons (pe_sg (ent := entT X.prog X.w) (a0 := []) (pre := preT X.K) (post := postT X.K) (g := gT X.K tg) (tt := tTe WF X.K dt) (te := tE WF X.K de) hc hN (newT _ _) (hi W tk) ok (fun s H C cl fp => addT _ hu) (fun s H C cl fp => hg s H C cl fp) (fun s H C cl fp => ht s H C cl fp WF takes0) (fun s H C cl fp => he s H C cl fp WF takes0) hs) pa_nil he2) (by decide) (by decide) he2 (by rfl)) fun σ H Q ⟨m, B, ρ, S, rs, e, p⟩ => by
    refine ⟨m, B, ρ, S, rs, e, ?_⟩
    unfold lSortSt lLc at p
    cases hd : di ρ S with
    | ok q S1 =>
      rw [hd] at p
      simp only [R.bind_ok] at p
      refine fun m1 H1 g1 r1 hc J jy => ?_
      split at p
      case isFalse => exact (show False from p).elim
      rename_i hz
      refine sg_walk (dt := dt) (de := de) (Q := fun v H => rSortedT X.K X.prog X.w [v] H Q) (bearT X.K X.prog X.w) r1 (e.mono g1.tr) hc jy hix ?_
      cases h : lcI tg q.2 dt de (wipeD ρ (own.map (·.2))) q.1 S1 with
      | ok ys S' =>
        rw [h] at p
        have p' : PostL X.K m B H (fun c x H' => W c x σ H') Q (gSt ys S') := p
        have hk := gSt_post p'
        exact ⟨hk.1, hk.2, fun m2 H2 pp a g2 r2 hB h0 h2 hb => st_end p' (g1.trans g2) r2 h2 hb⟩
      | exc c d S' => exact absurd h (lcI_noexc _ _ _ _ _)
      | bad => rw [h] at p; exact p
    | exc c d S1 => rw [hd] at p; exact p
    | bad => rw [hd] at p; exact p
theorem zl_sortSt2 {vs1 : List Nat} (hm : X.mg "sorted" = none) (hc : X.calm = true) (hu : X.A.units + 1 < cLine) (hN : X.N.Nodup) (hi : ZI X t iter di) (ok : BlkOk X.N X.env.scope scope own) (hix : ∀ i ∈ tg.ix, i ∈ own.map (·.2)) (hix1 : ∀ i ∈ tg1.ix, i ∈ vs1) (hv : ∀ i ∈ vs1, i ∈ own.map (·.2))
    (hg : InBlk X scope fun Y => ZG Y t tg) (ht : InBlk X scope fun Y => ZTs Y ifs dt) (hi1 : InBlk X scope fun Y => ZI Y t1 iter1 di1) (hg1 : InBlk X scope fun Y => ZG Y t1 tg1) (ht1 : InBlk X scope fun Y => ZTs Y ifs1 dt1) (he : InBlk X scope fun Y => ZE Y elt de) (hgl : Gl X "sorted" := by rfl)
    (hs : ∀ x, foldedSetIterable iter X.env x = pure x := by intro _; rfl) (hs1 : ∀ env x, foldedSetIterable iter1 env x = pure x := by intro _ _; rfl)
    (he2 : starEach [.SetComp elt [⟨t, iter, ifs, 0⟩, ⟨t1, iter1, ifs1, 0⟩] scope spos] X.env = (false, eval (.SetComp elt [⟨t, iter, ifs, 0⟩, ⟨t1, iter1, ifs1, 0⟩] scope spos) X.env) :: starEach [] X.env := by rfl) :
    ZL X (.Call (.Name "sorted" p0) [.SetComp elt [⟨t, iter, ifs, 0⟩, ⟨t1, iter1, ifs1, 0⟩] scope spos] [] pos) (lSortSt2 tg di dt tg1 di1 dt1 de (own.map (·.2)) vs1) := fun W tk =>
  pe_weak (pe_callB (cr_sortedT hc) hgl hm (by decide +kernel) (pa_cons (pe_sg2 (ent := entT X.prog X.w) (a0 := []) (pre := preT X.K) (post := postT X.K) (g := gT X.K tg) (tt := tTe WF X.K dt) (wi1 := tI WF X.K di1) (g1 := gT X.K tg1) (tt1 := tTe WF X.K dt1) (te := tE WF X.K de) hc hN (newT _ _) (hi W tk) ok hv (fun s H C cl fp => addT _ hu) (fun s H C cl fp => hg s H C cl fp) (fun s H C cl fp => ht s H C cl fp WF takes0)
    (fun s H C cl fp => hi1 s H C cl fp WF takes0) (fun s H C cl fp => hg1 s H C cl fp) (fun s H C cl fp => ht1 s H C cl fp WF takes0) (fun s H C cl fp => he s H C cl fp WF takes0) hs hs1) pa_nil he2) (by decide) (by decide) he2 (by rfl)) fun σ H Q ⟨m, B, ρ, S, rs, e, p⟩ => by
    refine ⟨m, B, ρ, S, rs, e, ?_⟩
    unfold lSortSt2 lLc2 at p
    cases hd : di ρ S with
    | ok q S1 =>
      rw [hd] at p
      simp only [R.bind_ok] at p
      refine fun m1 H1 g1 r1 hc J jy => ?_
      refine sg2_walk (dt := dt) (de := de) (dt1 := dt1) (di1 := di1) (Q := fun v H => rSortedT X.K X.prog X.w [v] H Q) (bearT X.K X.prog X.w) r1 (e.mono g1.tr) hc jy hix hix1 ?_
      cases h : lc2I tg q.2 dt (innI tg1 di1 dt1 de vs1) (wipeD ρ (own.map (·.2))) q.1 S1 with
      | ok ys S' =>
        rw [h] at p
        simp only [R.safe_ok, R.bind_ok] at p
        split at p
        case isFalse => exact (show False from p).elim
        rename_i hz
        have p' : PostL X.K m B H (fun c x H' => W c x σ H') Q (gSt ys S') := p
        have hk := gSt_post p'
        exact ⟨hk.1, hk.2, fun m2 H2 pp a g2 r2 hB h0 h2 hb => st_end p' (g1.trans g2) r2 h2 hb⟩
      | exc c d S' => rw [h] at p; exact (show False from p).elim
      | bad => rw [h] at p; exact (show False from p).elim
    | exc c d S1 => rw [hd] at p; exact p
    | bad => rw [hd] at p; exact p
end
end Z
namespace Z
open PySem PySem.Spec PyProof.Rows L2 PpSet
/-! ### len(set(xs)), whole numbers -/
/-- each once, by first coming -/
def ddI (ns : List Int) : List Int := ns.foldl (fun acc n => if n ∈ acc then acc else acc ++ [n]) []
theorem firstMet_dd (ns : List Int) : firstMet (fun i => ns.getD i 0) ns.length = ddI ns := by
  have e : (List.range ns.length).map (fun i => ns.getD i 0) = ns := by
    apply List.ext_getElem?
    intro i
    by_cases hi : i < ns.length
    · rw [List.getElem?_map, List.getElem?_range hi]
      simp [hi]
    · rw [List.getElem?_eq_none (by simp; omega), List.getElem?_eq_none (by omega)]
  unfold firstMet ddI
  rw [e]
  have st : (step_dedup : List Int → Int → List Int) = fun acc n => if n ∈ acc then acc else acc ++ [n] := by
    funext acc n
    unfold step_dedup
    have q : (acc.any (· == n)) = decide (n ∈ acc) := by
      rw [Bool.eq_iff_iff, List.any_eq_true, decide_eq_true_eq]
      constructor
      · rintro ⟨x, hx, e⟩
        rw [← beq_iff_eq.mp e]
        exact hx
      · exact fun h => ⟨n, h, by simp⟩
    rw [q]
    by_cases h : n ∈ acc <;> simp [h]
  rw [st]
def tLenSetD (K : PySem.W.Frag) (ta : TE) : TE := fun σ H Q => ta σ H fun x H1 => ∃ (l : Addr) (ns : List Int), x = V.ref l ∧ SqL K H1 l (ns.map V.int) ∧ ns.length < 64 ∧ Q (.int (ddI ns).length) H1
theorem pe_lenSetD {X : Cx} {a : Expr} {ta : TE} {p p2 q pos : Pos} (calm : X.calm = true) (gl : Gl X "len") (ml : X.mg "len" = none) (gs : Gl X "set") (ms : X.mg "set" = none) (pa : PE X a ta)
    (one : starEach [a] X.env = (false, eval a X.env) :: starEach [] X.env := by rfl) : PE X (.Call (.Name "len" p) [.Call (.Name "set" p2) [a] [] q] [] pos) (tLenSetD X.K ta) := ⟨fun pins s σ H Q J h =>
  Call_ (ld_blt J gl ml PySem.boot_len (PyProof.Rows.callWith_builtin1 (PyProof.Rows.args_cons (Call_ (ld_blt J gs ms PyProof.Rows.boot_set (PyProof.Rows.callWith_type1 (PyProof.Rows.args_cons (thn (pa.run pins s σ H _ J h) fun v s1 ⟨x, H1, J1, r1, q1⟩ => PyProof.Rows.args_nil (by
    obtain ⟨l, ns, rfl, hq, few, q1⟩ := q1
    cases r1
    obtain ⟨its, rr, isl, _⟩ := J1.list hq
    have size : its.toArray.size = ns.length := by rw [List.size_toArray, ← rr.length, List.length_map]
    refine call_set_list (J1.ok.hd calm) isl.isList (ns := ns) (by simpa using rr.ints) (by unfold scanBound; omega) fun h' tk hS hk => ?_
    rw [size, firstMet_dd] at hS
    refine PyProof.Rows.args_nil ?_
    obtain ⟨o, es, ep, t, ho, hex, hd, _, _, _, hf, hn⟩ := hS
    have J2 : Inv X pins σ H1 { s1 with heap := h', toks := tk } := J1.kept fun b o e => hk b o (Heap.lt_size e) e
    have small : (ddI ns).length ≤ ns.length := by
      rw [← firstMet_dd]
      exact firstMet_length_le _ _
    exact call_len_set ho hex hd hf (by rw [hn]; omega) ⟨.int (ddI ns).length, H1, J2.tok _, ⟨_, by rw [hn]⟩, q1⟩)) one) one rfl))) rfl) rfl rfl))⟩
def fLenSet (d : D) (S : Sto) : R D := match (lstOf S d).bind intsD with
  | some ns => if ns.length < 64 then .ok (.int (ddI ns).length) S else .bad
  | none => .bad
theorem ze_lenSet {X : Cx} {a : Expr} {da : DE} {p p2 q pos : Pos} (hc : X.calm = true) (hm : X.mg "len" = none) (hm2 : X.mg "set" = none) (ha : ZE X a da) (hg : Gl X "len" := by rfl) (hg2 : Gl X "set" := by rfl)
    (na : starEach [a] X.env = (false, eval a X.env) :: starEach [] X.env := by rfl) : ZE X (.Call (.Name "len" p) [.Call (.Name "set" p2) [a] [] q] [] pos) (e1 fLenSet da) := fun W tk =>
  pe_weak (pe_lenSetD hc hg hm hg2 hm2 (ha W tk) na) fun σ H Q ⟨m, B, ρ, S, rs, e, p⟩ => tE.take (f := fLenSet) rs e p fun d S1 m1 H1 v g1 r1 e1 rd p1 => by
    unfold fLenSet at p1
    split at p1
    · rename_i ns hn
      split at p1
      · rename_i hz
        obtain ⟨ds, hd, hi⟩ := Option.bind_eq_some_iff.mp hn
        obtain ⟨l, us, rfl, sq, r⟩ := lstOf_ok r1 rd hd
        rw [intsD_ok r hi] at sq
        exact ⟨l, ns, rfl, sq, hz, p1.now r1 _ (RDi _)⟩
      · exact p1.elim
    · exact p1.elim
/-! ### xs.pop(i) -/
def fPopAt : D → List D → Sto → R D
  | .ref n, [.int i], S => match S[n]? with
    | some (.lst ds) => if -(2 ^ 62) ≤ i ∧ i < 2 ^ 62 then match ixN ds.length i with
      | some k => match ds[k]? with
        | some x => .ok x (S.set n (.lst (ds.eraseIdx k)))
        | none => .bad
      | none => .bad else .bad
    | _ => .bad
  | _, _, _ => .bad
theorem RDs.erase {K : PySem.W.Frag} {m B : List Addr} {H : Hp} : ∀ {ds : List D} {vs : List V} (k : Nat), RDs K m B H ds vs → RDs K m B H (ds.eraseIdx k) (vs.eraseIdx k)
  | [], _, k, h => by unfold RDs at h; subst h; exact RDs.nil
  | d :: ds, _, 0, h => by
    unfold RDs at h
    obtain ⟨x, r, rfl, _, h2⟩ := h
    exact h2
  | d :: ds, _, k + 1, h => by
    unfold RDs at h
    obtain ⟨x, r, rfl, h1, h2⟩ := h
    exact RDs.cons h1 (RDs.erase k h2)
theorem okPopAt {K : PySem.W.Frag} : OkM K rPopAt fPopAt := by
  intro m B H S d ds x vs W Q rs rd rds p
  cases d <;> try exact p.elim
  rename_i n
  match ds, rds, p with
  | [], _, p => exact p.elim
  | [.int i], rds, p =>
    obtain ⟨w, rfl, rw'⟩ := rds.one
    unfold RD at rw' rd
    subst rw'
    obtain ⟨a, rfl, hq⟩ := rd
    simp only [fPopAt] at p
    split at p
    · rename_i ds hn
      split at p
      · rename_i hi
        split at p
        · rename_i k hk
          split at p
          · rename_i y hy
            obtain ⟨us, hv, rv⟩ := rs.ob n a _ hq hn
            obtain ⟨w, hw, rw'⟩ := rv.get hy
            refine ⟨a, us, i, k, w, rfl, rfl, hv, by omega, by omega, by rw [← rv.len]; exact (ixN_seq hk).1, hw, ?_⟩
            obtain ⟨g4, r4⟩ := rs.put (u := .lst (us.eraseIdx k)) (o := .lst (ds.eraseIdx k)) hq fun H' g h' => ⟨_, h', RDs.mono g.tr _ _ (rv.erase k)⟩
            exact p m _ g4 r4 w (rw'.mono g4.tr)
          · exact p.elim
        · exact p.elim
      · exact p.elim
    · exact p.elim
  | .non :: _, _, p | .bl _ :: _, _, p | .str _ :: _, _, p | .tup _ :: _, _, p | .lst _ :: _, _, p | .scr _ :: _, _, p | .ref _ :: _, _, p | .adr _ :: _, _, p | .ty _ :: _, _, p => exact p.elim
  | .int _ :: _ :: _, _, p => exact p.elim
theorem ze_popAt {X : Cx} {pos apos : Pos} {o e : Expr} {dobj : DE} {t : DA} (ho : ZE X o dobj) (ha : ZA X [e] t) (hb : attributeBase o "pop" X.env (eval o X.env) = eval o X.env := by rfl)
    (hfew : ((backTo pos (starEach [e] X.env)).all (fun x => !x.1) && (backToKw pos (keywordEach [] X.env)).all (fun x => x.1.isSome) && decide ([e].length + ([] : List Keyword).length + (if ([] : List Keyword).isEmpty then 0 else 1) < 30)) = true := by rfl)
    (hl : (apos.endLine == pos.line) = true := by rfl) (hs : starEach [e] X.env = (false, eval e X.env) :: starEach [] X.env := by rfl) : ZE X (.Call (.Attribute o "pop" apos) [e] [] pos) (eBM fPopAt dobj t) :=
  ze_bm PySem.F.slot_list_pop PySem.F.type_list_pop mt_popAt okPopAt ho ha hb hfew hl hs
/-! ### len of a list, a text, a dict -/
def fLenA : List D → Sto → R D
  | [.ref n], S => match S[n]? with
    | some (.dct kvs) => .ok (.int kvs.length) S
    | _ => fLen [.ref n] S
  | ds, S => fLen ds S
def rLenA (K : PySem.W.Frag) : List V → Hp → VK → Prop := fun xs H Q => (∃ a kvs, xs = [V.ref a] ∧ H a = some (.dK kvs) ∧ Q (.int kvs.length) H) ∨ ((∃ z, xs = [.str z] ∧ z.length ≤ sizeLine ∧ Q (.int z.length) H) ∨ ∃ p ys, xs = [.ref p] ∧ (SqL K H p ys ∨ SqT K H p ys) ∧ Q (.int ys.length) H)
theorem okLenA {K : PySem.W.Frag} : OkCall K (rLenA K) fLenA := by
  intro m B H S ds vs W Q rs rds p
  have gen : Post K m B H W (fun d _ m' H' => ∀ v, RD K m' B H' d v → Q v H') (fLen ds S) → rLenA K vs H Q := fun p => Or.inr (okLen m B H S ds vs W Q rs rds p)
  unfold fLenA at p
  split at p
  · rename_i n
    split at p
    · rename_i kvs hn
      obtain ⟨v, rfl, rv⟩ := rds.one
      unfold RD at rv
      obtain ⟨a, rfl, hq⟩ := rv
      obtain ⟨us, hv, rv⟩ := rs.ob n a _ hq hn
      refine .inl ⟨a, us, rfl, hv, ?_⟩
      have := p.now rs (.int kvs.length) (RDi _)
      rw [rv.len1] at this
      exact this
    · exact gen p
  · exact gen p
theorem ze_lenA {X : Cx} {pos p0 : Pos} {e : Expr} {t : DA} (hm : X.mg "len" = none) (ha : ZA X [e] t) (hg : Gl X "len" := by rfl) (he : starEach [e] X.env = (false, eval e X.env) :: starEach [] X.env := by rfl) : ZE X (.Call (.Name "len" p0) [e] [] pos) (eCall fLenA t) := ze_callB (call_lenD.or (call_len_str.or call_len_seq)) okLenA hm ha hg (he := he)
/-! ### for over the keys of a dict -/
def keysOf (kvs : List (Key × D)) : List D := kvs.map fun kv => keyD kv.1
def iLck (da : DE) : DI := fun ρ S => (da ρ S).bind fun d S1 => match d with
  | .ref n => match S1[n]? with
    | some (.lck od vs kvs) => .ok (keysOf kvs, fun S' => S'[n]? = some (.lck od vs kvs)) S1
    | _ => .bad
  | _ => .bad
theorem keysOf_len (kvs : List (Key × D)) : (keysOf kvs).length = kvs.length := by simp [keysOf]
theorem jy_keys {K : PySem.W.Frag} {m0 B0 : List Addr} {H0 : Hp} {n : Nat} {a : Addr} {od : Obj} {vs : List (Key × V)} {kvs : List (Key × D)} (hn : m0[n]? = some a) (hl : vs.map (·.1) = kvs.map (·.1)) : JY K (Itk a od vs) m0 B0 H0 (keysOf kvs) fun S => S[n]? = some (.lck od vs kvs) where
  go := fun i m B H S t rs hc hi => ⟨(rs.ob n a _ (t.at_ _ _ hn) hc).1, by
    have := congrArg List.length hl
    rw [List.length_map, List.length_map] at this
    rw [keysOf_len] at hi
    omega⟩
  yl := fun i m B H S x H' d t rs hc hd y => by
    obtain ⟨rfl, k, v, hk, rfl⟩ := y
    refine ⟨fun _ _ h => h, ?_⟩
    unfold keysOf at hd
    rw [List.getElem?_map] at hd
    obtain ⟨p, hp, rfl⟩ := Option.map_eq_some_iff.mp hd
    have e1 : (vs.map (·.1))[i]? = some k := by rw [List.getElem?_map, hk]; rfl
    rw [hl, List.getElem?_map, hp] at e1
    cases e1
    exact keyD_rd _
  st := fun i m B H S t rs hc hi => ⟨(rs.ob n a _ (t.at_ _ _ hn) hc).1, by
    have := congrArg List.length hl
    rw [List.length_map, List.length_map] at this
    rw [keysOf_len] at hi
    omega⟩
theorem zi_lck {X : Cx} {tg e : Expr} {da : DE} (h : ZE X e da) : ZI X tg e (iLck da) := fun W tk => ⟨fun pins s σ H Q I ⟨m, B, ρ, S, rs, e, p⟩ => by
  unfold iLck at p
  cases hd : da ρ S with
  | ok d S1 =>
    rw [hd] at p
    simp only [R.bind_ok] at p
    cases d <;> try exact p.elim
    rename_i n
    simp only at p
    split at p
    · rename_i od vs kvs hn
      refine (pi_keys (tg := tg) (h W tk)).run pins s σ H Q I ⟨m, B, ρ, S, rs, e, ?_⟩
      rw [hd]
      intro m1 H1 g1 r1 v rv
      unfold RD at rv
      obtain ⟨a, rfl, q⟩ := rv
      obtain ⟨ea, r⟩ := r1.ob n a _ q hn
      exact ⟨a, od, rfl, .inl ⟨vs, ea, p m1 H1 g1 r1 hn _ (jy_keys q (RFs.keys r).symm)⟩⟩
    · exact p.elim
  | exc c d S1 =>
    rw [hd] at p
    exact (pi_keys (tg := tg) (h W tk)).run pins s σ H Q I ⟨m, B, ρ, S, rs, e, by rw [hd]; exact p⟩
  | bad => rw [hd] at p; exact p.elim⟩
theorem REs.noneD {K : PySem.W.Frag} {m B : List Addr} {H : Hp} : ∀ {ρ : Env} {σ : L2.St} (i : Nat), REs K m B H ρ σ → REs K m B H (ρ.set i none) σ
  | [], _, _, h => h
  | o :: ρ, _, 0, ⟨x, r, e, h1, h2⟩ => ⟨x, r, e, (fun d hd => by cases hd), h2⟩
  | o :: ρ, _, i + 1, ⟨x, r, e, h1, h2⟩ => ⟨x, r, e, h1, REs.noneD i h2⟩
theorem REs.wipD {K : PySem.W.Frag} {m B : List Addr} {H : Hp} {ρ : Env} {σ : L2.St} (h : REs K m B H ρ σ) : ∀ L : List Nat, REs K m B H (wipeD ρ L) σ
  | [] => h
  | i :: L => (REs.wipD h L).noneD i
open Classical in
noncomputable def unl (L : List Nat) (n : Nat) (od : Obj) (vs : List (Key × V)) (kvs : List (Key × D)) : SR → SR
  | .nx ρ S' => if ∃ (h : n < S'.length), S'[n] = .lck od vs kvs then .nx (wipeD ρ L) (S'.set n (.dct kvs)) else .bad
  | .rt d S' => if ∃ (h : n < S'.length), S'[n] = .lck od vs kvs then .rt d (S'.set n (.dct kvs)) else .bad
  | _ => .bad
noncomputable def dRun (tg : Tg) (j : Nat) (b : DS) (L : List Nat) (n : Nat) (kvs : List (Key × D)) (ρ : Env) (S : Sto) (od : Obj) (vs : List (Key × V)) : SR := unl L n od vs kvs (sFor tg (iLck (eV j)) b ρ (S.set n (.lck od vs kvs)))
open Classical in
/-- for k in d: d is locked while the body runs -/
noncomputable def sForD (tg : Tg) (j : Nat) (b : DS) (L : List Nat) : DS := fun ρ S => match ρ[j]? with
  | some (some (.ref n)) => match S[n]? with
    | some (.dct kvs) => if h : ∃ r, ∀ (od : Obj) (vs : List (Key × V)), dRun tg j b L n kvs ρ S od vs = r then h.choose else .bad
    | _ => .bad
  | _ => .bad
theorem sForD_eq {tg : Tg} {j : Nat} {b : DS} {L : List Nat} {ρ : Env} {S : Sto} {n : Nat} {kvs : List (Key × D)} {r : SR} (hd : ρ[j]? = some (some (.ref n))) (hn : S[n]? = some (.dct kvs)) (h : ∀ od vs, dRun tg j b L n kvs ρ S od vs = r) : sForD tg j b L ρ S = r := by
  unfold sForD
  rw [hd]
  simp only [hn]
  have ex : ∃ r, ∀ (od : Obj) (vs : List (Key × V)), dRun tg j b L n kvs ρ S od vs = r := ⟨r, h⟩
  rw [dif_pos ex]
  exact (ex.choose_spec default []).symm.trans (h default [])
section
variable {X : Cx} {pos : Pos} {t iter : Expr} {body : List Stmt} {tg : Tg} {j : Nat} {db : DS}
theorem zs_forD (L : List Nat) (hp : PassesOwn (model X.prog X.w) X.A X.env X.xe) (hc : X.calm = true) (hi : ZE X iter (eV j)) (hg : ZG X t tg) (hb : ZB X body db) (hs : ∀ x, foldedSetIterable iter X.env x = pure x := by intro _; rfl) : ZS X (.For t iter body [] pos) (sForD tg j db L) := fun W tk =>
  ps_weak (ps_lock (zs_for hp hc (zi_lck hi) hg hb hs W tk)) fun E σ H ⟨m, B, ρ, S, rs, e, p⟩ => by
    unfold sForD at p
    split at p
    · rename_i n hd
      split at p
      · rename_i kvs hn
        split at p
        · rename_i ex
          obtain ⟨a, ha, vs, ea, r⟩ := rs.at hn
          refine ⟨a, .dK vs, ea, trivial, fun od => ?_⟩
          have same := ex.choose_spec od vs
          obtain ⟨g1, r1⟩ := rs.put (u := .frz od (.dK vs)) (o := .lck od vs kvs) ha fun H' g h' => ⟨h', RFs.mono g.tr _ _ r⟩
          refine ⟨m, B, ρ, _, r1, e.mono g1.tr, ?_⟩
          rw [← same] at p
          have back : ∀ {S' : Sto} {m' : List Addr} {H' : Hp}, (∃ (h : n < S'.length), S'[n] = O.lck od vs kvs) → Ge m (L2.upd H a (.frz od (.dK vs))) m' H' → RS X.K m' B H' S' →
              H' a = some (.frz od (.dK vs)) ∧ Ge m H m' (L2.upd H' a (.dK vs)) ∧ RS X.K m' B (L2.upd H' a (.dK vs)) (S'.set n (.dct kvs)) ∧ Ge m' H' m' (L2.upd H' a (.dK vs)) := fun {S' m' H'} ⟨hl, hq⟩ g' r' => by
            have ha' := (Ge.tr (B := B) g').at_ _ _ ha
            obtain ⟨e1, e2⟩ := r'.ob n a _ ha' (by rw [List.getElem?_eq_getElem hl, hq])
            obtain ⟨g2, r2⟩ := r'.put (u := .dK vs) (o := .dct kvs) ha' fun H' g h' => ⟨vs, h', RFs.mono g.tr _ _ e2⟩
            exact ⟨e1, (g1.trans g').trans g2, r2, g2⟩
          unfold dRun at p
          cases hr : sFor tg (iLck (eV j)) db ρ (S.set n (.lck od vs kvs)) with
          | nx ρ' S' =>
            rw [hr] at p
            by_cases hq : ∃ (h : n < S'.length), S'[n] = O.lck od vs kvs
            · rw [show unl L n od vs kvs (.nx ρ' S') = .nx (wipeD ρ' L) (S'.set n (.dct kvs)) from if_pos hq] at p
              intro m' H' σ' g' r' e'
              obtain ⟨q1, q2, q3, q4⟩ := back hq g' r'
              exact ⟨q1, p m' _ σ' q2 q3 ((e'.mono q4.tr).wipD L)⟩
            · rw [show unl L n od vs kvs (.nx ρ' S') = .bad from if_neg hq] at p
              exact p.elim
          | rt d S' =>
            rw [hr] at p
            by_cases hq : ∃ (h : n < S'.length), S'[n] = O.lck od vs kvs
            · rw [show unl L n od vs kvs (.rt d S') = .rt d (S'.set n (.dct kvs)) from if_pos hq] at p
              intro m' H' v g' r' e'
              obtain ⟨q1, q2, q3, q4⟩ := back hq g' r'
              exact ⟨q1, p m' _ v q2 q3 (e'.mono q4.tr)⟩
            · rw [show unl L n od vs kvs (.rt d S') = .bad from if_neg hq] at p
              exact p.elim
          | bk ρ' S' => rw [hr] at p; exact p.elim
          | ct ρ' S' => rw [hr] at p; exact p.elim
          | exc ρ' c d S' => rw [hr] at p; exact p.elim
          | bad => rw [hr] at p; exact p.elim
        · exact p.elim
      · exact p.elim
    · exact p.elim
end
/-! ### a, b, c = x, y, z -/
def sPar3 (i j l : Nat) (da db dc : DE) : DS := fun ρ S => (da ρ S).to ρ fun a S1 => (db ρ S1).to ρ fun b S2 => (dc ρ S2).to ρ fun c S3 => .nx (((ρ.set i (some a)).set j (some b)).set l (some c)) S3
section
variable {X : Cx} {pos : Pos} {a b c : Expr} {da db dc : DE}
theorem zs_par3 {i j l : Nat} {x y z : Str} {px py pz pt : Pos} {kt k2 pt2} (hc : X.calm = true) (hN : X.N.Nodup) (ha : ZE X a da) (hb : ZE X b db) (hd : ZE X c dc) (hi : X.N[i]? = some x := by rfl) (hj : X.N[j]? = some y := by rfl) (hl : X.N[l]? = some z := by rfl) (hij : i ≠ j := by decide) (hil : i ≠ l := by decide) (hjl : j ≠ l := by decide)
    (hx : X.env.scope.names.lookup x = some .local := by rfl) (hy : X.env.scope.names.lookup y = some .local := by rfl) (hz : X.env.scope.names.lookup z = some .local := by rfl)
    (hw : swappedStores [.Tuple [.Name x px, .Name y py, .Name z pz] kt pt] (.Tuple [a, b, c] k2 pt2) X.env = pure (some [x, y, z]) := by rfl)
    (hs : swapsWithSole [.Tuple [.Name x px, .Name y py, .Name z pz] kt pt] (.Tuple [a, b, c] k2 pt2) pos.line X.env = pure false := by rfl)
    (hs1 : starEach [a, b, c] X.env = (false, eval a X.env) :: starEach [b, c] X.env := by rfl) (hs2 : starEach [b, c] X.env = (false, eval b X.env) :: starEach [c] X.env := by rfl) (hs3 : starEach [c] X.env = (false, eval c X.env) :: starEach [] X.env := by rfl) :
    ZS X (.Assign [.Tuple [.Name x px, .Name y py, .Name z pz] kt pt] (.Tuple [a, b, c] k2 pt2) pos) (sPar3 i j l da db dc) := fun W tk => ps_weak (ps_par3 hc hN hi hj hl hij hil hjl hx hy hz ((za_cons ha (za_cons hb (za_cons hd za_nil hs3) hs2) hs1) W tk) hw hs) fun E σ H ⟨m, B, ρ, S, rs, e, p⟩ => by
  unfold sPar3 at p
  refine ⟨m, B, ρ, S, rs, e, ?_⟩
  unfold aC
  cases h1 : da ρ S with
  | bad => rw [h1] at p; exact p
  | exc c d S' => rw [h1] at p; exact fun m' H' x v g r hx rv => p m' H' σ x v g r (e.mono g.tr) hx rv
  | ok d S1 =>
    rw [h1] at p
    simp only [R.to_ok, R.bind_ok] at p ⊢
    cases h2 : db ρ S1 with
    | bad => rw [h2] at p; exact p
    | exc c d S' => rw [h2] at p; exact fun m' H' x v g r hx rv => p m' H' σ x v g r (e.mono g.tr) hx rv
    | ok d2 S2 =>
      rw [h2] at p
      simp only [R.to_ok, R.bind_ok] at p ⊢
      cases h3 : dc ρ S2 with
      | bad => rw [h3] at p; exact p
      | exc c d S' => rw [h3] at p; exact fun m' H' x v g r hx rv => p m' H' σ x v g r (e.mono g.tr) hx rv
      | ok d3 S3 =>
        rw [h3] at p
        refine fun m1 H1 g1 r1 vs rv => ?_
        unfold RDs at rv
        obtain ⟨u, vs1, rfl, ru, rv⟩ := rv
        obtain ⟨v, w, rfl, rv, rw'⟩ := rv.two
        exact ⟨u, v, w, rfl, p m1 H1 _ g1 r1 ((((e.mono g1.tr).set i ru).set j rv).set l rw')⟩
end
end Z
namespace Z
open PySem PySem.Spec PyProof.Rows L2
/-! ### a sign in a text -/
def fInC : D → D → Sto → R D
  | .str x, .str z, S => match x.cps.toList with
    | [c] => .ok (.bl (decide (c ∈ z.cps.toList))) S
    | _ => .bad
  | _, _, _ => .bad
def fNotInC : D → D → Sto → R D
  | .str x, .str z, S => match x.cps.toList with
    | [c] => .ok (.bl (!decide (c ∈ z.cps.toList))) S
    | _ => .bad
  | _, _, _ => .bad
theorem one_sign {x : Str} {c : Nat} (h : x.cps.toList = [c]) : x = ⟨#[c]⟩ := by
  cases x with
  | mk a =>
    have e : a.toList = (#[c] : Array Nat).toList := h
    have : a = #[c] := Array.toList_inj.mp e
    rw [this]
theorem okInC {K : PySem.W.Frag} : OkOp K rInS fInC := by
  intro m B H S d e x y W Q rs rd re p
  cases d <;> try exact p.elim
  cases e <;> try exact p.elim
  rename_i i j
  unfold RD at rd re
  subst rd re
  simp only [fInC] at p
  split at p
  · rename_i c hc
    exact ⟨c, j, by rw [one_sign hc], rfl, p.now rs _ (RDb _)⟩
  · exact p.elim
theorem okNotInC {K : PySem.W.Frag} : OkOp K rNotInS fNotInC := by
  intro m B H S d e x y W Q rs rd re p
  cases d <;> try exact p.elim
  cases e <;> try exact p.elim
  rename_i i j
  unfold RD at rd re
  subst rd re
  simp only [fNotInC] at p
  split at p
  · rename_i c hc
    exact ⟨c, j, by rw [one_sign hc], rfl, p.now rs _ (RDb _)⟩
  · exact p.elim
section
variable {X : Cx} {pos : Pos} {a b : Expr} {da db : DE}
theorem ze_inC (ha : ZE X a da) (hb : ZE X b db) (hm : behindInMarks .In b = false := by rfl) : ZE X (.Compare a [.In] [b] pos) (e2 fInC da db) := ze_cmp op_inS okInC ha hb hm
theorem ze_notinC (ha : ZE X a da) (hb : ZE X b db) (hm : behindInMarks .NotIn b = false := by rfl) : ZE X (.Compare a [.NotIn] [b] pos) (e2 fNotInC da db) := ze_cmp op_notInS okNotInC ha hb hm
theorem zt_inC (ha : ZE X a da) (hb : ZE X b db) (hm : behindInMarks .In b = false := by rfl) : ZT X (.Compare a [.In] [b] pos) (tVB (e2 fInC da db)) := zt_cmp op_inS okInC ha hb hm
theorem zt_notinC (ha : ZE X a da) (hb : ZE X b db) (hm : behindInMarks .NotIn b = false := by rfl) : ZT X (.Compare a [.NotIn] [b] pos) (tVB (e2 fNotInC da db)) := zt_cmp op_notInS okNotInC ha hb hm
end
/-! ### is not True | False -/
def fNotC (d e : D) (S : Sto) : R D := (fIsC d e S).bind fun x S1 => match x with
  | .bl b => .ok (.bl (!b)) S1
  | _ => .bad
def rNotC : R2 := fun x y H Q => ∃ b : Bool, y = .bl b ∧ ((∃ a : Bool, x = .bl a ∧ Q (.bl (!decide (a = b))) H) ∨ ((x = .non ∨ (∃ i, x = .int i) ∨ (∃ s, x = .str s) ∨ ∃ r, x = .ref r) ∧ Q (.bl true) H))
theorem wpAny_isnot_of {v u : Value} {M : Model} {A : Around} {E : Value → Shared → Prop} {Q : Value → Shared → Prop} {s : Shared} (h : wpAny M A (compareOp .Is v u) (fun r s1 => ∃ b, r = .bool b ∧ Q (.bool (!b)) s1) E s) : wpAny M A (compareOp .IsNot v u) Q E s := by
  have e : compareOp .IsNot v u = (do let b ← isSame v u; pure (.bool (!b))) := rfl
  have e2 : compareOp .Is v u = (do let b ← isSame v u; pure (.bool b)) := rfl
  rw [e]
  rw [e2] at h
  refine wpAny_bind ?_
  have h2 : wpAny M A (isSame v u) (fun b s1 => Q (.bool (!b)) s1) E s := by
    intro Γ p hΓ
    have := h Γ p hΓ
    simp only [Sem.wp_bind', Sem.wp_pure'] at this
    refine Sem.wp_mono M Γ _ (fun b p1 s1 q => ?_) (fun _ _ _ h' => h') _ _ this
    obtain ⟨b', hb, q⟩ := q
    cases hb
    exact q
  exact thn h2 fun b s1 q => wpAny_pure q

theorem op_notC {X : Cx} : OpR X (compareOp .IsNot) rNotC := by
  intro pins s σ H x y v u Q I rx ry h
  obtain ⟨b, rfl, h⟩ := h
  refine wpAny_isnot_of (thn (op_isC (X := X) pins s σ H x (.bl b) v u (fun z H' => ∃ k, z = .bl k ∧ Q (.bl (!k)) H') I rx ry ⟨b, rfl, ?_⟩) fun r s1 q => ?_)
  · rcases h with ⟨a, rfl, q⟩ | ⟨hx, q⟩
    · exact .inl ⟨a, rfl, _, rfl, q⟩
    · exact .inr ⟨hx, _, rfl, q⟩
  · obtain ⟨z, H', I', rz, k, rfl, q⟩ := q
    cases rz
    exact ⟨k, rfl, .bl (!k), H', I', rfl, q⟩
theorem okNotC {K : PySem.W.Frag} : OkOp K rNotC fNotC := by
  intro m B H S d e x y W Q rs rd re p
  have key := okIsC (K := K) m B H S d e x y W (fun z H' => ∃ k, z = .bl k ∧ Q (.bl (!k)) H') rs rd re ?_
  · obtain ⟨b, rfl, h⟩ := key
    rcases h with ⟨a, rfl, k, hk, q⟩ | ⟨hx, k, hk, q⟩
    · cases hk
      exact ⟨b, rfl, .inl ⟨a, rfl, q⟩⟩
    · cases hk
      exact ⟨b, rfl, .inr ⟨hx, q⟩⟩
  · unfold fNotC at p
    cases hd : fIsC d e S with
    | ok z S1 =>
      rw [hd] at p
      simp only [R.bind_ok] at p
      cases z <;> try exact p.elim
      rename_i b
      intro m' H' g' r' v rv
      unfold RD at rv
      subst rv
      exact ⟨b, rfl, p m' H' g' r' _ (RDb _)⟩
    | exc c z S1 => rw [hd] at p; exact p
    | bad => rw [hd] at p; exact p.elim
section
variable {X : Cx} {pos : Pos} {a b : Expr} {da db : DE}
theorem ze_notC (ha : ZE X a da) (hb : ZE X b db) : ZE X (.Compare a [.IsNot] [b] pos) (e2 fNotC da db) := ze_cmp op_notC okNotC ha hb (nomark _)
theorem zt_notC (ha : ZE X a da) (hb : ZE X b db) : ZT X (.Compare a [.IsNot] [b] pos) (tVB (e2 fNotC da db)) := zt_cmp op_notC okNotC ha hb (nomark _)
end
/-! ### xs == [], whatever is in xs -/
def fEqE (d e : D) (S : Sto) : R D := match lstOf S d, e with
  | some ds, .lst [] => .ok (.bl ds.isEmpty) S
  | _, _ => .bad
def rEqE (K : PySem.W.Frag) : R2 := fun x y H Q => ∃ a b xs, x = .ref a ∧ y = .ref b ∧ SqL K H a xs ∧ SqL K H b [] ∧ Q (.bl xs.isEmpty) H
theorem op_eqE {X : Cx} (hu : X.A.units < cLine) : OpR X (compareOp .Eq) (rEqE X.K) := by
  intro pins s σ H x y v u Q I rx ry h
  obtain ⟨a, b, xs, rfl, rfl, h1, h2, q⟩ := h
  obtain rfl : v = Value.ref a := rx
  obtain rfl : u = Value.ref b := ry
  obtain ⟨its, rv, p1, _⟩ := I.list h1
  obtain ⟨its2, rv2, p2, _⟩ := I.list h2
  cases rv2
  cases rv with
  | nil =>
    exact SeqAt.eq_listAt (e := fun _ => true) p1.isList p2.isList rfl hu (fun j h1 h2 => absurd h1 (by simp)) (by simpa using ⟨.bl true, H, I, rfl, q⟩)
  | cons _ _ => exact SeqAt.eq_list_lengthsAt p1.isList p2.isList (by simp) hu ⟨.bl false, H, I, rfl, q⟩
theorem okEqE {K : PySem.W.Frag} : OkOp K (rEqE K) fEqE := by
  intro m B H S d e x y W Q rs rd re p
  unfold fEqE at p
  split at p
  · rename_i ds hd
    obtain ⟨a, vs, rfl, sq, r⟩ := lstOf_ok rs rd hd
    unfold RD at re
    obtain ⟨b, us, rfl, f, r2⟩ := re
    have e0 : us = [] := by unfold RDs at r2; exact r2
    subst e0
    have := p.now rs (.bl vs.isEmpty) (by rw [← r.emp]; exact RDb _)
    exact ⟨a, b, vs, rfl, rfl, sq, f.sq, this⟩
  · exact p.elim
section
variable {X : Cx} {pos : Pos} {a b : Expr} {da db : DE}
theorem ze_eqE (hu : X.A.units + 64 < cLine) (ha : ZE X a da) (hb : ZE X b db) : ZE X (.Compare a [.Eq] [b] pos) (e2 fEqE da db) := ze_cmp (op_eqE (by omega)) okEqE ha hb (nomark _)
theorem zt_eqE (hu : X.A.units + 64 < cLine) (ha : ZE X a da) (hb : ZE X b db) : ZT X (.Compare a [.Eq] [b] pos) (tVB (e2 fEqE da db)) := zt_cmp (op_eqE (by omega)) okEqE ha hb (nomark _)
end
/-! ### sep.join(texts), str(i), int(text) -/
def fJoin (d e : D) (S : Sto) : R D := match d, (lstOf S e).bind strsD with
  | .str a, some ys => if (ys.map (·.length)).sum + ys.length * a.length ≤ 16777216 then .ok (.str (Txt.join a ys)) S else .bad
  | _, _ => .bad
/-- a method of a text with one argument -/
def eS1 (f : D → D → Sto → R D) (o a : DE) : DE := fun ρ S => (o ρ S).bind fun d S1 => match d with
  | .str z => (a ρ S1).bind fun x S2 => f (.str z) x S2
  | _ => .bad
def fStr : List D → Sto → R D
  | [.int i], S => if i.natAbs.log2 < 1920 then .ok (.str (Str.ofString (toString i))) S else .bad
  | _, _ => .bad
def fIntT : List D → Sto → R D
  | [.str a], S => match PySem.intText? a with
    | some n => if a.length ≤ 640 then .ok (.int n) S else .bad
    | none => .bad
  | _, _ => .bad
theorem okStr {K : PySem.W.Frag} : OkCall K (fun xs H Q => ∃ i, xs = [.int i] ∧ i.natAbs.log2 < 1920 ∧ Q (.str (Str.ofString (toString i))) H) fStr := by
  intro m B H S ds vs W Q rs rds p
  match ds with
  | [] => exact p.elim
  | d :: e :: r => cases d <;> exact p.elim
  | [d] =>
    obtain ⟨v, rfl, rv⟩ := rds.one
    cases d <;> try exact p.elim
    rename_i i
    unfold RD at rv
    subst rv
    simp only [fStr] at p
    split at p
    · rename_i h
      exact ⟨i, rfl, h, p.now rs _ (RDst _)⟩
    · exact p.elim
theorem okIntT {K : PySem.W.Frag} : OkCall K (fun xs H Q => ∃ a n, xs = [.str a] ∧ PySem.intText? a = some n ∧ a.length ≤ 640 ∧ Q (.int n) H) fIntT := by
  intro m B H S ds vs W Q rs rds p
  match ds with
  | [] => exact p.elim
  | d :: e :: r => cases d <;> exact p.elim
  | [d] =>
    obtain ⟨v, rfl, rv⟩ := rds.one
    cases d <;> try exact p.elim
    rename_i i
    unfold RD at rv
    subst rv
    simp only [fIntT] at p
    split at p
    · rename_i n hn
      split at p
      · rename_i h
        exact ⟨i, n, rfl, hn, h, p.now rs _ (RDi _)⟩
      · exact p.elim
    · exact p.elim
section
variable {X : Cx} {pos p0 apos : Pos} {e o : Expr} {de dobj : DE} {t : DA}
theorem ze_strI (hm : X.mg "str" = none) (ha : ZA X [e] t) (hg : Gl X "str" := by rfl) (he : starEach [e] X.env = (false, eval e X.env) :: starEach [] X.env := by rfl) : ZE X (.Call (.Name "str" p0) [e] [] pos) (eCall fStr t) := ze_callTy call_str_int okStr hm ha hg (he := he)
theorem ze_intT (hm : X.mg "int" = none) (ha : ZA X [e] t) (hg : Gl X "int" := by rfl) (he : starEach [e] X.env = (false, eval e X.env) :: starEach [] X.env := by rfl) : ZE X (.Call (.Name "int" p0) [e] [] pos) (eCall fIntT t) := ze_callTy call_int_str okIntT hm ha hg (he := he)
theorem ze_join (ho : ZE X o dobj) (he : ZE X e de) (hs : starEach [e] X.env = [(false, eval e X.env)] := by rfl) (hbase : attributeBase o "join" X.env (eval o X.env) = eval o X.env := by rfl) (hline : (apos.endLine == pos.line) = true := by rfl) :
    ZE X (.Call (.Attribute o "join" apos) [e] [] pos) (eS1 fJoin dobj de) := fun W tk =>
  pe_weak (pe_join (ho W tk) (he W tk) hs hbase hline) fun σ H Q ⟨m, B, ρ, S, rs, e, p⟩ => tE.takeA rs e p fun d S1 m1 H1 v g1 r1 e1 rd p1 => by
    cases d <;> try exact p1.elim
    rename_i z
    have rz := rd
    unfold RD at rz
    subst rz
    refine ⟨⟨z, rfl⟩, tE.takeA r1 e1 p1 fun x S2 m2 H2 w g2 r2 e2 rx p2 => ?_⟩
    have p2 : Post X.K m2 B H2 (fun c x H' => W c x σ H') (fun d _ m' H' => ∀ v, RD X.K m' B H' d v → Q v H') (fJoin (.str z) x S2) := p2
    unfold fJoin at p2
    split at p2
    · rename_i a ys e1' hy
      cases e1'
      obtain ⟨ds, h1, h2⟩ := Option.bind_eq_some_iff.mp hy
      split at p2
      · rename_i hz
        obtain ⟨l, us, rfl, sq, r⟩ := lstOf_ok r2 rx h1
        have eu := strsD_ok ds r h2
        subst eu
        exact ⟨z, l, ys, rfl, rfl, .inl sq, hz, p2.now r2 _ (RDst _)⟩
      · exact p2.elim
    · exact p2.elim
end
/-! ### self.x, self.y = a tuple -/
def attD (cs : List Addr) (f : Str) (d x : D) (S : Sto) : Option Sto := match x with
  | .ref n => match S[n]? with
    | some (.ins c fs) => if c ∈ cs ∧ fs.length < 1000 then some (S.set n (.ins c (putD f d fs))) else none
    | _ => none
  | _ => none
def sAttr2 (cs : List Addr) (f g : Str) (e o1 o2 : DE) : DS := fun ρ S => (e ρ S).to ρ fun d S1 => match d with
  | .tup [d1, d2] => (o1 ρ S1).to ρ fun x S2 => match attD cs f d1 x S2 with
    | some S3 => (o2 ρ S3).to ρ fun y S4 => match attD cs g d2 y S4 with
      | some S5 => .nx ρ S5
      | none => .bad
    | none => .bad
  | _ => .bad
def gFld (K : PySem.W.Frag) (to : TE) (f : Str) : TG := fun v σ H Q => to σ H fun o H1 => ∃ a C dx fs, o = .ref a ∧ H1 a = some (.ins C dx fs) ∧ Cls K C ∧ NoAttr K C f ∧ fs.length < 1000 ∧ Q σ (L2.upd H1 a (.ins C dx (putF f v fs)))
theorem pg_fld {X : Cx} {o : Expr} {f : Str} {to : TE} {pos : Pos} (ho : PE X o to)
    (ha : ∀ v, assign (.Attribute o f pos) X.env v = (do
      let ov ← holding [v] (eval o X.env)
      standAt pos.atName
      holding [v, ov] (setAttr ov f v)
      release [v, ov] []) := by intro _; rfl) : PG X (.Attribute o f pos) (gFld X.K to f) := by
  refine ⟨fun pins s σ H v u Q I r h => ?_⟩
  rw [ha]
  refine wpAny_bind (wpAny_holding (thn (ho.run pins s σ H _ I h) fun ov s1 ⟨x, H1, I1, r1, q1⟩ => ?_))
  obtain ⟨a, C, dx, fs, rfl, e, c, n, l, q⟩ := q1
  obtain rfl : ov = Value.ref a := r1
  refine wpAny_bind (wpAny_standAt (wpAny_bind (wpAny_holding (setattr_ok I1 e c n l r fun s2 I2 => ?_))))
  exact wpAny_release ⟨σ, _, I2, q⟩
theorem attD_ok {X : Cx} {cs : List Addr} {f : Str} (hc : NoAtt X.K cs f) {m B : List Addr} {H : Hp} {S S' : Sto} {d x : D} {v xv : V} (rs : RS X.K m B H S) (rd : RD X.K m B H d v) (rx : RD X.K m B H x xv) (h : attD cs f d x S = some S') :
    ∃ a C dx fs, xv = .ref a ∧ H a = some (.ins C dx fs) ∧ Cls X.K C ∧ NoAttr X.K C f ∧ fs.length < 1000 ∧ Ge m H m (L2.upd H a (.ins C dx (putF f v fs))) ∧ RS X.K m B (L2.upd H a (.ins C dx (putF f v fs))) S' := by
  unfold attD at h
  cases x <;> try (cases h; done)
  rename_i n
  unfold RD at rx
  obtain ⟨q, rfl, hq⟩ := rx
  simp only at h
  split at h
  · rename_i c fs hn
    split at h
    · rename_i hcc
      cases h
      obtain ⟨dx, vs, hv, rf⟩ := rs.ob n q _ hq hn
      obtain ⟨g3, r3⟩ := rs.put (u := .ins c dx (putF f v vs)) (o := .ins c (putD f d fs)) hq fun H' g h' => ⟨dx, _, h', RFs.put (rd.mono g.tr) (RFs.mono g.tr _ _ rf)⟩
      exact ⟨q, c, dx, vs, rfl, hv, (hc c hcc.1).1, (hc c hcc.1).2, by rw [← rf.len]; exact hcc.2, g3, r3⟩
    · cases h
  · cases h
section
variable {X : Cx} {pos p1 p2 p3 : Pos} {kk : Nat} {e o1 o2 : Expr} {de d1 d2 : DE} {f g : Str} {cs : List Addr}
theorem zs_attr2 (hc : X.calm = true) (hf : NoAtt X.K cs f) (hg : NoAtt X.K cs g) (h1 : ZE X o1 d1) (h2 : ZE X o2 d2) (he : ZE X e de)
    (hs : swapsWithSole [.Tuple [.Attribute o1 f p1, .Attribute o2 g p2] kk p3] e pos.line X.env = pure false := by rfl) (hw : swappedStores [.Tuple [.Attribute o1 f p1, .Attribute o2 g p2] kk p3] e X.env = pure none := by rfl)
    (ha : (assignEach [.Tuple [.Attribute o1 f p1, .Attribute o2 g p2] kk p3] X.env).map (·.2) = [assign (.Tuple [.Attribute o1 f p1, .Attribute o2 g p2] kk p3) X.env] := by rfl)
    (hn : (assignEach [.Attribute o1 f p1, .Attribute o2 g p2] X.env).length = 2 := by rfl) (hst : (assignEach [.Attribute o1 f p1, .Attribute o2 g p2] X.env).findIdx? (·.1) = none := by rfl)
    (ha1 : (assignEach (.Attribute o1 f p1 :: [.Attribute o2 g p2]) X.env).map (·.2) = assign (.Attribute o1 f p1) X.env :: (assignEach [.Attribute o2 g p2] X.env).map (·.2) := by rfl)
    (ha2 : (assignEach [.Attribute o2 g p2] X.env).map (·.2) = assign (.Attribute o2 g p2) X.env :: (assignEach [] X.env).map (·.2) := by rfl)
    (hb1 : ∀ v, assign (.Attribute o1 f p1) X.env v = (do
      let ov ← holding [v] (eval o1 X.env)
      standAt p1.atName
      holding [v, ov] (setAttr ov f v)
      release [v, ov] []) := by intro _; rfl)
    (hb2 : ∀ v, assign (.Attribute o2 g p2) X.env v = (do
      let ov ← holding [v] (eval o2 X.env)
      standAt p2.atName
      holding [v, ov] (setAttr ov g v)
      release [v, ov] []) := by intro _; rfl) :
    ZS X (.Assign [.Tuple [.Attribute o1 f p1, .Attribute o2 g p2] kk p3] e pos) (sAttr2 cs f g de d1 d2) := fun W tk =>
  ps_weak (ps_asg (he W tk) (pg_tup hc (pgs_cons (pg_fld (h1 W tk) hb1) (pgs_cons (pg_fld (h2 W tk) hb2) pgs_nil ha2) ha1) hn hst) hs hw ha) fun E σ H ⟨m, B, ρ, S, rs, e, p⟩ =>
    tE.takeS rs e p fun d S1 m1 H1 v g1 r1 e1 rd p1 => by
      split at p1
      · rename_i x1 x2
        have rd' := rd
        unfold RD at rd'
        obtain ⟨a, vs, rfl, fx, r⟩ := rd'
        obtain ⟨v1, v2, rfl, rv1, rv2⟩ := r.two
        refine ⟨a, [v1, v2], rfl, fx.sq, rfl, v1, [v2], rfl, ?_⟩
        refine tE.takeS r1 e1 p1 fun x S2 m2 H2 xv g2 r2 e2 rx p2 => ?_
        cases hd : attD cs f x1 x S2 with
        | none => rw [hd] at p2; exact p2.elim
        | some S3 =>
          rw [hd] at p2
          obtain ⟨a1, C1, dx1, fs1, rfl, q1, q2, q3, q4, g3, r3⟩ := attD_ok hf r2 (rv1.mono g2.tr) rx hd
          refine ⟨a1, C1, dx1, fs1, rfl, q1, q2, q3, q4, v2, [], rfl, ?_⟩
          refine tE.takeS r3 (e2.mono g3.tr) (PostS.ge p2 g3) fun y S4 m4 H4 yv g4 r4 e4 ry p4 => ?_
          cases hd2 : attD cs g x2 y S4 with
          | none => rw [hd2] at p4; exact p4.elim
          | some S5 =>
            rw [hd2] at p4
            obtain ⟨a2, C2, dx2, fs2, rfl, w1, w2, w3, w4, g5, r5⟩ := attD_ok hg r4 (((rv2.mono g2.tr).mono g3.tr).mono g4.tr) ry hd2
            exact ⟨a2, C2, dx2, fs2, rfl, w1, w2, w3, w4, rfl, p4 m4 _ σ g5 r5 (e4.mono g5.tr)⟩
      · exact p1.elim
end
end Z
namespace Z
open PySem PySem.Spec PyProof.Rows L2
/-! ### a token is out (str.replace wants it) -/
section
variable {X : Cx}
def PTT (X : Cx) (e : Expr) (t : TT) : Prop := ∀ (pins : List (Addr × Obj)) (s : Shared) (σ : L2.St) (H : Hp) (Q : Bool → Hp → Prop), 1 ≤ s.toks → Inv X pins σ H s → t σ H Q → wpAny (model X.prog X.w) X.A (isTrue e X.env (eval e X.env)) (TP X pins σ Q) X.xe s
def PWT (X : Cx) (e : Expr) (t : TT) : Prop := ∀ (whole : Sem Value) (pins : List (Addr × Obj)) (s : Shared) (σ : L2.St) (H : Hp) (Q : Bool → Hp → Prop), 1 ≤ s.toks → Inv X pins σ H s → t σ H Q → wpAny (model X.prog X.w) X.A (isTrue e X.env whole) (TP X pins σ Q) X.xe s
def PEK (X : Cx) (e : Expr) (t : TE) : Prop := ∀ (pins : List (Addr × Obj)) (s : Shared) (σ : L2.St) (H : Hp) (Q : VK), Inv X pins σ H s → t σ H Q → wpAny (model X.prog X.w) X.A (eval e X.env) (fun u s1 => 1 ≤ s1.toks ∧ EP X pins σ Q u s1) X.xe s
def PTK (X : Cx) (e : Expr) (t : TT) : Prop := ∀ (pins : List (Addr × Obj)) (s : Shared) (σ : L2.St) (H : Hp) (Q : Bool → Hp → Prop), Inv X pins σ H s → t σ H Q → wpAny (model X.prog X.w) X.A (isTrue e X.env (eval e X.env)) (fun b s1 => 1 ≤ s1.toks ∧ TP X pins σ Q b s1) X.xe s
def PSK (X : Cx) (st : Stmt) (t : TS) : Prop := ∀ (pins : List (Addr × Obj)) (s : Shared) (σ : L2.St) (H : Hp) (D : Ends), Inv X pins σ H s → t D σ H → wpAny (model X.prog X.w) X.A (exec st X.env) (fun f s1 => 1 ≤ s1.toks ∧ SP X pins D f s1) X.xe s
theorem keepT {α : Type} {M : Model} {A : Around} {t : Sem α} {Q : α → Shared → Prop} {E : Value → Shared → Prop} {s : Shared} (h0 : 1 ≤ s.toks) (h : wpAny M A t Q E s) : wpAny M A t (fun a s1 => 1 ≤ s1.toks ∧ Q a s1) E s :=
  wpAny_mono (PySem.wpAny_toks h) (fun _ _ z => ⟨Nat.le_trans h0 z.1, z.2⟩) fun _ _ z => z.2
variable {pos : Pos} {a b c : Expr} {rest : List Expr} {st : Stmt} {sts as bs : List Stmt} {ta tb : TE} {tA tB : TT} {t u : TS}
theorem pek_int {i : Int} {j : Nat} : PEK X (.Constant (.int i) j pos) (tC (.int i)) := fun pins s σ H Q I h => wpAny_Constant_int ⟨by show 1 ≤ s.toks + 1; omega, .int i, H, I.tok _, ⟨_, rfl⟩, h⟩
theorem pek_str {x : Str} {j : Nat} : PEK X (.Constant (.str x) j pos) (tC (.str x)) := fun pins s σ H Q I h => Calls.Constant_str ⟨by show 1 ≤ s.toks + 1; omega, .str x, H, I.tok _, ⟨_, rfl⟩, h⟩
theorem pek_ix {r : R2} (hr : IxR X r) (ha : PE X a ta) (hb : PEK X b tb) (hs : PlainIx b) : PEK X (.Subscript a b pos) (tOp r ta tb) := fun pins s σ H Q I h =>
  Subscript_ (thn (ha.run pins s σ H _ I h) fun v s1 ⟨x, H1, I1, r1, q1⟩ => thn (hb pins s1 σ H1 _ I1 q1) fun w s2 ⟨k, y, H2, I2, r2, q2⟩ => keepT k (hr a b pins s2 σ H2 x y v w Q I2 r1 r2 q2 (hs _ _)))
theorem ptk_cmp_l {op : CmpOp} {r : R2} (ho : OpR X (compareOp op) r) (ha : PEK X a ta) (hb : PE X b tb) (hm : behindInMarks op b = false) : PTK X (.Compare a [op] [b] pos) (tTest (tOp r ta tb)) := fun pins s σ H Q I h => by
  refine wpAny_isTrue_Compare1 (thn (ha pins s σ H _ I h) fun v s1 ⟨k, x, H1, I1, r1, q1⟩ => thn (keepT k (hb.run pins s1 σ H1 _ I1 q1)) fun u s2 ⟨k2, y, H2, I2, r2, q2⟩ =>
    thn (keepT k2 (ho pins s2 σ H2 x y v u _ I2 r1 r2 q2)) fun c s3 ⟨k3, z, H3, I3, r3, kk, e, q3⟩ => ?_) hm
  subst e
  cases r3
  exact wpAny_truthy_bool ⟨k3, H3, I3, q3⟩
theorem ptk_cmp_r {op : CmpOp} {r : R2} (ho : OpR X (compareOp op) r) (ha : PE X a ta) (hb : PEK X b tb) (hm : behindInMarks op b = false) : PTK X (.Compare a [op] [b] pos) (tTest (tOp r ta tb)) := fun pins s σ H Q I h => by
  refine wpAny_isTrue_Compare1 (thn (ha.run pins s σ H _ I h) fun v s1 ⟨x, H1, I1, r1, q1⟩ => thn (hb pins s1 σ H1 _ I1 q1) fun u s2 ⟨k2, y, H2, I2, r2, q2⟩ =>
    thn (keepT k2 (ho pins s2 σ H2 x y v u _ I2 r1 r2 q2)) fun c s3 ⟨k3, z, H3, I3, r3, kk, e, q3⟩ => ?_) hm
  subst e
  cases r3
  exact wpAny_truthy_bool ⟨k3, H3, I3, q3⟩
theorem ptt_cmp {op : CmpOp} {r : R2} (ho : OpR X (compareOp op) r) (ha : PET X a ta) (hb : PE X b tb) (hm : behindInMarks op b = false) : PTT X (.Compare a [op] [b] pos) (tTest (tOp r ta tb)) := fun pins s σ H Q h0 I h => by
  refine wpAny_isTrue_Compare1 (thn (ha pins s σ H _ h0 I h) fun v s1 ⟨x, H1, I1, r1, q1⟩ => thn (hb.run pins s1 σ H1 _ I1 q1) fun u s2 ⟨y, H2, I2, r2, q2⟩ =>
    thn (ho pins s2 σ H2 x y v u _ I2 r1 r2 q2) fun c s3 ⟨z, H3, I3, r3, kk, e, q3⟩ => ?_) hm
  subst e
  cases r3
  exact wpAny_truthy_bool ⟨H3, I3, q3⟩
theorem pwt_and1 (ha : PTT X a tA) : PWT X (.BoolOp .And [a] pos) tA := fun wh pins s σ H Q h0 I h => by
  refine isTrue_and (thn (ha pins s σ H Q h0 I h) fun c s1 e => ?_)
  cases c with
  | true => exact isTrue_and_nil e
  | false => exact e
theorem pw_andK (ha : PTK X a tA) (hb : PWT X (.BoolOp .And (b :: rest) pos) tB) : PW X (.BoolOp .And (a :: b :: rest) pos) (L2.tAnd tA tB) := ⟨fun wh pins s σ H Q I h => by
  refine isTrue_and (thn (ha pins s σ H _ I h) fun c s1 ⟨k, H1, I1, q1⟩ => ?_)
  cases c with
  | true => exact hb wh pins s1 σ H1 Q k I1 q1
  | false => exact ⟨H1, I1, q1⟩⟩
theorem pwt_or (ha : PT X a tA) (hb : PWT X (.BoolOp .Or (b :: rest) pos) tB) : PWT X (.BoolOp .Or (a :: b :: rest) pos) (L2.tOr tA tB) := fun wh pins s σ H Q h0 I h => by
  refine isTrue_or (thn (keepT h0 (ha.run pins s σ H _ I h)) fun c s1 ⟨k, H1, I1, q1⟩ => ?_)
  cases c with
  | true => exact ⟨H1, I1, q1⟩
  | false => exact hb wh pins s1 σ H1 Q k I1 q1
theorem pwt_orT (ha : PTT X a tA) (hb : PW X (.BoolOp .Or (b :: rest) pos) tB) : PWT X (.BoolOp .Or (a :: b :: rest) pos) (L2.tOr tA tB) := fun wh pins s σ H Q h0 I h => by
  refine isTrue_or (thn (ha pins s σ H _ h0 I h) fun c s1 ⟨H1, I1, q1⟩ => ?_)
  cases c with
  | true => exact ⟨H1, I1, q1⟩
  | false => exact hb.run wh pins s1 σ H1 Q I1 q1
theorem PWT.pt (h : PWT X a tA) : PTT X a tA := h _
theorem psk_if (hc : PTK X c tA) (ha : PSs X as t) (hb : PSs X bs u) : PSK X (.If c as bs pos) (tIfS tA t u) := fun pins s σ H D I h => by
  refine wpAny_If (thn (hc pins s σ H _ I h) fun d s1 ⟨k, H1, I1, q1⟩ => ?_)
  cases d with
  | true => exact keepT k (ha.run pins s1 σ H1 D I1 q1)
  | false => exact keepT k (hb.run pins s1 σ H1 D I1 q1)
theorem pst_ifT (hc : PTT X c tA) (ha : PSs X as t) (hb : PSs X bs u) : PST X (.If c as bs pos) (tIfS tA t u) := fun pins s σ H D h0 I h => by
  refine wpAny_If (thn (hc pins s σ H _ h0 I h) fun d s1 ⟨H1, I1, q1⟩ => ?_)
  cases d with
  | true => exact ha.run pins s1 σ H1 D I1 q1
  | false => exact hb.run pins s1 σ H1 D I1 q1
theorem pss_consK (h1 : PSK X st t) (h2 : PSsT X sts u) : PSs X (st :: sts) (tSeq t u) := ⟨fun pins s σ H D I h => by
  refine wpAny_execs_cons (thn (h1 pins s σ H { D with nx := u D } I h) fun f s1 q => ?_)
  obtain ⟨k, q⟩ := q
  cases f with
  | next =>
    obtain ⟨σ', H', I', q⟩ := q
    exact h2 pins s1 σ' H' D k I' q
  | ret v => exact q
  | brk => exact q
  | cont => exact q⟩
theorem pet_len {p pos : Pos} (hg : Gl X "len") (hm : X.mg "len" = none) (ha : PET X a ta) (he : starEach [a] X.env = (false, eval a X.env) :: starEach [] X.env := by rfl) :
    PET X (.Call (.Name "len" p) [a] [] pos) (fun σ H Q => ta σ H fun x H1 => ∃ z : Str, [x] = [V.str z] ∧ z.length ≤ sizeLine ∧ Q (.int z.length) H1) := fun pins s σ H Q h0 I h => by
  refine wpAny_Call_Name_kw (ld_blt I hg hm PySem.boot_len ?_ (by decide) (by decide))
  refine PyProof.Rows.callWith_builtin1 (thn (pat_cons ha pat_nil he pos pins s σ H (fun vs H1 => ∃ z, vs = [.str z] ∧ z.length ≤ sizeLine ∧ Q (.int z.length) H1) h0 I ?_) fun us s1 ⟨vs, H1, I1, r1, q1⟩ => ?_) he (by rfl)
  · exact h
  · obtain ⟨z, rfl, hz, q⟩ := q1
    exact call_len_str pins s1 σ H1 _ us Q I1 r1 ⟨z, rfl, hz, q⟩
end
/-- texts: list(text), text * n -/
def lTxt (a : DE) : DA := fun ρ S => (a ρ S).bind fun d S1 => match d with
  | .str z => if z.length ≤ 16777216 then .ok (signs z) S1 else .bad
  | _ => .bad
theorem call_list_txt {X : Cx} (hc : X.calm = true) : CallR X (.type "list") (fun xs H Q => ∃ z : Str, xs = [.str z] ∧ z.length ≤ sizeLine ∧ ∀ l, H l = none → Q (.ref l) (L2.upd H l (.lst (z.cps.toList.map fun c => V.str ⟨#[c]⟩)))) := by
  intro pins s σ H xs us Q I r h
  obtain ⟨z, rfl, hz, q⟩ := h
  obtain ⟨u, rfl, t, rfl⟩ := vals1 r
  refine call_list_str (I.ok.hd hc) z t (fun h' tk acc' c' hk he hi => ?_) hz
  have rv : Vals (z.cps.toList.map fun c => V.str ⟨#[c]⟩) acc'.toList := by
    refine vals_of_idx _ _ (by simp [hi.1]) fun j u hj => ?_
    obtain ⟨c, w, hc, rfl⟩ := hi.2 j u (by simpa using hj)
    exact ⟨.str ⟨#[c]⟩, by simp [hc], ⟨w, rfl⟩⟩
  exact ⟨.ref s.heap.objs.size, _, I.laid (t' := tk) hk (Nat.le_refl _) (show ObjOk X.prog X.w _ h' _ (.lst _) from ⟨by rw [List.length_map]; exact hz, acc'.toList, c', rv, by simpa using he⟩), rfl, q _ (I.hok.fresh (Nat.le_refl _))⟩
theorem signs_rd {K : PySem.W.Frag} {m B : List Addr} {H : Hp} (z : Str) : RDs K m B H (signs z) (z.cps.toList.map fun c => V.str ⟨#[c]⟩) := by
  unfold signs
  generalize z.cps.toList = l
  induction l with
  | nil => exact RDs.nil
  | cons c l ih => exact RDs.cons (RDst _) ih
def fMulS : D → D → Sto → R D
  | .str z, .int n, S => if 0 ≤ n ∧ n ≤ 1000 ∧ z.length ≤ 1000 then .ok (.str (Txt.mul z n)) S else .bad
  | _, _, _ => .bad
def rMulS : R2 := fun x y H Q => ∃ (z : Str) (n : Int), x = .str z ∧ y = .int n ∧ (0 ≤ n ∧ n ≤ 1000 ∧ z.length ≤ 1000) ∧ Q (.str (Txt.mul z n)) H
theorem op_mulS {X : Cx} : OpR X (binaryOp .Mult) rMulS := by
  intro pins s σ H x y v u Q I rx ry h
  obtain ⟨z, n, rfl, rfl, ⟨h0, h1, h2⟩, q⟩ := h
  obtain ⟨t, rfl⟩ := rx
  obtain ⟨t', rfl⟩ := ry
  refine PySem.SB.mul ⟨?_, fun hn _ => ?_, fun hn _ => ?_⟩ fun t' k => ⟨.str _, H, I.tok _, ⟨_, rfl⟩, q⟩
  · rw [decide_eq_false (by omega), decide_eq_false (by omega)]; rfl
  · have e : (9000000000000000 : Int) ≤ (2 ^ 63 - 1) / n := Int.le_ediv_of_mul_le (by omega) (by omega)
    omega
  · have hn : n.toNat ≤ 1000 := by omega
    have : z.length * n.toNat ≤ 1000 * 1000 := Nat.mul_le_mul h2 hn
    show decide (z.length * n.toNat > sizeLine) = false
    rw [sizeLine_eq]
    exact decide_eq_false (by omega)
theorem okMulS {K : PySem.W.Frag} : OkOp K rMulS fMulS := by
  intro m B H S d e x y W Q rs rd re p
  cases d <;> try exact p.elim
  cases e <;> try exact p.elim
  rename_i z n
  unfold RD at rd re
  subst rd re
  simp only [fMulS] at p
  split at p
  · rename_i h
    exact ⟨z, n, rfl, rfl, h, p.now rs _ (RDst _)⟩
  · exact p.elim
section
variable {X : Cx} {pos p0 : Pos} {a b e : Expr} {da db de : DE}
theorem ze_mulS (ha : ZE X a da) (hb : ZE X b db) : ZE X (.BinOp a .Mult b pos) (e2 fMulS da db) := ze_op op_mulS okMulS ha hb
theorem zl_txt (hc : X.calm = true) (hm : X.mg "list" = none) (ha : ZE X e de) (hg : Gl X "list" := by rfl) (he : starEach [e] X.env = (false, eval e X.env) :: starEach [] X.env := by rfl) : ZL X (.Call (.Name "list" p0) [e] [] pos) (lTxt de) := fun W tk =>
  pe_weak (pe_callTy (call_list_txt hc) hg hm (by decide +kernel) (pa_cons (ha W tk) pa_nil he) (by decide) (by decide) he (by rfl)) fun σ H Q ⟨m, B, ρ, S, rs, e, p⟩ => tE.takeL rs e p fun d S1 m1 H1 v g1 r1 e1 rd p1 => by
    cases d <;> try exact p1.elim
    rename_i z
    have rz := rd
    unfold RD at rz
    subst rz
    simp only at p1
    split at p1
    · rename_i hz
      exact ⟨z, rfl, by rw [sizeLine_eq]; exact hz, fun l hl => p1.put r1 (signs_rd z) hl⟩
    · exact p1.elim
end
end Z
namespace Z
open PySem PySem.Spec PyProof.Rows L2
/-! ### enumerate(text) -/
def IteS (x : Str) : It := ⟨fun i _ => i < x.cps.size, fun i H v H' => ∃ T c, v = .ref T ∧ H T = none ∧ H' = L2.upd H T (.tup [.int (i : Nat), .str ⟨#[c]⟩]) ∧ x.cps[i]? = some c, fun i _ => x.cps.size ≤ i⟩
theorem turn_enumS {P : Program} {w : World} {K : PySem.W.Frag} {elts : List Expr} {kk : Nat} {tpos : Pos} (e it : Addr) (x : Str) (t : Tok) (ty : String) (hty : ty = "str_ascii_iterator" ∨ ty = "str_iterator") :
    Turn P w K (.Tuple elts kk tpos) (IteS x) [e, it] e (fun i h => (∃ old, IsEnum h e it ((i : Nat) : Int) old) ∧ h.IsStrIter it ty x t i ∧ e ≠ it) where
  mem := List.mem_cons_self ..
  obj := fun i h st b hb => by
    obtain ⟨⟨old, he⟩, ⟨o, ho, hc, hd⟩, _⟩ := st
    rcases List.mem_cons.mp hb with z | z
    · rw [z]; exact ⟨_, he, fun v q => nomatch q⟩
    · rw [List.mem_singleton.mp z]; exact ⟨o, ho, fun v q => by rw [hd] at q; cases q⟩
  keep := fun i h h' st k => by
    obtain ⟨⟨old, he⟩, ⟨o, ho, r⟩, ne⟩ := st
    exact ⟨⟨old, k e (List.mem_cons_self ..) _ he⟩, ⟨o, k it (List.mem_cons_of_mem _ (List.mem_cons_self ..)) o ho, r⟩, ne⟩
  item := by
    intro X hP hw hK hc i pins s σ H E I hf st hg
    subst hP hw hK
    obtain ⟨⟨old, he⟩, hit, hne⟩ := st
    have hg' : i < x.cps.size := hg
    have l1 : e < s.heap.objs.size := Heap.lt_size he
    have l2 : it < s.heap.objs.size := by obtain ⟨_, q, _⟩ := hit; exact Heap.lt_size q
    have D : Draws X.prog X.w X.A.in1 it [it] x.cps.size (fun i v => ∃ c u, x.cps[i]? = some c ∧ v = .str ⟨#[c]⟩ u) (fun i h => h.IsStrIter it ty x t i) := by
      rcases hty with e | e
      · rw [e]; exact Draws.strAscii (A := X.A.in1) (I.ok.hd hc) it x t
      · rw [e]; exact Draws.strWide (A := X.A.in1) (I.ok.hd hc) it x t
    have nef : e ∉ [it] := by simp [hne]
    refine wpAny_pyNext_enum_itemC D he hit hg' hne nef fun y h' tk hy ho hst hT hsz hk => ?_
    obtain ⟨c, u, hcx, rfl⟩ := hy
    refine ⟨_, rfl, wpAny_letOwnedTupleGo_enum (s := { s with heap := h', toks := tk + 1 }) ho fun h2 he' sb => ?_⟩
    have hT2 : h2.get? s.heap.objs.size = some { cls := .type "tuple", data := .seq #[.int i tk, .str ⟨#[c]⟩ u] } := (sb.2 _ (Nat.ne_of_gt l1)).trans hT
    have new : ObjOk X.prog X.w (L2.upd H s.heap.objs.size (.tup [.int (i : Nat), .str ⟨#[c]⟩])) h2 s.heap.objs.size (.tup [.int (i : Nat), .str ⟨#[c]⟩]) :=
      ⟨by show 2 ≤ sizeLine; decide, [.int i tk, .str ⟨#[c]⟩ u], .cons ⟨_, rfl⟩ (.cons ⟨_, rfl⟩ .nil), ⟨_, hT2, rfl, _, rfl⟩⟩
    have J : Inv X pins σ (L2.upd H s.heap.objs.size (.tup [.int (i : Nat), .str ⟨#[c]⟩])) { s with heap := h2, toks := tk + 1 } :=
      I.turnedNew (ch := [e, it]) (fun b ob hb q => (sb.2 b (fun z => hb (by simp [z]))).trans (hk b ob (fun z => hb (by simp [z])) (fun z => hb (by simp [z])) q)) hf (Nat.le_refl _) new
    refine ⟨.ref s.heap.objs.size, _, J, rfl, ⟨_, c, rfl, I.hok.fresh (Nat.le_refl _), rfl, hcx⟩, ⟨⟨.str ⟨#[c]⟩ u, ?_⟩, ?_, hne⟩, fun b hb => ?_⟩
    · have e2 : ((i + 1 : Nat) : Int) = (i : Int) + 1 := by omega
      rw [e2]
      exact he'
    · obtain ⟨o, h1, h2'⟩ := hst
      exact ⟨o, (sb.2 it (Ne.symm hne)).trans h1, h2'⟩
    · have lb : b < s.heap.objs.size := by
        rcases List.mem_cons.mp hb with z | z
        · rw [z]; exact l1
        · rw [List.mem_singleton.mp z]; exact l2
      rw [upd_ne (Nat.ne_of_lt lb)]
      exact (hf b hb).1
  done := by
    intro X hP hw hK hc i pins s σ H E I hf st hg
    subst hP hw hK
    obtain ⟨⟨old, he⟩, hit, hne⟩ := st
    have hx : x.cps[i]? = none := Array.getElem?_eq_none hg
    obtain ⟨f0, f1, f2, f3, f4, f5⟩ := hf it (by simp)
    have hT : s.TypeIs (.ref e) "enumerate" := ⟨_, he, rfl⟩
    unfold pyNext
    refine wpAny_bind (wpAny_attempt (wpAny_callSpecial?_slot (name := Str.ofString "__next__") hT F.slot_enumerate_next
      (wpAny_call_entry F.slot_enumerate_next hT F.entry_enumerate_next ?_ (F.args_enumerate_next_1 _))))
    show wpAny _ _ (field (.ref e) 2 >>= _) _ _ _
    refine wpAny_bind (wpAny_field he rfl (x := .ref it) rfl ?_)
    rcases hty with e1 | e1
    · rw [e1] at hit
      refine wpAny_bind (wpAny_nextOf_ascii_end (I.ok.hd hc) hit hx fun h' x' eb hx' => ?_)
      obtain ⟨o, ho, hco⟩ := hx'
      refine wpAny_bind (wpAny_isInstance (T := "StopIteration") (b := true) ⟨o, ho, hco⟩ isSubtype_stop ?_)
      exact wpAny_pure ⟨rfl, I.turned (t' := s.toks) (fun b o hb q => eb b o hb q) f0 f1 f3 f4 f5⟩
    · rw [e1] at hit
      refine wpAny_bind (wpAny_nextOf_wide_end (I.ok.hd hc) hit hx fun h' x' eb hx' => ?_)
      obtain ⟨o, ho, hco⟩ := hx'
      refine wpAny_bind (wpAny_isInstance (T := "StopIteration") (b := true) ⟨o, ho, hco⟩ isSubtype_stop ?_)
      exact wpAny_pure ⟨rfl, I.turned (t' := s.toks) (fun b o hb q => eb b o hb q) f0 f1 f3 f4 f5⟩
  self := fun A i s Q E st h => by
    obtain ⟨⟨_, he⟩, _⟩ := st
    exact wpAny_pyIter_enum he h
theorem signs_get {x : Str} {i : Nat} {d : D} (h : (signs x)[i]? = some d) : ∃ c, x.cps[i]? = some c ∧ d = .str ⟨#[c]⟩ := by
  simp [signs] at h
  obtain ⟨c, h1, h2⟩ := h
  exact ⟨c, h1, h2.symm⟩
theorem jy_enumS {K : PySem.W.Frag} {m0 B0 : List Addr} {H0 : Hp} (x : Str) : JY K (IteS x) m0 B0 H0 (enumF 0 (signs x)) fun _ => True where
  go := fun i m B H S t rs hc hi => by
    rw [enumF_len] at hi
    show i < x.cps.size
    simpa [signs] using hi
  yl := fun i m B H S v H' d t rs hc hd y => by
    have hi := (List.getElem?_eq_some_iff.mp hd).1
    rw [enumF_len] at hi
    obtain ⟨T, c, rfl, hT, rfl, hcx⟩ := y
    have hs : (signs x)[i]? = some (.str ⟨#[c]⟩) := by
      have : x.cps.toList[i]? = some c := by simpa using hcx
      simp [signs, this]
    rw [enumF_get _ 0 i _ hs, Nat.zero_add] at hd
    cases hd
    exact new_pair rs hT (RDs.cons (RDi _) (RDs.cons (RDst _) RDs.nil))
  st := fun i m B H S t rs hc hi => by
    rw [enumF_len] at hi
    show x.cps.size ≤ i
    simpa [signs] using hi
def fEnumT : D → Sto → R (List D × (Sto → Prop))
  | .str z, S1 => .ok (enumF 0 (signs z), fun _ => True) S1
  | _, _ => .bad
def iEnT (a : DE) : DI := fun ρ S => (a ρ S).bind fEnumT
theorem zi_enumS {X : Cx} {e : Expr} {elts : List Expr} {kk : Nat} {tpos p pos : Pos} {de : DE} (hm : X.mg "enumerate" = none) (ha : ZE X e de) (hg : Gl X "enumerate" := by rfl) (hs : starEach [e] X.env = (false, eval e X.env) :: starEach [] X.env := by rfl) : ZI X (.Tuple elts kk tpos) (.Call (.Name "enumerate" p) [e] [] pos) (iEnT de) := fun W tk => ⟨fun pins s σ H Q I ⟨m, B, ρ, S, rs, ev, p⟩ => by
  refine Call_ (ld_blt I hg hm boot_enumerate (PyProof.Rows.callWith_type1 (PyProof.Rows.args_cons (thn ((ha W tk).run pins s σ H (fun v H1 => ∃ z : Str, v = .str z ∧ Q (IteS z) H1) I ?_) fun u s1 hh => PyProof.Rows.args_nil ?_) hs) hs rfl))
  · refine tE.takeA rs ev p fun d S1 m1 H1 v g1 r1 e1 rd p1 => ?_
    cases d <;> try exact p1.elim
    rename_i z
    unfold RD at rd
    subst rd
    exact ⟨z, rfl, p1.now r1 trivial _ (jy_enumS z)⟩
  · obtain ⟨v, H1, I1, r1, z, rfl, q⟩ := hh
    obtain ⟨t, rfl⟩ := r1
    have fresh : ∀ b, b ∈ [s1.heap.objs.size + 1, s1.heap.objs.size] → FpOk X pins H1 b := fun b hb => by
      have le : s1.heap.objs.size ≤ b := by
        rcases List.mem_cons.mp hb with z | z
        · rw [z]; exact Nat.le_add_right _ _
        · rw [List.mem_singleton.mp z]; exact Nat.le_refl _
      exact I1.fpOk le (I1.hok.fresh le)
    refine call_enumerate_str fun h' he hit hsz hk => wpAny_pyIter_enum he ?_
    have I2 : Inv X pins σ H1 { s1 with heap := h' } := I1.kept (t' := s1.toks) hk
    have ht : strIterType z = "str_ascii_iterator" ∨ strIterType z = "str_iterator" := by
      unfold strIterType
      split
      · exact .inl rfl
      · exact .inr rfl
    exact ⟨s1.heap.objs.size + 1, [s1.heap.objs.size + 1, s1.heap.objs.size], _, _, H1, rfl, I2, turn_enumS (s1.heap.objs.size + 1) s1.heap.objs.size z t (strIterType z) ht, ⟨⟨.none, he⟩, hit, Nat.succ_ne_self _⟩, fresh, q⟩⟩

/-! ### a token is out: the readings -/
section
variable {X : Cx}
def ZEt (X : Cx) (e : Expr) (d : DE) : Prop := ∀ W, Takes X W → PET X e (tE W X.K d)
def ZTt (X : Cx) (e : Expr) (d : DT) : Prop := ∀ W, Takes X W → PTT X e (tTe W X.K d)
def ZWt (X : Cx) (e : Expr) (d : DT) : Prop := ∀ W, Takes X W → PWT X e (tTe W X.K d)
def ZEk (X : Cx) (e : Expr) (d : DE) : Prop := ∀ W, Takes X W → PEK X e (tE W X.K d)
def ZTk (X : Cx) (e : Expr) (d : DT) : Prop := ∀ W, Takes X W → PTK X e (tTe W X.K d)
def ZSk (X : Cx) (st : Stmt) (d : DS) : Prop := ∀ W, Takes X W → PSK X st (tS W X.K d)
def ZSt (X : Cx) (st : Stmt) (d : DS) : Prop := ∀ W, Takes X W → PST X st (tS W X.K d)
def ZBt (X : Cx) (st : List Stmt) (d : DS) : Prop := ∀ W, Takes X W → PSsT X st (tS W X.K d)
variable {pos p0 apos c0 c1 : Pos} {a b c e : Expr} {rest : List Expr} {st : Stmt} {sts as bs : List Stmt} {da db dobj de : DE} {ta tb dt : DT} {sa sb : DS}
def fRepl (y z : Str) (d : D) (S : Sto) : R D := match d with
  | .str x => if x.length + (x.length + 1) * z.length ≤ 16777216 then .ok (.str (Txt.replace x y z)) S else .bad
  | _ => .bad
theorem zet_repl {o : Expr} {y z : Str} {j k : Nat} (ho : ZE X o dobj) (hyz : (y == z) = false := by decide)
    (hst : starEach [.Constant (.str y) j c0, .Constant (.str z) k c1] X.env = [(false, eval (.Constant (.str y) j c0) X.env), (false, eval (.Constant (.str z) k c1) X.env)] := by rfl)
    (hbase : attributeBase o "replace" X.env (eval o X.env) = eval o X.env := by rfl) (hline : (apos.endLine == pos.line) = true := by rfl) :
    ZEt X (.Call (.Attribute o "replace" apos) [.Constant (.str y) j c0, .Constant (.str z) k c1] [] pos) (Z.e1 (fRepl y z) dobj) := fun W tk pins s σ H Q h0 I ⟨m, B, ρ, S, rs, e, p⟩ =>
  CwR.pet_replC (ho W tk) hyz hst hbase hline pins s σ H Q h0 I (tE.take (f := fRepl y z) rs e p fun d S1 m1 H1 v g1 r1 e1 rd p1 => by
    cases d <;> try exact p1.elim
    rename_i x
    unfold RD at rd
    subst rd
    simp only [fRepl] at p1
    split at p1
    · rename_i hz
      exact ⟨x, rfl, hz, p1.now r1 _ (RDst _)⟩
    · exact p1.elim)
def fLenS (d : D) (S : Sto) : R D := match d with
  | .str x => if x.length ≤ 16777216 then .ok (.int x.length) S else .bad
  | _ => .bad
theorem zet_len (hm : X.mg "len" = none) (ha : ZEt X a da) (hg : Gl X "len" := by rfl) (he : starEach [a] X.env = (false, eval a X.env) :: starEach [] X.env := by rfl) :
    ZEt X (.Call (.Name "len" p0) [a] [] pos) (Z.e1 fLenS da) := fun W tk pins s σ H Q h0 I ⟨m, B, ρ, S, rs, e, p⟩ =>
  pet_len hg hm (ha W tk) he pins s σ H Q h0 I (tE.take (f := fLenS) rs e p fun d S1 m1 H1 v g1 r1 e1 rd p1 => by
    cases d <;> try exact p1.elim
    rename_i x
    unfold RD at rd
    subst rd
    simp only [fLenS] at p1
    split at p1
    · rename_i hz
      exact ⟨x, rfl, by rw [sizeLine_eq]; exact hz, p1.now r1 _ (RDi _)⟩
    · exact p1.elim)
theorem ztt_cmp {op : CmpOp} {r : R2} {f : D → D → Sto → R D} (ho : OpR X (compareOp op) r) (h : OkOp X.K r f) (ha : ZEt X a da) (hb : ZE X b db) (hm : behindInMarks op b = false) : ZTt X (.Compare a [op] [b] pos) (tVB (Z.e2 f da db)) := fun W tk pins s σ H Q h0 I ⟨m, B, ρ, S, rs, e, p⟩ =>
  ptt_cmp ho (ha W tk) (hb W tk) hm pins s σ H Q h0 I (te_op h σ H _ (te_bool rs e p))
theorem ztt_lt (ha : ZEt X a da) (hb : ZE X b db) : ZTt X (.Compare a [.Lt] [b] pos) (tVB (Z.e2 fLt da db)) := ztt_cmp op_lt (okI0 fun _ _ _ _ _ => RDb _) ha hb (nomark _)
theorem ztt_eq (hu : X.A.units + 64 < cLine) (ha : ZEt X a da) (hb : ZE X b db) : ZTt X (.Compare a [.Eq] [b] pos) (tVB (Z.e2 fEq da db)) := ztt_cmp (op_eqD hu) okEq ha hb (nomark _)
theorem zek_str {x : Str} {j : Nat} : ZEk X (.Constant (.str x) j pos) (eC (.str x)) := fun W tk pins s σ H Q I ⟨m, B, ρ, S, rs, e, p⟩ => pek_str pins s σ H Q I (p.now rs _ (RDst _))
theorem zek_int {x : Int} {j : Nat} : ZEk X (.Constant (.int x) j pos) (eC (.int x)) := fun W tk pins s σ H Q I ⟨m, B, ρ, S, rs, e, p⟩ => pek_int pins s σ H Q I (p.now rs _ (RDi _))
theorem zek_ix (ha : ZE X a da) (hb : ZEk X b db) (hs : PlainIx b := by exact fun _ _ => rfl) : ZEk X (.Subscript a b pos) (Z.e2 fIx da db) := fun W tk pins s σ H Q I h =>
  pek_ix ix_seq (ha W tk) (fun pins s σ H Q I h => hb W tk pins s σ H Q I h) hs pins s σ H Q I (te_op okIx σ H Q h)
theorem ztk_cmp_l {op : CmpOp} {r : R2} {f : D → D → Sto → R D} (ho : OpR X (compareOp op) r) (h : OkOp X.K r f) (ha : ZEk X a da) (hb : ZE X b db) (hm : behindInMarks op b = false) : ZTk X (.Compare a [op] [b] pos) (tVB (Z.e2 f da db)) := fun W tk pins s σ H Q I ⟨m, B, ρ, S, rs, e, p⟩ =>
  ptk_cmp_l ho (ha W tk) (hb W tk) hm pins s σ H Q I (te_op h σ H _ (te_bool rs e p))
theorem ztk_cmp_r {op : CmpOp} {r : R2} {f : D → D → Sto → R D} (ho : OpR X (compareOp op) r) (h : OkOp X.K r f) (ha : ZE X a da) (hb : ZEk X b db) (hm : behindInMarks op b = false) : ZTk X (.Compare a [op] [b] pos) (tVB (Z.e2 f da db)) := fun W tk pins s σ H Q I ⟨m, B, ρ, S, rs, e, p⟩ =>
  ptk_cmp_r ho (ha W tk) (hb W tk) hm pins s σ H Q I (te_op h σ H _ (te_bool rs e p))
theorem ztk_ne (hu : X.A.units + 64 < cLine) (ha : ZE X a da) (hb : ZEk X b db) : ZTk X (.Compare a [.NotEq] [b] pos) (tVB (Z.e2 fNe da db)) := ztk_cmp_r (op_neD hu) okNe ha hb (nomark _)
theorem ztk_inC (ha : ZEk X a da) (hb : ZE X b db) (hm : behindInMarks .In b = false := by rfl) : ZTk X (.Compare a [.In] [b] pos) (tVB (Z.e2 fInC da db)) := ztk_cmp_l op_inS okInC ha hb hm
theorem zwt_and1 (ha : ZTt X a ta) : ZWt X (.BoolOp .And [a] pos) ta := fun W tk => pwt_and1 (ha W tk)
theorem te_and {W : WX} {K : PySem.W.Frag} (σ : L2.St) (H : Hp) (Q : Bool → Hp → Prop) : tTe W K (Z.tAnd ta tb) σ H Q → L2.tAnd (tTe W K ta) (tTe W K tb) σ H Q := fun ⟨m, B, ρ, S, rs, e, p⟩ => tTe.take rs e p fun b S1 m1 H1 g1 r1 e1 p1 => by
  cases b with
  | true => exact ⟨m1, B, ρ, S1, r1, e1, p1⟩
  | false => exact p1.now r1
theorem te_or {W : WX} {K : PySem.W.Frag} (σ : L2.St) (H : Hp) (Q : Bool → Hp → Prop) : tTe W K (Z.tOr ta tb) σ H Q → L2.tOr (tTe W K ta) (tTe W K tb) σ H Q := fun ⟨m, B, ρ, S, rs, e, p⟩ => tTe.take rs e p fun b S1 m1 H1 g1 r1 e1 p1 => by
  cases b with
  | true => exact p1.now r1
  | false => exact ⟨m1, B, ρ, S1, r1, e1, p1⟩
theorem zw_andK (ha : ZTk X a ta) (hb : ZWt X (.BoolOp .And (b :: rest) pos) tb) : ZW X (.BoolOp .And (a :: b :: rest) pos) (Z.tAnd ta tb) := fun W tk => pw_weak (pw_andK (ha W tk) (hb W tk)) te_and
theorem zwt_or (ha : ZT X a ta) (hb : ZWt X (.BoolOp .Or (b :: rest) pos) tb) : ZWt X (.BoolOp .Or (a :: b :: rest) pos) (Z.tOr ta tb) := fun W tk wh pins s σ H Q h0 I h => pwt_or (ha W tk) (hb W tk) wh pins s σ H Q h0 I (te_or σ H Q h)
theorem zwt_orT (ha : ZTt X a ta) (hb : ZW X (.BoolOp .Or (b :: rest) pos) tb) : ZWt X (.BoolOp .Or (a :: b :: rest) pos) (Z.tOr ta tb) := fun W tk wh pins s σ H Q h0 I h => pwt_orT (ha W tk) (hb W tk) wh pins s σ H Q h0 I (te_or σ H Q h)
theorem ztt_w (h : ZWt X a ta) : ZTt X a ta := fun W tk => (h W tk).pt
theorem ts_if {W : WX} {K : PySem.W.Frag} (E : Ends) (σ : L2.St) (H : Hp) : tS W K (sIf dt sa sb) E σ H → tIfS (tTe W K dt) (tS W K sa) (tS W K sb) E σ H := fun ⟨m, B, ρ, S, rs, e, p⟩ =>
  tTe.takeS rs e p fun b S1 m1 H1 g1 r1 e1 p1 => by
    cases b with
    | true => exact ⟨m1, B, ρ, S1, r1, e1, p1⟩
    | false => exact ⟨m1, B, ρ, S1, r1, e1, p1⟩
theorem zsk_if (hc : ZTk X c dt) (ha : ZB X as sa) (hb : ZB X bs sb) : ZSk X (.If c as bs pos) (sIf dt sa sb) := fun W tk pins s σ H D I h => psk_if (hc W tk) (ha W tk) (hb W tk) pins s σ H D I (ts_if D σ H h)
theorem zst_if (hc : ZTt X c dt) (ha : ZB X as sa) (hb : ZB X bs sb) : ZSt X (.If c as bs pos) (sIf dt sa sb) := fun W tk pins s σ H D h0 I h => pst_ifT (hc W tk) (ha W tk) (hb W tk) pins s σ H D h0 I (ts_if D σ H h)
theorem ts_seq {W : WX} {K : PySem.W.Frag} (E : Ends) (σ : L2.St) (H : Hp) : tS W K (sSeq sa sb) E σ H → tSeq (tS W K sa) (tS W K sb) E σ H := fun ⟨m, B, ρ, S, rs, e, p⟩ => by
  refine ⟨m, B, ρ, S, rs, e, ?_⟩
  unfold sSeq at p
  cases hd : sa ρ S with
  | nx ρ' S' =>
    rw [hd] at p
    exact fun m1 H1 σ1 g1 r1 e1 => ⟨m1, B, ρ', S', r1, e1, PostS.ge p g1⟩
  | rt d S' => rw [hd] at p; exact p
  | bk ρ' S' => rw [hd] at p; exact p
  | ct ρ' S' => rw [hd] at p; exact p
  | exc ρ' c d S' => rw [hd] at p; exact p
  | bad => rw [hd] at p; exact p
theorem zb_consK (h1 : ZSk X st sa) (h2 : ZBt X sts sb) : ZB X (st :: sts) (sSeq sa sb) := fun W tk => pss_weak (pss_consK (h1 W tk) (h2 W tk)) ts_seq
theorem zbt_cons (h1 : ZSt X st sa) (h2 : ZB X sts sb) : ZBt X (st :: sts) (sSeq sa sb) := fun W tk pins s σ H D h0 I h => psst_cons (h1 W tk) (PSsT.of (h2 W tk)) pins s σ H D h0 I (ts_seq D σ H h)
end
end Z
namespace Z.k67
open PySem L2 Z
def top (i : Nat) : Stmt := PySem.Challenge.pw_wholestrokes_k67_whole_plain_values_as_t.main.body.getD i (.Pass ⟨0, 0, 0, 0⟩)
structure Ad where
  (PlainReading StrokesError InvalidText : Addr)
@[reducible] def Ad.cs (c : Ad) : List Addr := [c.PlainReading]
@[reducible] def Ad.es (c : Ad) : List Addr := [c.InvalidText]
def Ad.mt_StrokesError (c : Ad) (C : Addr) : Option Bool := if C = c.InvalidText then some true else none
def Ad.is_StrokesError (c : Ad) (C : Addr) : Option Bool := if C = c.InvalidText then some true else none
def Ad.mt_InvalidText (c : Ad) (C : Addr) : Option Bool := if C = c.InvalidText then some true else none
def Ad.is_InvalidText (c : Ad) (C : Addr) : Option Bool := if C = c.InvalidText then some true else none
def ad (K : PySem.W.Frag) : Ad := ⟨He.ga K "PlainReading", He.ga K "StrokesError", He.ga K "InvalidText"⟩
/-! is_integer -/
abbrev s_is_integer : Stmt := top 4
def dl_is_integer : List D := []
noncomputable def den_is_integer (c : Ad) : DS := (sRet (eAnd (eCall (fIsi c.cs) (aC (eV 0) (aC (eC (.ty "int")) aN))) (eNot (eCall (fIsi c.cs) (aC (eV 0) (aC (eC (.ty "bool")) aN))))))
noncomputable def F_is_integer (c : Ad) : List D → Sto → R D := runB 1 (den_is_integer c)
/-! is_plain -/
abbrev s_is_plain : Stmt := top 10
def dl_is_plain : List D := [.int 0]
noncomputable def den_is_plain (c : Ad) (F_rec : List D → Sto → R D) : DS := (sSeq (sIf (tVB (e1 fIsN (eV 0))) (sRet (eC (.bl true))) sNx)
  (sSeq (sIf (tV (eCall (fIsi c.cs) (aC (eV 0) (aC (eC (.ty "tuple")) aN)))) (sRet (eAnd (e2 fLt (eV 1) (eC (.int 16))) (eCall fAll (aC (eLV (lLc (.nm 2) (iSeq (eV 0)) tYes (eFn 2 (F_rec) (dl_is_plain.drop 1) (aC (eV 2) (aC (e2 fPlus (eV 1) (eC (.int 1))) aN))) [2])) aN)))) sNx)
  (sRet (eAnd (eFn 1 (F_is_integer c) (dl_is_integer.drop 0) (aC (eV 0) aN)) (e2 fLt (eCall fAbs (aC (eV 0) aN)) (e2 fPow (eC (.int 10)) (eC (.int 12))))))))
noncomputable def F_is_plain (c : Ad) : Nat → List D → Sto → R D
  | 0 => fun _ _ => .bad
  | fuel + 1 => runB 3 (den_is_plain c (F_is_plain c fuel))
/-! plain_text -/
abbrev s_plain_text : Stmt := top 11
def dl_plain_text : List D := []
noncomputable def den_plain_text (c : Ad) (F_rec : List D → Sto → R D) : DS := (sSeq (sIf (tVB (e1 fIsN (eV 0))) (sRet (eC (.str "none"))) sNx)
  (sSeq (sIf (tV (eCall (fIsi c.cs) (aC (eV 0) (aC (eC (.ty "tuple")) aN)))) (sRet (e2 fPlus (e2 fPlus (eC (.str "(")) (eS1 fJoin (eC (.str " ")) (eLV (lLc (.nm 1) (iSeq (eV 0)) tYes (eFn 1 (F_rec) (dl_plain_text.drop 0) (aC (eV 1) aN)) [1])))) (eC (.str ")")))) sNx)
  (sRet (eCall fStr (aC (eV 0) aN)))))
noncomputable def F_plain_text (c : Ad) : Nat → List D → Sto → R D
  | 0 => fun _ _ => .bad
  | fuel + 1 => runB 2 (den_plain_text c (F_plain_text c fuel))
/-! PlainReading.__init__ -/
abbrev s_PlainReading_mk : Stmt := inClass (top 12) 0
def dl_PlainReading_mk : List D := []
noncomputable def den_PlainReading_mk (c : Ad) : DS := (sSeq (sAttr c.cs "rows" (eLN aN) (eV 0))
  (sSeq (sAttr c.cs "run" (eC (.str "")) (eV 0))
  (sSeq (sAttr c.cs "due" (eC (.bl true)) (eV 0))
  (sSeq (sAttr c.cs "begun" (eC (.bl false)) (eV 0))
  (sAttr c.cs "made" (eLN aN) (eV 0))))))
noncomputable def F_PlainReading_mk (c : Ad) : List D → Sto → R D := runB 1 (den_PlainReading_mk c)
/-! PlainReading.put -/
abbrev s_PlainReading_put : Stmt := inClass (top 12) 1
def dl_PlainReading_put : List D := []
noncomputable def den_PlainReading_put (c : Ad) : DS := (sSeq (sAttr2 c.cs "due" "begun" (eTup (aC (eC (.bl false)) (aC (eC (.bl false)) aN))) (eV 0) (eV 0))
  (sIf (tVB (e2 fEqE (eFld c.cs "rows" (eV 0)) (eLV aN))) (sDrop (eBM fApp (eFld c.cs "made" (eV 0)) (aC (eV 1) aN))) (sDrop (eBM fApp (e2 fIx (eFld c.cs "rows" (eV 0)) (e1 fNeg (eC (.int 1)))) (aC (eV 1) aN)))))
noncomputable def F_PlainReading_put (c : Ad) : List D → Sto → R D := runB 2 (den_PlainReading_put c)
/-! PlainReading.ends_run -/
abbrev s_PlainReading_ends_run : Stmt := inClass (top 12) 2
def dl_PlainReading_ends_run : List D := []
noncomputable def den_PlainReading_ends_run (c : Ad) : DS := (sSeq (sIf (tVB (e2 fEq (eFld c.cs "run" (eV 0)) (eC (.str "")))) (sRet (eC (.bl true))) sNx)
  (sSeq (sIf (tOr (tVB (e2 fEq (eFld c.cs "run" (eV 0)) (eC (.str "-")))) (tAnd (tVB (e2 fInC (e2 fIx (eFld c.cs "run" (eV 0)) (eC (.int 0))) (eC (.str "none")))) (tVB (e2 fNe (eFld c.cs "run" (eV 0)) (eC (.str "none")))))) (sRet (eC (.bl false))) sNx)
  (sSeq (sDrop (eMt c.cs "put" c.PlainReading 2 (F_PlainReading_put c) (dl_PlainReading_put.drop 0) (eV 0) (aC (eIf (tVB (e2 fEq (eFld c.cs "run" (eV 0)) (eC (.str "none")))) (eC .non) (eCall fIntT (aC (eFld c.cs "run" (eV 0)) aN))) aN)))
  (sSeq (sAttr c.cs "run" (eC (.str "")) (eV 0))
  (sRet (eC (.bl true)))))))
noncomputable def F_PlainReading_ends_run (c : Ad) : List D → Sto → R D := runB 1 (den_PlainReading_ends_run c)
/-! PlainReading.goes_on -/
abbrev s_PlainReading_goes_on : Stmt := inClass (top 12) 3
def dl_PlainReading_goes_on : List D := []
noncomputable def den_PlainReading_goes_on (c : Ad) : DS := (sSeq (sIf (tVB (e2 fInC (e2 fIx (eFld c.cs "run" (eV 0)) (eC (.int 0))) (eC (.str "none")))) (sRet (e2 fEq (e2 fPlus (eFld c.cs "run" (eV 0)) (eV 1)) (eSl (eC (.str "none")) oN (oS (e2 fPlus (eCall fLen (aC (eFld c.cs "run" (eV 0)) aN)) (eC (.int 1))))))) sNx)
  (sSeq (sIf (tOr (tVB (e2 fNotInC (eV 1) (eC (.str "0123456789")))) (tOr (tVB (e2 fEq (e1 fLenS (e1 (fRepl "-" "") (eFld c.cs "run" (eV 0)))) (eC (.int 12)))) (tVB (e2 fEq (eFld c.cs "run" (eV 0)) (eC (.str "0")))))) (sRet (eC (.bl false))) sNx)
  (sRet (eOr (e2 fNe (eFld c.cs "run" (eV 0)) (eC (.str "-"))) (e2 fNe (eV 1) (eC (.str "0")))))))
noncomputable def F_PlainReading_goes_on (c : Ad) : List D → Sto → R D := runB 2 (den_PlainReading_goes_on c)
/-! PlainReading.begins -/
abbrev s_PlainReading_begins : Stmt := inClass (top 12) 4
def dl_PlainReading_begins : List D := []
noncomputable def den_PlainReading_begins (c : Ad) : DS := (sSeq (sIf (tNot (tV (eFld c.cs "due" (eV 0)))) (sRet (eC (.bl false))) sNx)
  (sSeq (sIf (tVB (e2 fEq (eV 1) (eC (.str "(")))) (sSeq (sIf (tVB (e2 fEq (eCall fLen (aC (eFld c.cs "rows" (eV 0)) aN)) (eC (.int 16)))) (sRet (eC (.bl false))) sNx)
  (sSeq (sDrop (eBM fApp (eFld c.cs "rows" (eV 0)) (aC (eLN aN) aN)))
  (sSeq (sAttr c.cs "begun" (eC (.bl true)) (eV 0))
  (sRet (eC (.bl true)))))) sNx)
  (sSeq (sIf (tOr (tVB (e2 fInC (eV 1) (eC (.str "0123456789")))) (tOr (tVB (e2 fEq (eV 1) (eC (.str "-")))) (tVB (e2 fEq (eV 1) (e2 fIx (eC (.str "none")) (eC (.int 0))))))) (sSeq (sAttr2 c.cs "run" "begun" (eTup (aC (eV 1) (aC (eC (.bl false)) aN))) (eV 0) (eV 0))
  (sRet (eC (.bl true)))) sNx)
  (sRet (eC (.bl false))))))
noncomputable def F_PlainReading_begins (c : Ad) : List D → Sto → R D := runB 2 (den_PlainReading_begins c)
/-! PlainReading.closes -/
abbrev s_PlainReading_closes : Stmt := inClass (top 12) 5
def dl_PlainReading_closes : List D := []
noncomputable def den_PlainReading_closes (c : Ad) : DS := (sSeq (sIf (tOr (tNot (tV (eMt c.cs "ends_run" c.PlainReading 1 (F_PlainReading_ends_run c) (dl_PlainReading_ends_run.drop 0) (eV 0) aN))) (tOr (tVB (e2 fEqE (eFld c.cs "rows" (eV 0)) (eLV aN))) (tAnd (tV (eFld c.cs "due" (eV 0))) (tNot (tV (eFld c.cs "begun" (eV 0))))))) (sRet (eC (.bl false))) sNx)
  (sSeq (sSet 1 (eCall fTuple (aC (eBM fPop (eFld c.cs "rows" (eV 0)) aN) aN)))
  (sSeq (sDrop (eMt c.cs "put" c.PlainReading 2 (F_PlainReading_put c) (dl_PlainReading_put.drop 0) (eV 0) (aC (eV 1) aN)))
  (sRet (eC (.bl true))))))
noncomputable def F_PlainReading_closes (c : Ad) : List D → Sto → R D := runB 2 (den_PlainReading_closes c)
/-! PlainReading.parts -/
abbrev s_PlainReading_parts : Stmt := inClass (top 12) 6
def dl_PlainReading_parts : List D := []
noncomputable def den_PlainReading_parts (c : Ad) : DS := (sSeq (sIf (tOr (tNot (tV (eMt c.cs "ends_run" c.PlainReading 1 (F_PlainReading_ends_run c) (dl_PlainReading_ends_run.drop 0) (eV 0) aN))) (tOr (tVB (e2 fEqE (eFld c.cs "rows" (eV 0)) (eLV aN))) (tV (eFld c.cs "due" (eV 0))))) (sRet (eC (.bl false))) sNx)
  (sSeq (sAttr c.cs "due" (eC (.bl true)) (eV 0))
  (sRet (eC (.bl true)))))
noncomputable def F_PlainReading_parts (c : Ad) : List D → Sto → R D := runB 1 (den_PlainReading_parts c)
/-! PlainReading.takes -/
abbrev s_PlainReading_takes : Stmt := inClass (top 12) 7
def dl_PlainReading_takes : List D := []
noncomputable def den_PlainReading_takes (c : Ad) : DS := (sSeq (sIf (tAnd (tVB (e2 fNe (eFld c.cs "run" (eV 0)) (eC (.str "")))) (tV (eMt c.cs "goes_on" c.PlainReading 2 (F_PlainReading_goes_on c) (dl_PlainReading_goes_on.drop 0) (eV 0) (aC (eV 1) aN)))) (sSeq (sAttr c.cs "run" (e2 fPlus (eFld c.cs "run" (eV 0)) (eV 1)) (eV 0))
  (sRet (eC (.bl true)))) sNx)
  (sSeq (sIf (tVB (e2 fEq (eV 1) (eC (.str ")")))) (sRet (eMt c.cs "closes" c.PlainReading 1 (F_PlainReading_closes c) (dl_PlainReading_closes.drop 0) (eV 0) aN)) sNx)
  (sSeq (sIf (tVB (e2 fEq (eV 1) (eC (.str " ")))) (sRet (eMt c.cs "parts" c.PlainReading 1 (F_PlainReading_parts c) (dl_PlainReading_parts.drop 0) (eV 0) aN)) sNx)
  (sRet (eAnd (e2 fEq (eFld c.cs "run" (eV 0)) (eC (.str ""))) (eMt c.cs "begins" c.PlainReading 2 (F_PlainReading_begins c) (dl_PlainReading_begins.drop 0) (eV 0) (aC (eV 1) aN)))))))
noncomputable def F_PlainReading_takes (c : Ad) : List D → Sto → R D := runB 2 (den_PlainReading_takes c)
/-! PlainReading.is_whole -/
abbrev s_PlainReading_is_whole : Stmt := inClass (top 12) 8
def dl_PlainReading_is_whole : List D := []
noncomputable def den_PlainReading_is_whole (c : Ad) : DS := (sRet (eAnd (eMt c.cs "ends_run" c.PlainReading 1 (F_PlainReading_ends_run c) (dl_PlainReading_ends_run.drop 0) (eV 0) aN) (eAnd (e2 fEqE (eFld c.cs "rows" (eV 0)) (eLV aN)) (e2 fEq (eCall fLen (aC (eFld c.cs "made" (eV 0)) aN)) (eC (.int 1))))))
noncomputable def F_PlainReading_is_whole (c : Ad) : List D → Sto → R D := runB 1 (den_PlainReading_is_whole c)
/-! plain_of -/
abbrev s_plain_of : Stmt := top 13
def dl_plain_of : List D := []
noncomputable def lb_plain_of_1 (c : Ad) : DS := (sIf (tNot (tV (eMt c.cs "takes" c.PlainReading 2 (F_PlainReading_takes c) (dl_PlainReading_takes.drop 0) (eV 1) (aC (eV 3) aN)))) (sRaise c.InvalidText (eV 2)) sNx)
noncomputable def den_plain_of (c : Ad) : DS := (sSeq (sIf (tNot (tV (eCall (fIsi c.cs) (aC (eV 0) (aC (eC (.ty "str")) aN))))) (sRaise c.InvalidText (e1 fNeg (eC (.int 1)))) sNx)
  (sSeq (sSet 1 (eMk c.PlainReading 1 (F_PlainReading_mk c) (dl_PlainReading_mk.drop 0) aN))
  (sSeq (sFor (.tp [(.nm 2), (.nm 3)]) (iEnT (eV 0)) (lb_plain_of_1 c))
  (sSeq (sIf (tNot (tV (eMt c.cs "is_whole" c.PlainReading 1 (F_PlainReading_is_whole c) (dl_PlainReading_is_whole.drop 0) (eV 1) aN))) (sRaise c.InvalidText (eCall fLen (aC (eV 0) aN))) sNx)
  (sRet (e2 fIx (eFld c.cs "made" (eV 1)) (eC (.int 0))))))))
noncomputable def F_plain_of (c : Ad) : List D → Sto → R D := runB 4 (den_plain_of c)
/-! _law_heap -/
abbrev s__law_heap : Stmt := top 15
def dl__law_heap : List D := []
noncomputable def lb__law_heap_1 (c : Ad) : DS := (sSet 3 (e2 fMod (eCall fInt (aC (e2 fPlus (e2 fPlus (e2 fMul (eV 3) (eC (.int 69621))) (e2 fMod (eCall fInt (aC (eV 4) aN)) (eC (.int 2147483563)))) (eC (.int 71))) aN)) (eC (.int 2147483647))))
noncomputable def den__law_heap (c : Ad) : DS := (sSeq (sSet 1 (e2 fMul (e2 fMul (e2 fPow (eC (.int 10)) (eC (.int 60))) (e2 fPow (eC (.int 10)) (eC (.int 60)))) (e2 fPow (eC (.int 10)) (eC (.int 60)))))
  (sSeq (sPar 2 3 (eLV (lLc (.nm 4) (iSeq (eLV (lSl (eV 0) oN (oS (eC (.int 60)))))) tYes (e2 fMod (eCall fInt (aC (e2 fPlus (e2 fMul (eC (.int 2)) (eCall fAbs (aC (eV 4) aN))) (eCall fInt (aC (e2 fLt (eV 4) (eC (.int 0))) aN))) aN)) (eV 1)) [4])) (eC (.int 20045)))
  (sSeq (sFor (.nm 4) (iSeq (eV 2)) (lb__law_heap_1 c))
  (sRet (eLN (aC (eLN (lRev (eLV (lLc (.nm 4) (iSeq (eV 2)) (tVB (e2 fGe (eV 4) (e2 fPow (eC (.int 10)) (eC (.int 18))))) (eV 4) [4])))) (aC (eV 3) aN)))))))
noncomputable def F__law_heap (c : Ad) : List D → Sto → R D := runB 5 (den__law_heap c)
/-! _law_draw -/
abbrev s__law_draw : Stmt := top 16
def dl__law_draw : List D := []
noncomputable def lb__law_draw_1 (c : Ad) : DS := (sDrop (eBM fPop (e2 fIx (eV 0) (eC (.int 0))) aN))
noncomputable def lb__law_draw_2 (c : Ad) : DT := (tAnd (tVB (e2 fNe (e2 fIx (eV 0) (eC (.int 0))) (eLV aN))) (tVB (e2 fEq (e2 fIx (e2 fIx (eV 0) (eC (.int 0))) (e1 fNeg (eC (.int 1)))) (eC (.int 0)))))
noncomputable def den__law_draw (c : Ad) : DS := (sSeq (whileI (lb__law_draw_2 c) (lb__law_draw_1 c) 64)
  (sSeq (sIf (tVB (e2 fNe (e2 fIx (eV 0) (eC (.int 0))) (eLV aN))) (sSeq (sSet 2 (eBM fPop (e2 fIx (eV 0) (eC (.int 0))) aN))
  (sSeq (sDrop (eBM fApp (e2 fIx (eV 0) (eC (.int 0))) (aC (e2 fDiv (eV 2) (eV 1)) aN)))
  (sRet (e2 fMod (eCall fInt (aC (eV 2) aN)) (eV 1))))) sNx)
  (sSeq (sPut (e2 fMod (eCall fInt (aC (e2 fPlus (e2 fMul (e2 fIx (eV 0) (eC (.int 1))) (eC (.int 48271))) (eC (.int 83))) aN)) (eC (.int 2147483647))) (eV 0) (eC (.int 1)))
  (sRet (e2 fMod (eCall fInt (aC (e2 fDiv (e2 fIx (eV 0) (eC (.int 1))) (eC (.int 32))) aN)) (eV 1))))))
noncomputable def F__law_draw (c : Ad) : List D → Sto → R D := runB 3 (den__law_draw c)
/-! _law_pick -/
abbrev s__law_pick : Stmt := top 17
def dl__law_pick : List D := []
noncomputable def den__law_pick (c : Ad) : DS := (sRet (e2 fIx (eV 1) (eFn 2 (F__law_draw c) (dl__law_draw.drop 0) (aC (eV 0) (aC (eCall fLen (aC (eV 1) aN)) aN)))))
noncomputable def F__law_pick (c : Ad) : List D → Sto → R D := runB 2 (den__law_pick c)
/-! _law_like -/
abbrev s__law_like : Stmt := top 18
def dl__law_like : List D := []
noncomputable def den__law_like (c : Ad) (F_rec : List D → Sto → R D) : DS := (sSeq (sIf (tV (eCall (fIsi c.cs) (aC (eV 1) (aC (eC (.ty "tuple")) aN)))) (sRet (eAnd (eCall (fIsi c.cs) (aC (eV 0) (aC (eC (.ty "tuple")) aN))) (eAnd (e2 fEq (eCall fLen (aC (eV 0) aN)) (eCall fLen (aC (eV 1) aN))) (eCall fAll (aC (eLV (lLc (.tp [(.nm 2), (.nm 3)]) (iCall fZip (aC (eV 0) (aC (eV 1) aN))) tYes (eFn 2 (F_rec) (dl__law_like.drop 0) (aC (eV 2) (aC (eV 3) aN))) [2, 3])) aN))))) sNx)
  (sSeq (sIf (tVB (e1 fIsN (eV 1))) (sRet (e1 fIsN (eV 0))) sNx)
  (sSeq (sIf (tV (eCall (fIsi c.cs) (aC (eV 1) (aC (eC (.ty "bool")) aN)))) (sRet (eIf (tV (eV 1)) (e2 fIsC (eV 0) (eC (.bl true))) (e2 fIsC (eV 0) (eC (.bl false))))) sNx)
  (sSeq (sIf (tV (eCall (fIsi c.cs) (aC (eV 1) (aC (eC (.ty "int")) aN)))) (sRet (eAnd (eCall (fIsi c.cs) (aC (eV 0) (aC (eC (.ty "int")) aN))) (eAnd (eNot (eCall (fIsi c.cs) (aC (eV 0) (aC (eC (.ty "bool")) aN)))) (e2 fEq (eV 0) (eV 1))))) sNx)
  (sRet (eAnd (eCall (fIsi c.cs) (aC (eV 0) (aC (eC (.ty "str")) aN))) (eAnd (eCall (fIsi c.cs) (aC (eV 1) (aC (eC (.ty "str")) aN))) (e2 fEq (eV 0) (eV 1)))))))))
noncomputable def F__law_like (c : Ad) : Nat → List D → Sto → R D
  | 0 => fun _ _ => .bad
  | fuel + 1 => runB 4 (den__law_like c (F__law_like c fuel))
/-! _law_value -/
abbrev s__law_value : Stmt := top 19
def dl__law_value : List D := []
noncomputable def den__law_value (c : Ad) (F_rec : List D → Sto → R D) : DS := (sSeq (sIf (tAnd (tVB (e2 fGt (eV 1) (eC (.int 0)))) (tVB (e2 fGt (eFn 2 (F__law_draw c) (dl__law_draw.drop 0) (aC (eV 0) (aC (eC (.int 3)) aN))) (eC (.int 0))))) (sRet (eCall fTuple (aC (eLV (lLc (.nm 2) (iR1 (eFn 2 (F__law_draw c) (dl__law_draw.drop 0) (aC (eV 0) (aC (eC (.int 4)) aN)))) tYes (eFn 2 (F_rec) (dl__law_value.drop 0) (aC (eV 0) (aC (e2 fSub (eV 1) (eC (.int 1))) aN))) [2])) aN))) sNx)
  (sRet (eFn 2 (F__law_pick c) (dl__law_pick.drop 0) (aC (eV 0) (aC (eLV (aC (eC (.int 0)) (aC (eC .non) (aC (eFn 2 (F__law_draw c) (dl__law_draw.drop 0) (aC (eV 0) (aC (eC (.int 10)) aN))) (aC (e2 fSub (eC (.int 0)) (eFn 2 (F__law_draw c) (dl__law_draw.drop 0) (aC (eV 0) (aC (e2 fPow (eC (.int 10)) (eC (.int 12))) aN)))) (aC (eFn 2 (F__law_draw c) (dl__law_draw.drop 0) (aC (eV 0) (aC (e2 fPow (eC (.int 10)) (eC (.int 12))) aN))) (aC (e2 fSub (e2 fPow (eC (.int 10)) (eC (.int 12))) (eC (.int 1))) (aC (e2 fSub (eC (.int 1)) (e2 fPow (eC (.int 10)) (eC (.int 12)))) aN)))))))) aN)))))
noncomputable def F__law_value (c : Ad) : Nat → List D → Sto → R D
  | 0 => fun _ _ => .bad
  | fuel + 1 => runB 3 (den__law_value c (F__law_value c fuel))
/-! _law_nested -/
abbrev s__law_nested : Stmt := top 20
def dl__law_nested : List D := []
noncomputable def lb__law_nested_1 (c : Ad) : DS := (sSet 0 (eTup (aC (eV 0) aN)))
noncomputable def den__law_nested (c : Ad) : DS := (sSeq (sFor (.nm 2) (iR1 (eV 1)) (lb__law_nested_1 c))
  (sRet (eV 0)))
noncomputable def F__law_nested (c : Ad) : List D → Sto → R D := runB 3 (den__law_nested c)
/-! _law_written -/
abbrev s__law_written : Stmt := top 21
def dl__law_written : List D := []
noncomputable def den__law_written (c : Ad) (F_rec : List D → Sto → R D) : DS := (sSeq (sIf (tVB (e1 fIsN (eV 0))) (sRet (eC (.str "none"))) sNx)
  (sSeq (sIf (tV (eCall (fIsi c.cs) (aC (eV 0) (aC (eC (.ty "tuple")) aN)))) (sSeq (sSet 1 (eC (.str "")))
  (sSeq (sFor (.tp [(.nm 2), (.nm 3)]) (iCall fEnum (aC (eV 0) aN)) (sSet 1 (e2 fPlus (e2 fPlus (eV 1) (eIf (tVB (e2 fGt (eV 2) (eC (.int 0)))) (eC (.str " ")) (eC (.str "")))) (eFn 1 (F_rec) (dl__law_written.drop 0) (aC (eV 3) aN)))))
  (sRet (e2 fPlus (e2 fPlus (eC (.str "(")) (eV 1)) (eC (.str ")")))))) sNx)
  (sSeq (sPar 4 5 (eC (.str "")) (eCall fAbs (aC (eV 0) aN)))
  (sSeq (whileI (tVB (e2 fGt (eV 5) (eC (.int 0)))) (sPar 4 5 (e2 fPlus (e2 fIx (eC (.str "0123456789")) (e2 fMod (eCall fInt (aC (eV 5) aN)) (eC (.int 10)))) (eV 4)) (e2 fDiv (eV 5) (eC (.int 10)))) 16)
  (sRet (e2 fPlus (eIf (tVB (e2 fLt (eV 0) (eC (.int 0)))) (eC (.str "-")) (eC (.str ""))) (eIf (tVB (e2 fNe (eV 4) (eC (.str "")))) (eV 4) (eC (.str "0")))))))))
noncomputable def F__law_written (c : Ad) : Nat → List D → Sto → R D
  | 0 => fun _ _ => .bad
  | fuel + 1 => runB 6 (den__law_written c (F__law_written c fuel))
/-! _law_read -/
abbrev s__law_read : Stmt := top 22
def dl__law_read : List D := []
noncomputable def den__law_read (c : Ad) : DS := (sTry (c.mt_StrokesError) 1 (sRet (eTup (aC (eC (.str "told")) (aC (eFn 1 (F_plain_of c) (dl_plain_of.drop 0) (aC (eV 0) aN)) aN)))) fun C d => (eTup (aC ((eC (.str "wrong"))) (aC (xIf (fun C d => (xIs c.is_InvalidText C d)) (fun C d => (xAt c.es C d)) (fun C d => ((eC .non))) C d) aN))))
noncomputable def F__law_read (c : Ad) : List D → Sto → R D := runB 2 (den__law_read c)
/-! _law_may -/
abbrev s__law_may : Stmt := top 23
def dl__law_may : List D := []
noncomputable def lb__law_may_1 (c : Ad) : DS := (sIf (tVB (e2 fEq (eV 5) (eC (.str "(")))) (sPar3 1 3 4 (e2 fPlus (eV 1) (eC (.int 1))) (eC (.bl true)) (eC (.bl true))) (sIf (tVB (e2 fInC (eV 5) (eC (.str " )")))) (sSeq (sPar3 2 3 4 (eC (.str "")) (e2 fEq (eV 5) (eC (.str " "))) (eC (.bl false)))
  (sSet 1 (e2 fSub (eV 1) (eCall fInt (aC (e2 fEq (eV 5) (eC (.str ")"))) aN))))) (sPar3 2 3 4 (e2 fPlus (eV 2) (eV 5)) (eC (.bl false)) (eC (.bl false)))))
noncomputable def den__law_may (c : Ad) : DS := (sSeq (sAsg (.tp [(.nm 1), (.nm 2), (.nm 3), (.nm 4)]) (eTup (aC (eC (.int 0)) (aC (eC (.str "")) (aC (eC (.bl true)) (aC (eC (.bl false)) aN))))))
  (sSeq (sFor (.nm 5) (iSeq (eV 0)) (lb__law_may_1 c))
  (sSeq (sIf (tV (eV 3)) (sRet (eLV (lCat (eLV (lCat (eLV (lCat (eLV (aC (eC (.str "-")) (aC (eC (.str "n")) aN))) (eLV (lTxt (eC (.str "0123456789")))))) (eIf (tVB (e2 fLt (eV 1) (eC (.int 16)))) (eLV (aC (eC (.str "(")) aN)) (eLV aN)))) (eIf (tV (eV 4)) (eLV (aC (eC (.str ")")) aN)) (eLV aN))))) sNx)
  (sSeq (sSet 6 (eIf (tVB (e2 fGt (eV 1) (eC (.int 0)))) (eLV (aC (eC (.str " ")) (aC (eC (.str ")")) aN))) (eLV (aC (eC (.str "")) aN))))
  (sSeq (sIf (tVB (e2 fEq (eV 2) (eC (.str "")))) (sRet (eV 6)) sNx)
  (sSeq (sIf (tVB (e2 fEq (e2 fIx (eV 2) (eC (.int 0))) (eC (.str "n")))) (sRet (eIf (tVB (e2 fEq (eV 2) (eC (.str "none")))) (eV 6) (eLV (aC (e2 fIx (eC (.str "none")) (eCall fLen (aC (eV 2) aN))) aN)))) sNx)
  (sSeq (sIf (tVB (e2 fEq (eV 2) (eC (.str "-")))) (sRet (eLV (lTxt (eC (.str "123456789"))))) sNx)
  (sRet (eLV (lCat (eIf (tAnd (tVB (e2 fNe (eV 2) (eC (.str "0")))) (tVB (e2 fLt (e1 fLenS (e1 (fRepl "-" "") (eV 2))) (eC (.int 12))))) (eLV (lTxt (eC (.str "0123456789")))) (eLV aN)) (eV 6)))))))))))
noncomputable def F__law_may (c : Ad) : List D → Sto → R D := runB 7 (den__law_may c)
/-! law -/
abbrev s_law : Stmt := top 24
def dl_law : List D := []
noncomputable def lb_law_1 (c : Ad) : DS := (sSeq (sSet 3 (eFn 2 (F__law_pick c) (dl__law_pick.drop 0) (aC (eV 1) (aC (eLV (aC (eFn 2 (F__law_value c 6) (dl__law_value.drop 0) (aC (eV 1) (aC (eC (.int 4)) aN))) (aC (eFn 2 (F__law_nested c) (dl__law_nested.drop 0) (aC (eFn 2 (F__law_value c 6) (dl__law_value.drop 0) (aC (eV 1) (aC (eC (.int 0)) aN))) (aC (eFn 2 (F__law_pick c) (dl__law_pick.drop 0) (aC (eV 1) (aC (eLV (aC (eC (.int 1)) (aC (eC (.int 15)) (aC (eC (.int 16)) aN)))) aN))) aN))) aN))) aN))))
  (sSeq (sSet 4 (eFn 1 (F__law_written c 18) (dl__law_written.drop 0) (aC (eV 3) aN)))
  (sSeq (sIf (tOr (tVB (e2 fNotC (eFn 2 (F_is_plain c 18) (dl_is_plain.drop 0) (aC (eV 3) aN)) (eC (.bl true)))) (tOr (tNot (tV (eFn 2 (F__law_like c 19) (dl__law_like.drop 0) (aC (eFn 1 (F_plain_text c 18) (dl_plain_text.drop 0) (aC (eV 3) aN)) (aC (eV 4) aN))))) (tNot (tV (eFn 2 (F__law_like c 19) (dl__law_like.drop 0) (aC (eFn 1 (F__law_read c) (dl__law_read.drop 0) (aC (eV 4) aN)) (aC (eTup (aC (eC (.str "told")) (aC (eV 3) aN))) aN))))))) (sRet (eC (.bl false))) sNx)
  (sSeq (sSet 5 (eFn 2 (F__law_draw c) (dl__law_draw.drop 0) (aC (eV 1) (aC (e2 fPlus (eCall fLen (aC (eV 4) aN)) (eC (.int 1))) aN))))
  (sSeq (sIf (tVB (e2 fIn (eC (.str "")) (eFn 1 (F__law_may c) (dl__law_may.drop 0) (aC (eSl (eV 4) oN (oS (eV 5))) aN)))) (sIf (tVB (e2 fNe (e2 fIx (eFn 1 (F__law_read c) (dl__law_read.drop 0) (aC (eSl (eV 4) oN (oS (eV 5))) aN)) (eC (.int 0))) (eC (.str "told")))) (sRet (eC (.bl false))) sNx) (sIf (tNot (tV (eFn 2 (F__law_like c 19) (dl__law_like.drop 0) (aC (eFn 1 (F__law_read c) (dl__law_read.drop 0) (aC (eSl (eV 4) oN (oS (eV 5))) aN)) (aC (eTup (aC (eC (.str "wrong")) (aC (eV 5) aN))) aN))))) (sRet (eC (.bl false))) sNx))
  (sSeq (sSet 6 (eLV (lLc (.nm 7) (iSeq (eLV (lTxt (eC (.str "0123456789-() nox,.N\n["))))) (tVB (e2 fNotIn (eV 7) (eFn 1 (F__law_may c) (dl__law_may.drop 0) (aC (eSl (eV 4) oN (oS (eV 5))) aN)))) (eV 7) [7])))
  (sSeq (sSet 8 (e2 fPlus (e2 fPlus (eSl (eV 4) oN (oS (eV 5))) (eFn 2 (F__law_pick c) (dl__law_pick.drop 0) (aC (eV 1) (aC (eV 6) aN)))) (eSl (eV 4) (oS (e2 fPlus (eV 5) (eFn 2 (F__law_draw c) (dl__law_draw.drop 0) (aC (eV 1) (aC (eC (.int 2)) aN))))) oN)))
  (sIf (tNot (tV (eFn 2 (F__law_like c 19) (dl__law_like.drop 0) (aC (eFn 1 (F__law_read c) (dl__law_read.drop 0) (aC (eV 8) aN)) (aC (eTup (aC (eC (.str "wrong")) (aC (eV 5) aN))) aN))))) (sRet (eC (.bl false))) sNx))))))))
noncomputable def lb_law_2 (c : Ad) : DS := (sIf (tNot (tV (eFn 2 (F__law_like c 19) (dl__law_like.drop 0) (aC (eFn 1 (F__law_read c) (dl__law_read.drop 0) (aC (eV 3) aN)) (aC (eTup (aC (eC (.str "wrong")) (aC (e1 fNeg (eC (.int 1))) aN))) aN))))) (sRet (eC (.bl false))) sNx)
noncomputable def den_law (c : Ad) : DS := (sSeq (sSet 1 (eFn 1 (F__law_heap c) (dl__law_heap.drop 0) (aC (eV 0) aN)))
  (sSeq (sFor (.nm 2) (iR1 (eC (.int 4))) (lb_law_1 c))
  (sSeq (sSet 9 (eLV (aC (e2 fPow (eC (.int 10)) (eC (.int 12))) (aC (e1 fNeg (e2 fPow (eC (.int 10)) (eC (.int 12)))) (aC (eC (.bl true)) (aC (eC (.str "1")) (aC (eC (.str "a")) (aC (eLV (aC (eC (.int 1)) aN)) (aC (eTup (aC (eC (.int 1)) (aC (eLV (aC (eC (.int 2)) aN)) aN))) (aC (eTup (aC (eC .non) (aC (eC (.str "none")) aN))) (aC (eFn 2 (F__law_nested c) (dl__law_nested.drop 0) (aC (eC (.int 0)) (aC (eC (.int 17)) aN))) (aC eDct (aC (eTup (aC (eC (.bl true)) aN)) aN)))))))))))))
  (sSeq (sIf (tV (eCall fAny (aC (eLV (lLc (.nm 10) (iSeq (eV 9)) tYes (e2 fNotC (eFn 2 (F_is_plain c 18) (dl_is_plain.drop 0) (aC (eV 10) aN)) (eC (.bl false))) [10])) aN))) (sRet (eC (.bl false))) sNx)
  (sSeq (sFor (.nm 3) (iSeq (eLV (aC (eC .non) (aC (eC (.int 5)) (aC (eTup (aC (eC (.str "1")) aN)) (aC (eLV (aC (eC (.str "1")) aN)) (aC (eC (.bl true)) aN))))))) (lb_law_2 c))
  (sRet (eAnd (eFn 2 (F__law_like c 19) (dl__law_like.drop 0) (aC (eFn 1 (F__law_read c) (dl__law_read.drop 0) (aC (e2 fMulS (eC (.str "(")) (eC (.int 17))) aN)) (aC (eTup (aC (eC (.str "wrong")) (aC (eC (.int 16)) aN))) aN))) (eAnd (eFn 2 (F__law_like c 19) (dl__law_like.drop 0) (aC (eFn 1 (F__law_read c) (dl__law_read.drop 0) (aC (e2 fMulS (eC (.str "1")) (eC (.int 13))) aN)) (aC (eTup (aC (eC (.str "wrong")) (aC (eC (.int 12)) aN))) aN))) (eFn 2 (F__law_like c 19) (dl__law_like.drop 0) (aC (eFn 1 (F__law_read c) (dl__law_read.drop 0) (aC (eC (.str "")) aN)) (aC (eTup (aC (eC (.str "wrong")) (aC (eC (.int 0)) aN))) aN)))))))))))
noncomputable def F_law (c : Ad) : List D → Sto → R D := runB 11 (den_law c)
end Z.k67
namespace Z.k67
open PySem L2 Z
variable (c : Ad)
theorem is_integer_i (S : Sto) (k : Int) : F_is_integer c [.int k] S = .ok (.bl true) S := by
  simp [F_is_integer, den_is_integer, runB, env0, sSeq, sRet, sRetN, sIf, sSet, sDrop, sNx, sPar, sAsg, sAttr, sPut, sRaise, Tg.asg, Tg.asgs, eAnd, eOr, eNot, eIf, tAnd, tOr, tNot, tV, tVB, tYes, eCall, eFn, eMk, eMt, eFld, eBM, aC, aN, eV, eC, Z.e1, Z.e2, eTup, eLV, eLN, eChain, eSl, fIsi, tyD, isK, anyK, tNames, rB, tru, fLen, fTuple, fAbs, fInt, fAll, fAny, fIsN, fNotN, fIsB, fNotB, fNeg, seqOf, lstOf, isL, fLt_ii, fLe_ii, fGt_ii, fGe_ii, fSub_ii, fPlus, fMod_ii, fMul_ii, fDiv_ii, fEq, fNe, eqD_int, fIx, atI_0, atI_1, atI_2, lLc, lLc2, iSeq, iCall, fEnum, fZip, wipeD, putD, lSl, lRev, R.to_ok, R.bind_ok]
/-- what is no whole number -/
def NoI (c : Ad) (d : D) : Prop := ∀ S, F_is_integer c [d] S = .ok (.bl false) S
theorem noI_non : NoI c .non := fun S => by simp [F_is_integer, den_is_integer, runB, env0, sSeq, sRet, sRetN, sIf, sSet, sDrop, sNx, sPar, sAsg, sAttr, sPut, sRaise, Tg.asg, Tg.asgs, eAnd, eOr, eNot, eIf, tAnd, tOr, tNot, tV, tVB, tYes, eCall, eFn, eMk, eMt, eFld, eBM, aC, aN, eV, eC, Z.e1, Z.e2, eTup, eLV, eLN, eChain, eSl, fIsi, tyD, isK, anyK, tNames, rB, tru, fLen, fTuple, fAbs, fInt, fAll, fAny, fIsN, fNotN, fIsB, fNotB, fNeg, seqOf, lstOf, isL, fLt_ii, fLe_ii, fGt_ii, fGe_ii, fSub_ii, fPlus, fMod_ii, fMul_ii, fDiv_ii, fEq, fNe, eqD_int, fIx, atI_0, atI_1, atI_2, lLc, lLc2, iSeq, iCall, fEnum, fZip, wipeD, putD, lSl, lRev, R.to_ok, R.bind_ok]
theorem noI_bl (b : Bool) : NoI c (.bl b) := fun S => by simp [F_is_integer, den_is_integer, runB, env0, sSeq, sRet, sRetN, sIf, sSet, sDrop, sNx, sPar, sAsg, sAttr, sPut, sRaise, Tg.asg, Tg.asgs, eAnd, eOr, eNot, eIf, tAnd, tOr, tNot, tV, tVB, tYes, eCall, eFn, eMk, eMt, eFld, eBM, aC, aN, eV, eC, Z.e1, Z.e2, eTup, eLV, eLN, eChain, eSl, fIsi, tyD, isK, anyK, tNames, rB, tru, fLen, fTuple, fAbs, fInt, fAll, fAny, fIsN, fNotN, fIsB, fNotB, fNeg, seqOf, lstOf, isL, fLt_ii, fLe_ii, fGt_ii, fGe_ii, fSub_ii, fPlus, fMod_ii, fMul_ii, fDiv_ii, fEq, fNe, eqD_int, fIx, atI_0, atI_1, atI_2, lLc, lLc2, iSeq, iCall, fEnum, fZip, wipeD, putD, lSl, lRev, R.to_ok, R.bind_ok]
theorem noI_str (b : Str) : NoI c (.str b) := fun S => by simp [F_is_integer, den_is_integer, runB, env0, sSeq, sRet, sRetN, sIf, sSet, sDrop, sNx, sPar, sAsg, sAttr, sPut, sRaise, Tg.asg, Tg.asgs, eAnd, eOr, eNot, eIf, tAnd, tOr, tNot, tV, tVB, tYes, eCall, eFn, eMk, eMt, eFld, eBM, aC, aN, eV, eC, Z.e1, Z.e2, eTup, eLV, eLN, eChain, eSl, fIsi, tyD, isK, anyK, tNames, rB, tru, fLen, fTuple, fAbs, fInt, fAll, fAny, fIsN, fNotN, fIsB, fNotB, fNeg, seqOf, lstOf, isL, fLt_ii, fLe_ii, fGt_ii, fGe_ii, fSub_ii, fPlus, fMod_ii, fMul_ii, fDiv_ii, fEq, fNe, eqD_int, fIx, atI_0, atI_1, atI_2, lLc, lLc2, iSeq, iCall, fEnum, fZip, wipeD, putD, lSl, lRev, R.to_ok, R.bind_ok]
theorem noI_tup (b : List D) : NoI c (.tup b) := fun S => by simp [F_is_integer, den_is_integer, runB, env0, sSeq, sRet, sRetN, sIf, sSet, sDrop, sNx, sPar, sAsg, sAttr, sPut, sRaise, Tg.asg, Tg.asgs, eAnd, eOr, eNot, eIf, tAnd, tOr, tNot, tV, tVB, tYes, eCall, eFn, eMk, eMt, eFld, eBM, aC, aN, eV, eC, Z.e1, Z.e2, eTup, eLV, eLN, eChain, eSl, fIsi, tyD, isK, anyK, tNames, rB, tru, fLen, fTuple, fAbs, fInt, fAll, fAny, fIsN, fNotN, fIsB, fNotB, fNeg, seqOf, lstOf, isL, fLt_ii, fLe_ii, fGt_ii, fGe_ii, fSub_ii, fPlus, fMod_ii, fMul_ii, fDiv_ii, fEq, fNe, eqD_int, fIx, atI_0, atI_1, atI_2, lLc, lLc2, iSeq, iCall, fEnum, fZip, wipeD, putD, lSl, lRev, R.to_ok, R.bind_ok]
theorem noI_lst (b : List D) : NoI c (.lst b) := fun S => by simp [F_is_integer, den_is_integer, runB, env0, sSeq, sRet, sRetN, sIf, sSet, sDrop, sNx, sPar, sAsg, sAttr, sPut, sRaise, Tg.asg, Tg.asgs, eAnd, eOr, eNot, eIf, tAnd, tOr, tNot, tV, tVB, tYes, eCall, eFn, eMk, eMt, eFld, eBM, aC, aN, eV, eC, Z.e1, Z.e2, eTup, eLV, eLN, eChain, eSl, fIsi, tyD, isK, anyK, tNames, rB, tru, fLen, fTuple, fAbs, fInt, fAll, fAny, fIsN, fNotN, fIsB, fNotB, fNeg, seqOf, lstOf, isL, fLt_ii, fLe_ii, fGt_ii, fGe_ii, fSub_ii, fPlus, fMod_ii, fMul_ii, fDiv_ii, fEq, fNe, eqD_int, fIx, atI_0, atI_1, atI_2, lLc, lLc2, iSeq, iCall, fEnum, fZip, wipeD, putD, lSl, lRev, R.to_ok, R.bind_ok]
theorem get_lt {α : Type} {xs : List α} {i : Nat} {x : α} (h : xs[i]? = some x) : i < xs.length := (List.getElem?_eq_some_iff.mp h).1
def inD (xs : List Int) : List D := xs.map .int
/-- the drawing list: at 0 the great numbers, at 1 the pair of it and the stir -/
def Hp2 (T : Sto) (S : Sto) : Prop := ∃ (xs : List Int) (st : Int), xs.length ≤ 60 ∧ S = [.lst (inD xs), .lst [.ref 0, .int st]] ++ T
theorem toPs_ints (S : Sto) : ∀ xs : List Int, flatPs (inD xs) = some (xs.map PyData.int)
  | [] => rfl
  | x :: xs => by
    have ih := toPs_ints S xs
    unfold inD at ih ⊢
    simp [flatPs, flatP, ih]
theorem canLay_ints : ∀ xs : List Int, PyData.canLayAll0 (xs.map PyData.int) = true
  | [] => rfl
  | x :: xs => by simp [PyData.canLayAll0, PyData.canLay0, canLay_ints xs]
theorem depth_ints : ∀ xs : List Int, PyData.depth (.list (xs.map PyData.int)) ≤ 64 := by
  intro xs
  have : ∀ ys : List Int, PyData.depthAll (ys.map PyData.int) ≤ 1 := by
    intro ys
    induction ys with
    | nil => simp [PyData.depthAll]
    | cons y ys ih => simp [PyData.depthAll, PyData.depth]; omega
  have := this xs
  simp only [PyData.depth]
  omega
theorem shaped_ints (xs : List Int) : SeqAt.shaped (.list (xs.map PyData.int)) = true := by
  unfold SeqAt.shaped
  rw [Bool.and_eq_true_iff]
  exact ⟨by simp only [PyData.canLay0]; exact canLay_ints xs, decide_eq_true (depth_ints xs)⟩
theorem eqD_nil {S : Sto} {n : Nat} {xs : List Int} (h : S[n]? = some (.lst (inD xs))) : eqD S (.ref n) (.lst []) = some xs.isEmpty := by
  unfold eqD
  have e1 : toP S (.ref n) = some (.list (xs.map PyData.int)) := by
    simp only [toP, h, toPs_ints S xs, Option.map_some]
  have e2 : toP S (.lst []) = some (.list []) := rfl
  have e3 : SeqAt.shaped (.list []) = true := rfl
  rw [e1, e2]
  simp only [shaped_ints, e3, and_self, if_true]
  cases xs <;> simp [PyData.eqv, PyData.eqvAll]
theorem at_last (xs : List Int) (x : Int) : L2.atI (inD (xs ++ [x])) (-1) = some (.int x) := by
  unfold L2.atI
  rw [ixN_m1 _ (by simp [inD])]
  simp [inD]
theorem last_ix (xs : List Int) (x : Int) : (inD (xs ++ [x]))[(inD (xs ++ [x])).length - 1]? = some (.int x) := by simp [inD]
theorem drop_last (xs : List Int) (x : Int) : (inD (xs ++ [x])).dropLast = inD xs := by simp [inD]
theorem draw_loop (a1 a2 : Option D) (st : Int) (T : Sto) : ∀ (k : Nat) (xs : List Int), xs.length < k → xs.length ≤ 60 →
    ∃ ys : List Int, ys.length ≤ 60 ∧ whileI (lb__law_draw_2 c) (lb__law_draw_1 c) k [some (.ref 1), a1, a2] (.lst (inD xs) :: .lst [.ref 0, .int st] :: T) = .nx [some (.ref 1), a1, a2] (.lst (inD ys) :: .lst [.ref 0, .int st] :: T)
  | 0, xs, h, _ => by omega
  | k + 1, xs, h, hl => by
    rcases List.eq_nil_or_concat xs with rfl | ⟨ys, x, rfl⟩
    · refine ⟨[], by simp, ?_⟩
      have e := eqD_nil (S := .lst (inD []) :: .lst [.ref 0, .int st] :: T) (n := 0) (xs := []) rfl
      simp [whileI, lb__law_draw_2, e, runB, env0, sSeq, sRet, sRetN, sIf, sSet, sDrop, sNx, sPar, sAsg, sAttr, sPut, sRaise, Tg.asg, Tg.asgs, eAnd, eOr, eNot, eIf, tAnd, tOr, tNot, tV, tVB, tYes, eCall, eFn, eMk, eMt, eFld, eBM, aC, aN, eV, eC, Z.e1, Z.e2, eTup, eLV, eLN, eChain, eSl, fIsi, tyD, isK, anyK, tNames, rB, tru, fLen, fTuple, fAbs, fInt, fAll, fAny, fIsN, fNotN, fIsB, fNotB, fNeg, seqOf, lstOf, isL, fLt_ii, fLe_ii, fGt_ii, fGe_ii, fSub_ii, fPlus, fMod_ii, fMul_ii, fDiv_ii, fEq, fNe, eqD_int, fIx, atI_0, atI_1, atI_2, lLc, lLc2, iSeq, iCall, fEnum, fZip, wipeD, putD, lSl, lRev, R.to_ok, R.bind_ok]
    · have e := eqD_nil (S := .lst (inD (ys ++ [x])) :: .lst [.ref 0, .int st] :: T) (n := 0) (xs := ys ++ [x]) rfl
      have ee : (ys ++ [x]).isEmpty = false := by simp
      rw [ee] at e
      rw [List.concat_eq_append] at h hl ⊢
      have hl' : ys.length + 1 ≤ 60 := by simpa using hl
      by_cases hx : x = 0
      · subst hx
        obtain ⟨zs, hz, h2⟩ := draw_loop a1 a2 st T k ys (by simp at h; omega) (by omega)
        refine ⟨zs, hz, ?_⟩
        have l1 := last_ix ys 0
        have ht : lb__law_draw_2 c [some (.ref 1), a1, a2] (.lst (inD (ys ++ [0])) :: .lst [.ref 0, .int st] :: T) = .ok true (.lst (inD (ys ++ [0])) :: .lst [.ref 0, .int st] :: T) := by
          simp [lb__law_draw_2, e, at_last, runB, env0, sSeq, sRet, sRetN, sIf, sSet, sDrop, sNx, sPar, sAsg, sAttr, sPut, sRaise, Tg.asg, Tg.asgs, eAnd, eOr, eNot, eIf, tAnd, tOr, tNot, tV, tVB, tYes, eCall, eFn, eMk, eMt, eFld, eBM, aC, aN, eV, eC, Z.e1, Z.e2, eTup, eLV, eLN, eChain, eSl, fIsi, tyD, isK, anyK, tNames, rB, tru, fLen, fTuple, fAbs, fInt, fAll, fAny, fIsN, fNotN, fIsB, fNotB, fNeg, seqOf, lstOf, isL, fLt_ii, fLe_ii, fGt_ii, fGe_ii, fSub_ii, fPlus, fMod_ii, fMul_ii, fDiv_ii, fEq, fNe, eqD_int, fIx, atI_0, atI_1, atI_2, lLc, lLc2, iSeq, iCall, fEnum, fZip, wipeD, putD, lSl, lRev, R.to_ok, R.bind_ok]
        have hb : lb__law_draw_1 c [some (.ref 1), a1, a2] (.lst (inD (ys ++ [0])) :: .lst [.ref 0, .int st] :: T) = .nx [some (.ref 1), a1, a2] (.lst (inD ys) :: .lst [.ref 0, .int st] :: T) := by
          simp [lb__law_draw_1, l1, drop_last, fPop, runB, env0, sSeq, sRet, sRetN, sIf, sSet, sDrop, sNx, sPar, sAsg, sAttr, sPut, sRaise, Tg.asg, Tg.asgs, eAnd, eOr, eNot, eIf, tAnd, tOr, tNot, tV, tVB, tYes, eCall, eFn, eMk, eMt, eFld, eBM, aC, aN, eV, eC, Z.e1, Z.e2, eTup, eLV, eLN, eChain, eSl, fIsi, tyD, isK, anyK, tNames, rB, tru, fLen, fTuple, fAbs, fInt, fAll, fAny, fIsN, fNotN, fIsB, fNotB, fNeg, seqOf, lstOf, isL, fLt_ii, fLe_ii, fGt_ii, fGe_ii, fSub_ii, fPlus, fMod_ii, fMul_ii, fDiv_ii, fEq, fNe, eqD_int, fIx, atI_0, atI_1, atI_2, lLc, lLc2, iSeq, iCall, fEnum, fZip, wipeD, putD, lSl, lRev, R.to_ok, R.bind_ok]
        simp [whileI, ht, hb, h2]
      · refine ⟨ys ++ [x], hl, ?_⟩
        simp [whileI, lb__law_draw_2, e, at_last, hx, runB, env0, sSeq, sRet, sRetN, sIf, sSet, sDrop, sNx, sPar, sAsg, sAttr, sPut, sRaise, Tg.asg, Tg.asgs, eAnd, eOr, eNot, eIf, tAnd, tOr, tNot, tV, tVB, tYes, eCall, eFn, eMk, eMt, eFld, eBM, aC, aN, eV, eC, Z.e1, Z.e2, eTup, eLV, eLN, eChain, eSl, fIsi, tyD, isK, anyK, tNames, rB, tru, fLen, fTuple, fAbs, fInt, fAll, fAny, fIsN, fNotN, fIsB, fNotB, fNeg, seqOf, lstOf, isL, fLt_ii, fLe_ii, fGt_ii, fGe_ii, fSub_ii, fPlus, fMod_ii, fMul_ii, fDiv_ii, fEq, fNe, eqD_int, fIx, atI_0, atI_1, atI_2, lLc, lLc2, iSeq, iCall, fEnum, fZip, wipeD, putD, lSl, lRev, R.to_ok, R.bind_ok]
theorem draw_i (T : Sto) (many : Nat) (h0 : 0 < many) (h1 : many ≤ 1000000000000) (S : Sto) (hS : Hp2 T S) : ∃ (r : Nat) (S' : Sto), r < many ∧ F__law_draw c [.ref 1, .int many] S = .ok (.int r) S' ∧ Hp2 T S' := by
  obtain ⟨xs, st, hl, rfl⟩ := hS
  obtain ⟨ys, hy, hw⟩ := draw_loop c (some (.int many)) none st T 64 xs (by omega) hl
  have m0 : (0 : Int) < (many : Int) := by omega
  have dv : ∀ i : Int, divOk i (many : Int) = true := fun i => divOk_of m0 (by
    have e : (many : Int).natAbs = many := by omega
    rw [e]
    exact Nat.lt_of_le_of_lt h1 (by decide +kernel))
  have dv32 : ∀ i : Int, divOk i 32 = true := fun i => divOk_of (by decide) (by decide +kernel)
  have mu : ∀ i : Int, mulOk i 48271 = true := fun i => mulOk_r (by decide)
  have rr : ∀ i : Int, ∃ r : Nat, r < many ∧ i % (many : Int) = (r : Int) := fun i => by
    have a := Int.emod_nonneg i (show (many : Int) ≠ 0 by omega)
    have b := Int.emod_lt_of_pos i m0
    exact ⟨(i % (many : Int)).toNat, by omega, by omega⟩
  rcases List.eq_nil_or_concat ys with rfl | ⟨zs, x, rfl⟩
  · have e := eqD_nil (S := .lst (inD []) :: .lst [.ref 0, .int st] :: T) (n := 0) (xs := []) rfl
    obtain ⟨r, hr, er⟩ := rr (((st * 48271 + 83) % 2147483647) / 32)
    refine ⟨r, .lst (inD []) :: .lst [.ref 0, .int ((st * 48271 + 83) % 2147483647)] :: T, hr, ?_, [], _, by simp, rfl⟩
    have i1 : ixN 2 1 = some 1 := by decide
    simp [F__law_draw, den__law_draw, hw, e, mu, dv32, m0, h0, er, i1, runB, env0, sSeq, sRet, sRetN, sIf, sSet, sDrop, sNx, sPar, sAsg, sAttr, sPut, sRaise, Tg.asg, Tg.asgs, eAnd, eOr, eNot, eIf, tAnd, tOr, tNot, tV, tVB, tYes, eCall, eFn, eMk, eMt, eFld, eBM, aC, aN, eV, eC, Z.e1, Z.e2, eTup, eLV, eLN, eChain, eSl, fIsi, tyD, isK, anyK, tNames, rB, tru, fLen, fTuple, fAbs, fInt, fAll, fAny, fIsN, fNotN, fIsB, fNotB, fNeg, seqOf, lstOf, isL, fLt_ii, fLe_ii, fGt_ii, fGe_ii, fSub_ii, fPlus, fMod_ii, fMul_ii, fDiv_ii, fEq, fNe, eqD_int, fIx, atI_0, atI_1, atI_2, lLc, lLc2, iSeq, iCall, fEnum, fZip, wipeD, putD, lSl, lRev, R.to_ok, R.bind_ok]
  · rw [List.concat_eq_append] at hw hy
    have e := eqD_nil (S := .lst (inD (zs ++ [x])) :: .lst [.ref 0, .int st] :: T) (n := 0) (xs := zs ++ [x]) rfl
    have ee : (zs ++ [x]).isEmpty = false := by simp
    rw [ee] at e
    obtain ⟨r, hr, er⟩ := rr x
    refine ⟨r, .lst (inD (zs ++ [x / (many : Int)])) :: .lst [.ref 0, .int st] :: T, hr, ?_, _, _, by simpa using hy, rfl⟩
    have l1 := last_ix zs x
    have hz : (inD zs).length < 16777216 := by
      have : zs.length + 1 ≤ 60 := by simpa using hy
      simp [inD]
      omega
    have ea : inD zs ++ [.int (x / (many : Int))] = inD (zs ++ [x / (many : Int)]) := by simp [inD]
    simp [F__law_draw, den__law_draw, hw, e, dv, m0, h0, er, fPop, fApp, l1, drop_last, hz, ea, runB, env0, sSeq, sRet, sRetN, sIf, sSet, sDrop, sNx, sPar, sAsg, sAttr, sPut, sRaise, Tg.asg, Tg.asgs, eAnd, eOr, eNot, eIf, tAnd, tOr, tNot, tV, tVB, tYes, eCall, eFn, eMk, eMt, eFld, eBM, aC, aN, eV, eC, Z.e1, Z.e2, eTup, eLV, eLN, eChain, eSl, fIsi, tyD, isK, anyK, tNames, rB, tru, fLen, fTuple, fAbs, fInt, fAll, fAny, fIsN, fNotN, fIsB, fNotB, fNeg, seqOf, lstOf, isL, fLt_ii, fLe_ii, fGt_ii, fGe_ii, fSub_ii, fPlus, fMod_ii, fMul_ii, fDiv_ii, fEq, fNe, eqD_int, fIx, atI_0, atI_1, atI_2, lLc, lLc2, iSeq, iCall, fEnum, fZip, wipeD, putD, lSl, lRev, R.to_ok, R.bind_ok]
theorem pick_i (T : Sto) (ds : List D) (h0 : 0 < ds.length) (h1 : ds.length ≤ 1000000) (S : Sto) (hS : Hp2 T S) : ∃ (r : Nat) (S' : Sto) (d : D), ds[r]? = some d ∧ F__law_pick c [.ref 1, .tup ds] S = .ok d S' ∧ Hp2 T S' := by
  obtain ⟨r, S', hr, h2, h3⟩ := draw_i c T ds.length h0 (by omega) S hS
  refine ⟨r, S', ds[r], by simp [hr], ?_, h3⟩
  have e : L2.atI ds ((r : Nat) : Int) = some ds[r] := by
    rw [atI_nat]
    simp [hr]
  simp [F__law_pick, den__law_pick, dl__law_draw, h2, e, runB, env0, sSeq, sRet, sRetN, sIf, sSet, sDrop, sNx, sPar, sAsg, sAttr, sPut, sRaise, Tg.asg, Tg.asgs, eAnd, eOr, eNot, eIf, tAnd, tOr, tNot, tV, tVB, tYes, eCall, eFn, eMk, eMt, eFld, eBM, aC, aN, eV, eC, Z.e1, Z.e2, eTup, eLV, eLN, eChain, eSl, fIsi, tyD, isK, anyK, tNames, rB, tru, fLen, fTuple, fAbs, fInt, fAll, fAny, fIsN, fNotN, fIsB, fNotB, fNeg, seqOf, lstOf, isL, fLt_ii, fLe_ii, fGt_ii, fGe_ii, fSub_ii, fPlus, fMod_ii, fMul_ii, fDiv_ii, fEq, fNe, eqD_int, fIx, atI_0, atI_1, atI_2, lLc, lLc2, iSeq, iCall, fEnum, fZip, wipeD, putD, lSl, lRev, R.to_ok, R.bind_ok]
theorem inD_mem {xs : List Int} {d : D} (h : d ∈ inD xs) : ∃ i, d = .int i := by
  obtain ⟨i, _, rfl⟩ := List.mem_map.mp h
  exact ⟨i, rfl⟩
theorem lcI_ints {j : Nat} {chk : Sto → Prop} {e : DE} {ρ0 : Env} {S : Sto} (g : Int → Int) (hc : chk S) (xs : List Int) (h : ∀ i, e (ρ0.set j (some (.int i))) S = .ok (.int (g i)) S) : lcI (.nm j) chk tYes e ρ0 (inD xs) S = .ok (inD (xs.map g)) S := by
  rw [lcI_map (fun d => .int (g (dI d))) hc (inD xs) fun d hd => ?_]
  · simp [inD, Function.comp_def]
  · obtain ⟨i, rfl⟩ := inD_mem hd
    exact ⟨_, asg_nm .., by rw [h]; rfl⟩
theorem lcI_intsF {j : Nat} {chk : Sto → Prop} {t : DT} {e : DE} {ρ0 : Env} {S : Sto} (p : Int → Bool) (hc : chk S) (xs : List Int) (h : ∀ i, t (ρ0.set j (some (.int i))) S = .ok (p i) S) (h2 : ∀ i, e (ρ0.set j (some (.int i))) S = .ok (.int i) S) : lcI (.nm j) chk t e ρ0 (inD xs) S = .ok (inD (xs.filter p)) S := by
  rw [lcI_filter (fun d => p (dI d)) (fun d => d) hc (inD xs) fun d hd => ?_]
  · simp [inD, List.filter_map, Function.comp_def]
  · obtain ⟨i, rfl⟩ := inD_mem hd
    exact ⟨_, asg_nm .., h i, fun _ => h2 i⟩
theorem cutA_inD (xs : List Int) (lo hi : Option Int) : cutA (inD xs) lo hi = inD (cutA xs lo hi) := by simp [cutA, inD]
theorem cut60 (xs : List Int) : (cutA xs none (some 60)).length ≤ 60 := by
  unfold cutA
  rw [List.length_take]
  have : HT.sIx xs.length xs.length (some 60) ≤ 60 := by
    rw [show (60 : Int) = ((60 : Nat) : Int) from rfl, HT.sIx_nat xs.length xs.length 60]
    omega
  omega
theorem inD_rev (xs : List Int) : (inD xs).reverse = inD xs.reverse := by simp [inD]
theorem heap_i (ns : List Int) : ∃ S, F__law_heap c [.scr (inD ns)] [] = .ok (.ref 1) S ∧ Hp2 [] S := by
  have p60 : powOk 10 60 = true := by decide +kernel
  have p18 : powOk 10 18 = true := by decide +kernel
  have m1 : mulOk (10 ^ 60) (10 ^ 60) = true := by decide +kernel
  have m2 : mulOk (10 ^ 60 * 10 ^ 60) (10 ^ 60) = true := by decide +kernel
  have m3 : ∀ i : Int, mulOk 2 i = true := fun i => mulOk_l (by decide)
  have m4 : ∀ i : Int, mulOk i 69621 = true := fun i => mulOk_r (by decide)
  obtain ⟨G, hG, hGe⟩ : ∃ G : Int, 0 < G ∧ ∀ ρ S, (Z.e2 fMul (Z.e2 fMul (Z.e2 fPow (eC (.int 10)) (eC (.int 60))) (Z.e2 fPow (eC (.int 10)) (eC (.int 60)))) (Z.e2 fPow (eC (.int 10)) (eC (.int 60)))) ρ S = .ok (.int G) S := by
    refine ⟨10 ^ 60 * 10 ^ 60 * 10 ^ 60, by decide +kernel, fun ρ S => ?_⟩
    simp only [Z.e2, eC, R.bind_ok, fPow_ii, if_pos p60]
    have e60 : ((10 : Int) ^ (60 : Int).toNat) = 10 ^ 60 := rfl
    rw [e60]
    simp only [fMul_ii, m1, if_true, R.bind_ok, m2]
  obtain ⟨TH, hTH⟩ : ∃ TH : Int, ∀ S, fPow (.int 10) (.int 18) S = .ok (.int TH) S := ⟨10 ^ 18, fun S => by
    rw [fPow_ii, if_pos p18]
    rfl⟩
  obtain ⟨zs, hz⟩ : ∃ zs, zs = cutA ns none (some 60) := ⟨_, rfl⟩
  have hzl : zs.length ≤ 60 := by rw [hz]; exact cut60 ns
  have hcut : cutA (inD ns) none (some 60) = inD zs := by rw [cutA_inD, hz]
  obtain ⟨ys, hy⟩ : ∃ ys, ys = zs.map fun i : Int => (2 * (if i < 0 then -i else i) + (if i < 0 then 1 else 0)) % G := ⟨_, rfl⟩
  have l2 : ∀ (a b d e : Option D), lcI (.nm 4) (fun _ => True) tYes (Z.e2 fMod (eCall fInt (aC (Z.e2 fPlus (Z.e2 fMul (eC (.int 2)) (eCall fAbs (aC (eV 4) aN))) (eCall fInt (aC (Z.e2 fLt (eV 4) (eC (.int 0))) aN))) aN)) (eV 1)) [a, some (.int G), b, d, e] (inD zs) [] = .ok (inD ys) [] := fun a b d e => by
    rw [hy]
    exact lcI_ints _ trivial zs fun i => by
      by_cases h : i < 0 <;> simp [m3, hG, h, runB, env0, sSeq, sRet, sRetN, sIf, sSet, sDrop, sNx, sPar, sAsg, sAttr, sPut, sRaise, Tg.asg, Tg.asgs, eAnd, eOr, eNot, eIf, tAnd, tOr, tNot, tV, tVB, tYes, eCall, eFn, eMk, eMt, eFld, eBM, aC, aN, eV, eC, Z.e1, Z.e2, eTup, eLV, eLN, eChain, eSl, fIsi, tyD, isK, anyK, tNames, rB, tru, fLen, fTuple, fAbs, fInt, fAll, fAny, fIsN, fNotN, fIsB, fNotB, fNeg, seqOf, lstOf, isL, fLt_ii, fLe_ii, fGt_ii, fGe_ii, fSub_ii, fPlus, fMod_ii, fMul_ii, fDiv_ii, fEq, fNe, eqD_int, fIx, atI_0, atI_1, atI_2, lLc, lLc2, iSeq, iCall, fEnum, fZip, wipeD, putD, lSl, lRev, R.to_ok, R.bind_ok]
  have hyl : ys.length ≤ 60 := by rw [hy, List.length_map]; exact hzl
  have lp : ∀ (a g : Option D) (st : Int), ∃ ρ' S', forI (.nm 4) (lb__law_heap_1 c) (fun _ => True) (inD ys) [a, g, some (.lst (inD ys)), some (.int st), none] [] = .nx ρ' S' ∧ S' = [] ∧ ∃ st' e, ρ' = [a, g, some (.lst (inD ys)), some (.int st'), e] := fun a g st => by
    refine forI_keep (fun ρ S => S = [] ∧ ∃ st' e, ρ = [a, g, some (.lst (inD ys)), some (.int st'), e]) _ _ _ ⟨rfl, st, none, rfl⟩ fun d hd ρ S ⟨hS, st', e, hρ⟩ => ?_
    subst hS hρ
    obtain ⟨i, rfl⟩ := inD_mem hd
    refine ⟨_, asg_nm .., _, _, .inl ?_, trivial, rfl, (st' * 69621 + i % 2147483563 + 71) % 2147483647, some (.int i), rfl⟩
    simp [lb__law_heap_1, m4, runB, env0, sSeq, sRet, sRetN, sIf, sSet, sDrop, sNx, sPar, sAsg, sAttr, sPut, sRaise, Tg.asg, Tg.asgs, eAnd, eOr, eNot, eIf, tAnd, tOr, tNot, tV, tVB, tYes, eCall, eFn, eMk, eMt, eFld, eBM, aC, aN, eV, eC, Z.e1, Z.e2, eTup, eLV, eLN, eChain, eSl, fIsi, tyD, isK, anyK, tNames, rB, tru, fLen, fTuple, fAbs, fInt, fAll, fAny, fIsN, fNotN, fIsB, fNotB, fNeg, seqOf, lstOf, isL, fLt_ii, fLe_ii, fGt_ii, fGe_ii, fSub_ii, fPlus, fMod_ii, fMul_ii, fDiv_ii, fEq, fNe, eqD_int, fIx, atI_0, atI_1, atI_2, lLc, lLc2, iSeq, iCall, fEnum, fZip, wipeD, putD, lSl, lRev, R.to_ok, R.bind_ok]
  obtain ⟨ρ', S', h1, rfl, st', e, rfl⟩ := lp (some (.scr (inD ns))) (some (.int G)) 20045
  have l3 : ∀ (a b d : Option D) (e : Option D), lcI (.nm 4) (fun _ => True) (tVB (Z.e2 fGe (eV 4) (Z.e2 fPow (eC (.int 10)) (eC (.int 18))))) (eV 4) [a, b, some (.lst (inD ys)), d, e] (inD ys) [] = .ok (inD (ys.filter fun i => decide (TH ≤ i))) [] := fun a b d e => lcI_intsF _ trivial ys (fun i => by simp [hTH, runB, env0, sSeq, sRet, sRetN, sIf, sSet, sDrop, sNx, sPar, sAsg, sAttr, sPut, sRaise, Tg.asg, Tg.asgs, eAnd, eOr, eNot, eIf, tAnd, tOr, tNot, tV, tVB, tYes, eCall, eFn, eMk, eMt, eFld, eBM, aC, aN, eV, eC, Z.e1, Z.e2, eTup, eLV, eLN, eChain, eSl, fIsi, tyD, isK, anyK, tNames, rB, tru, fLen, fTuple, fAbs, fInt, fAll, fAny, fIsN, fNotN, fIsB, fNotB, fNeg, seqOf, lstOf, isL, fLt_ii, fLe_ii, fGt_ii, fGe_ii, fSub_ii, fPlus, fMod_ii, fMul_ii, fDiv_ii, fEq, fNe, eqD_int, fIx, atI_0, atI_1, atI_2, lLc, lLc2, iSeq, iCall, fEnum, fZip, wipeD, putD, lSl, lRev, R.to_ok, R.bind_ok]) (fun i => by simp [runB, env0, sSeq, sRet, sRetN, sIf, sSet, sDrop, sNx, sPar, sAsg, sAttr, sPut, sRaise, Tg.asg, Tg.asgs, eAnd, eOr, eNot, eIf, tAnd, tOr, tNot, tV, tVB, tYes, eCall, eFn, eMk, eMt, eFld, eBM, aC, aN, eV, eC, Z.e1, Z.e2, eTup, eLV, eLN, eChain, eSl, fIsi, tyD, isK, anyK, tNames, rB, tru, fLen, fTuple, fAbs, fInt, fAll, fAny, fIsN, fNotN, fIsB, fNotB, fNeg, seqOf, lstOf, isL, fLt_ii, fLe_ii, fGt_ii, fGe_ii, fSub_ii, fPlus, fMod_ii, fMul_ii, fDiv_ii, fEq, fNe, eqD_int, fIx, atI_0, atI_1, atI_2, lLc, lLc2, iSeq, iCall, fEnum, fZip, wipeD, putD, lSl, lRev, R.to_ok, R.bind_ok])
  obtain ⟨xs, hx⟩ : ∃ xs, xs = ys.filter fun i => decide (TH ≤ i) := ⟨_, rfl⟩
  rw [← hx] at l3
  have hxl : xs.length ≤ 60 := by rw [hx]; exact Nat.le_trans (List.length_filter_le ..) hyl
  have hzl' : (inD zs).length ≤ 16777216 := by simp [inD]; omega
  have hyl' : (inD ys).length ≤ 16777216 := by simp [inD]; omega
  refine ⟨[.lst (inD xs.reverse), .lst [.ref 0, .int st']], ?_, xs.reverse, st', by rw [List.length_reverse]; exact hxl, rfl⟩
  refine run_rt ?_
  unfold den__law_heap
  rw [seq_set (hGe _ _)]
  rw [seq_par (d := .lst (inD ys)) (e := .int 20045) (S1 := []) (S' := []) (by simp [env0, oN, oS, hcut, hzl', l2, runB, env0, sSeq, sRet, sRetN, sIf, sSet, sDrop, sNx, sPar, sAsg, sAttr, sPut, sRaise, Tg.asg, Tg.asgs, eAnd, eOr, eNot, eIf, tAnd, tOr, tNot, tV, tVB, tYes, eCall, eFn, eMk, eMt, eFld, eBM, aC, aN, eV, eC, Z.e1, Z.e2, eTup, eLV, eLN, eChain, eSl, fIsi, tyD, isK, anyK, tNames, rB, tru, fLen, fTuple, fAbs, fInt, fAll, fAny, fIsN, fNotN, fIsB, fNotB, fNeg, seqOf, lstOf, isL, fLt_ii, fLe_ii, fGt_ii, fGe_ii, fSub_ii, fPlus, fMod_ii, fMul_ii, fDiv_ii, fEq, fNe, eqD_int, fIx, atI_0, atI_1, atI_2, lLc, lLc2, iSeq, iCall, fEnum, fZip, wipeD, putD, lSl, lRev, R.to_ok, R.bind_ok]) rfl]
  rw [seq_nx (a := sFor _ _ _) (by rw [for_nx (ds := inD ys) (chk := fun _ => True) (S1 := []) (by simp [env0, runB, env0, sSeq, sRet, sRetN, sIf, sSet, sDrop, sNx, sPar, sAsg, sAttr, sPut, sRaise, Tg.asg, Tg.asgs, eAnd, eOr, eNot, eIf, tAnd, tOr, tNot, tV, tVB, tYes, eCall, eFn, eMk, eMt, eFld, eBM, aC, aN, eV, eC, Z.e1, Z.e2, eTup, eLV, eLN, eChain, eSl, fIsi, tyD, isK, anyK, tNames, rB, tru, fLen, fTuple, fAbs, fInt, fAll, fAny, fIsN, fNotN, fIsB, fNotB, fNeg, seqOf, lstOf, isL, fLt_ii, fLe_ii, fGt_ii, fGe_ii, fSub_ii, fPlus, fMod_ii, fMul_ii, fDiv_ii, fEq, fNe, eqD_int, fIx, atI_0, atI_1, atI_2, lLc, lLc2, iSeq, iCall, fEnum, fZip, wipeD, putD, lSl, lRev, R.to_ok, R.bind_ok])]; exact h1)]
  refine ret_rt ?_
  simp [hyl', l3, inD_rev, runB, env0, sSeq, sRet, sRetN, sIf, sSet, sDrop, sNx, sPar, sAsg, sAttr, sPut, sRaise, Tg.asg, Tg.asgs, eAnd, eOr, eNot, eIf, tAnd, tOr, tNot, tV, tVB, tYes, eCall, eFn, eMk, eMt, eFld, eBM, aC, aN, eV, eC, Z.e1, Z.e2, eTup, eLV, eLN, eChain, eSl, fIsi, tyD, isK, anyK, tNames, rB, tru, fLen, fTuple, fAbs, fInt, fAll, fAny, fIsN, fNotN, fIsB, fNotB, fNeg, seqOf, lstOf, isL, fLt_ii, fLe_ii, fGt_ii, fGe_ii, fSub_ii, fPlus, fMod_ii, fMul_ii, fDiv_ii, fEq, fNe, eqD_int, fIx, atI_0, atI_1, atI_2, lLc, lLc2, iSeq, iCall, fEnum, fZip, wipeD, putD, lSl, lRev, R.to_ok, R.bind_ok]
theorem hp_len {T S : Sto} (h : Hp2 T S) : S.length = T.length + 2 := by
  obtain ⟨xs, st, _, rfl⟩ := h
  simp
theorem hp_get {T0 G S : Sto} {x : O} (h : Hp2 (T0 ++ x :: G) S) : S[T0.length + 2]? = some x := by
  obtain ⟨xs, st, _, rfl⟩ := h
  simp
theorem hp_at {T S : Sto} {i : Nat} {x : O} (h : Hp2 T S) (hx : T[i]? = some x) : S[i + 2]? = some x := by
  obtain ⟨xs, st, _, rfl⟩ := h
  simpa using hx
theorem hp_set {T0 G S : Sto} {x : O} (h : Hp2 (T0 ++ x :: G) S) (y : O) : Hp2 (T0 ++ y :: G) (S.set (T0.length + 2) y) := by
  obtain ⟨xs, st, hl, rfl⟩ := h
  exact ⟨xs, st, hl, by simp⟩
theorem hp_push {T S : Sto} (h : Hp2 T S) (y : Sto) : Hp2 (T ++ y) (S ++ y) := by
  obtain ⟨xs, st, hl, rfl⟩ := h
  exact ⟨xs, st, hl, by simp⟩
theorem pick_l (T : Sto) (ds : List D) (h0 : 0 < ds.length) (h1 : ds.length ≤ 1000000) (S : Sto) (hS : Hp2 T S) : ∃ (r : Nat) (S' : Sto) (d : D), ds[r]? = some d ∧ F__law_pick c [.ref 1, .lst ds] S = .ok d S' ∧ Hp2 T S' := by
  obtain ⟨r, S', hr, h2, h3⟩ := draw_i c T ds.length h0 (by omega) S hS
  refine ⟨r, S', ds[r], by simp [hr], ?_, h3⟩
  have e : L2.atI ds ((r : Nat) : Int) = some ds[r] := by
    rw [atI_nat]
    simp [hr]
  simp [F__law_pick, den__law_pick, dl__law_draw, h2, e, runB, env0, sSeq, sRet, sRetN, sIf, sSet, sDrop, sNx, sPar, sAsg, sAttr, sPut, sRaise, Tg.asg, Tg.asgs, eAnd, eOr, eNot, eIf, tAnd, tOr, tNot, tV, tVB, tYes, eCall, eFn, eMk, eMt, eFld, eBM, aC, aN, eV, eC, Z.e1, Z.e2, eTup, eLV, eLN, eChain, eSl, fIsi, tyD, isK, anyK, tNames, rB, tru, fLen, fTuple, fAbs, fInt, fAll, fAny, fIsN, fNotN, fIsB, fNotB, fNeg, seqOf, lstOf, isL, fLt_ii, fLe_ii, fGt_ii, fGe_ii, fSub_ii, fPlus, fMod_ii, fMul_ii, fDiv_ii, fEq, fNe, eqD_int, fIx, atI_0, atI_1, atI_2, lLc, lLc2, iSeq, iCall, fEnum, fZip, wipeD, putD, lSl, lRev, R.to_ok, R.bind_ok]
/-! ### lots -/
end Z.k67
namespace Z.k67
open PySem L2 Z
section
variable {c : Ad} {ρ : Env} {S : Sto} {a b : DE}
theorem ev_wipe {i j : Nat} (h : i ≠ j) (ρ : Env) (S : Sto) : eV j (wipeD ρ [i]) S = eV j ρ S := by
  unfold eV
  rw [show wipeD ρ [i] = ρ.set i none from rfl, List.getElem?_set_ne h]
theorem tup_lst (ds : List D) (S : Sto) : fTuple [.lst ds] S = .ok (.tup ds) S := rfl
theorem elv_ok {r : DA} {ρ : Env} {S S' : Sto} {ds : List D} (h : r ρ S = .ok ds S') : eLV r ρ S = .ok (.lst ds) S' := by
  unfold eLV
  rw [h]
  rfl
theorem llc_ok {tg : Tg} {i : DI} {t : DT} {e : DE} {vs : List Nat} {ρ : Env} {S S1 S2 : Sto} {ds ys : List D} {chk : Sto → Prop} (hi : i ρ S = .ok (ds, chk) S1) (hl : ds.length ≤ 16777216) (h : lcI tg chk t e (wipeD ρ vs) ds S1 = .ok ys S2) : lLc tg i t e vs ρ S = .ok ys S2 := by
  unfold lLc
  rw [hi, R.bind_ok, if_pos hl, h]
theorem call1_ok {f : List D → Sto → R D} {a : DE} {ρ : Env} {S S1 : Sto} {x : D} (ha : a ρ S = .ok x S1) : eCall f (aC a aN) ρ S = f [x] S1 := by
  unfold eCall aC
  rw [ha]
  rfl
def Fx (S0 S : Sto) : Prop := ∃ G, S = S0 ++ G
theorem Fx.get {S0 S : Sto} (h : Fx S0 S) {i : Nat} {o : O} (e : S0[i]? = some o) : S[i]? = some o := by
  obtain ⟨G, rfl⟩ := h
  rw [List.getElem?_append_left (get_lt e)]
  exact e
theorem Fx.set {S0 S : Sto} (h : Fx S0 S) {i : Nat} (hi : S0.length ≤ i) (o : O) : Fx S0 (S.set i o) := by
  obtain ⟨G, rfl⟩ := h
  exact ⟨G.set (i - S0.length) o, List.set_append_right _ _ hi⟩
theorem Fx.push {S0 S : Sto} (h : Fx S0 S) (y : Sto) : Fx S0 (S ++ y) := by
  obtain ⟨G, rfl⟩ := h
  exact ⟨G ++ y, by rw [List.append_assoc]⟩
theorem Fx.len {S0 S : Sto} (h : Fx S0 S) : S0.length ≤ S.length := by
  obtain ⟨G, rfl⟩ := h
  simp
theorem Fx.rfl' (S : Sto) : Fx S S := ⟨[], by simp⟩
theorem Fx.trans {S0 S S2 : Sto} (h : Fx S0 S) (h2 : Fx S S2) : Fx S0 S2 := by
  obtain ⟨G, rfl⟩ := h
  obtain ⟨G2, rfl⟩ := h2
  exact ⟨G ++ G2, by rw [List.append_assoc]⟩
theorem Fx.hp {T G S S' : Sto} (h : Hp2 (T ++ G) S) (f : Fx S S') : ∃ G', Hp2 (T ++ G') S' := by
  obtain ⟨X, rfl⟩ := f
  exact ⟨G ++ X, by rw [← List.append_assoc]; exact hp_push h X⟩
theorem or_ff {t u : DT} {S1 S2 : Sto} (h1 : t ρ S = .ok false S1) (h2 : u ρ S1 = .ok false S2) : tOr t u ρ S = .ok false S2 := by
  simp [tOr, h1, h2]
theorem or_t {t u : DT} {ρ : Env} {S S1 : Sto} (h1 : t ρ S = .ok true S1) : tOr t u ρ S = .ok true S1 := by
  simp [tOr, h1]
theorem or_f {t u : DT} {ρ : Env} {S S1 : Sto} {b : Bool} {S2 : Sto} (h1 : t ρ S = .ok false S1) (h2 : u ρ S1 = .ok b S2) : tOr t u ρ S = .ok b S2 := by
  simp [tOr, h1, h2]
theorem not_i {t : DT} {ρ : Env} {S S1 : Sto} {b : Bool} (h : t ρ S = .ok b S1) : tNot t ρ S = .ok (!b) S1 := by
  simp [tNot, h]
theorem all_true_l {ds : List D} {i : Nat} {it : DI} {e : DE} (hi : it ρ S = .ok (ds, fun _ => True) S) (hn : ds.length ≤ 5000) (h : ∀ d ∈ ds, e ((wipeD ρ [i]).set i (some d)) S = .ok (.bl true) S) : tNot (tV (eCall fAll (aC (eLV (lLc (.nm i) it tYes e [i])) aN))) ρ S = .ok false S := by
  have g1 : lcI (.nm i) (fun _ => True) tYes e (wipeD ρ [i]) ds S = .ok (ds.map fun _ => .bl true) S := by
    refine lcI_map (fun _ => .bl true) trivial _ fun d hd => ⟨_, asg_nm .., h d hd⟩
  have g2 : bools (ds.map fun _ => D.bl true) = some (ds.map fun _ => true) := bools_map (fun _ => true) _
  have g3 : (ds.map fun _ => true).all id = true := by simp
  have y := call1_ok (f := fAll) (elv_ok (llc_ok hi (by omega) g1))
  unfold tNot tV
  rw [y]
  simp [fAll, lstOf, g2, g3, tru]
theorem eV_ne {i j : Nat} (h : i ≠ j) (x : Option D) : eV j (ρ.set i x) S = eV j ρ S := by
  unfold eV
  rw [List.getElem?_set_ne h]
theorem eV_set {i : Nat} (h : i < ρ.length) (d : D) : eV i (ρ.set i (some d)) S = .ok d S := by
  unfold eV
  rw [List.getElem?_set_self h]
theorem eV_w {i j : Nat} (h : i ≠ j) (d : D) : eV j ((wipeD ρ [i]).set i (some d)) S = eV j ρ S := by
  rw [eV_ne h, ev_wipe h]
theorem eV_ws {i : Nat} (h : i < ρ.length) (d : D) : eV i ((wipeD ρ [i]).set i (some d)) S = .ok d S := eV_set (by simpa [wipeD] using h) d
structure Ag (L : List Nat) (ρ ρ' : Env) : Prop where
  len : ρ'.length = ρ.length
  eq : ∀ j, j ∉ L → ρ'[j]? = ρ[j]?
theorem Ag.rfl' (L : List Nat) (ρ : Env) : Ag L ρ ρ := ⟨rfl, fun _ _ => rfl⟩
theorem Ag.ev {L : List Nat} {ρ ρ' : Env} (h : Ag L ρ ρ') {j : Nat} (hj : j ∉ L) (S : Sto) : eV j ρ' S = eV j ρ S := by
  unfold eV
  rw [h.eq j hj]
theorem Ag.set {L : List Nat} {ρ ρ' : Env} (h : Ag L ρ ρ') {i : Nat} (hi : i ∈ L) (x : Option D) : Ag L ρ (ρ'.set i x) := ⟨by rw [List.length_set]; exact h.len, fun j hj => by
  rw [List.getElem?_set_ne (fun e : i = j => hj (by rw [← e]; exact hi))]
  exact h.eq j hj⟩
theorem Ag.trans {L : List Nat} {ρ ρ' ρ2 : Env} (h : Ag L ρ ρ') (h2 : Ag L ρ' ρ2) : Ag L ρ ρ2 := ⟨h2.len.trans h.len, fun j hj => (h2.eq j hj).trans (h.eq j hj)⟩
theorem tupmap {ds : List D} {i : Nat} {it : DI} {e : DE} (g : D → D) (hi : it ρ S = .ok (ds, fun _ => True) S) (hn : ds.length ≤ 5000) (h : ∀ d ∈ ds, e ((wipeD ρ [i]).set i (some d)) S = .ok (g d) S) : eCall fTuple (aC (eLV (lLc (.nm i) it tYes e [i])) aN) ρ S = .ok (.tup (ds.map g)) S := by
  have g1 : lcI (.nm i) (fun _ => True) tYes e (wipeD ρ [i]) ds S = .ok (ds.map g) S := lcI_map g trivial _ fun d hd => ⟨_, asg_nm .., h d hd⟩
  exact (call1_ok (elv_ok (llc_ok hi (by omega) g1))).trans (tup_lst _ _)
theorem cat_ok {a b : DE} {ρ : Env} {S : Sto} {xs ys : List D} (ha : a ρ S = .ok (.lst xs) S) (hb : b ρ S = .ok (.lst ys) S) (hl : xs.length + ys.length ≤ 16777216) : lCat a b ρ S = .ok (xs ++ ys) S := by
  simp only [lCat, ha, hb, R.bind_ok, gCat, lstH, hl, if_true]
theorem acs {a : DE} {r : DA} {ρ : Env} {S S1 S2 : Sto} {x : D} {xs : List D} (h : a ρ S = .ok x S1) (h2 : r ρ S1 = .ok xs S2) : aC a r ρ S = .ok (x :: xs) S2 := by
  unfold aC
  rw [h, R.bind_ok, h2]
  rfl
theorem acn {ρ : Env} {S : Sto} : aN ρ S = .ok [] S := rfl
theorem list1 {a : DE} {ρ : Env} {S : Sto} {x : D} (ha : a ρ S = .ok x S) : eLV (aC a aN) ρ S = .ok (.lst [x]) S := by
  simp [eLV, aC, aN, ha]
theorem tup1 {a : DE} {ρ : Env} {S S1 : Sto} {x : D} (ha : a ρ S = .ok x S1) : eTup (aC a aN) ρ S = .ok (.tup [x]) S1 := by
  simp [eTup, aC, aN, ha]
theorem plus_t {a b : DE} {ρ : Env} {S S1 S2 : Sto} {xs ys : List D} (ha : a ρ S = .ok (.tup xs) S1) (hb : b ρ S1 = .ok (.tup ys) S2) (hl : xs.length + ys.length ≤ 16777216) : Z.e2 fPlus a b ρ S = .ok (.tup (xs ++ ys)) S2 := by
  rw [e2_ok ha hb]
  simp only [fPlus, hl, if_true]
theorem etup_ok {r : DA} {ρ : Env} {S S' : Sto} {ds : List D} (h : r ρ S = .ok ds S') : eTup r ρ S = .ok (.tup ds) S' := by
  unfold eTup
  rw [h]
  rfl
theorem seq_rt {a r : DS} {ρ : Env} {S S' : Sto} {d : D} (h : a ρ S = .rt d S') : sSeq a r ρ S = .rt d S' := by
  unfold sSeq
  rw [h]
  rfl
theorem seq_x {a r : DS} {ρ ρ' : Env} {S S' : Sto} {C : Addr} {d : D} (h : a ρ S = .exc ρ' C d S') : sSeq a r ρ S = .exc ρ' C d S' := by
  unfold sSeq
  rw [h]
  rfl
theorem while_t {t : DT} {b : DS} {k : Nat} {ρ ρ2 : Env} {S S1 S2 : Sto} (h : t ρ S = .ok true S1) (h2 : b ρ S1 = .nx ρ2 S2) : whileI t b (k + 1) ρ S = whileI t b k ρ2 S2 := by simp [whileI, h, h2]
theorem forI_stop {tg : Tg} {b : DS} (P : Env → Sto → Prop) {x : D} {d : D} {ds2 : List D} {S0 : Sto} : ∀ (ds1 : List D) (ρ : Env) (S : Sto), P ρ S →
    (∀ e ∈ ds1, ∀ ρ S, P ρ S → ∃ ρ1, Tg.asg S tg e ρ = some ρ1 ∧ ∃ ρ' S', (b ρ1 S = .nx ρ' S' ∨ b ρ1 S = .ct ρ' S') ∧ P ρ' S') →
    (∀ ρ S, P ρ S → ∃ ρ1, Tg.asg S tg d ρ = some ρ1 ∧ b ρ1 S = .rt x S0) → forI tg b (fun _ => True) (ds1 ++ d :: ds2) ρ S = .rt x S0
  | [], ρ, S, h, _, h2 => by
    obtain ⟨ρ1, e1, e2⟩ := h2 ρ S h
    simp [forI, e1, e2]
  | e :: ds1, ρ, S, h, h1, h2 => by
    obtain ⟨ρ1, e1, ρ', S', e2, e3⟩ := h1 e (List.mem_cons_self ..) ρ S h
    have ih := forI_stop (ds2 := ds2) P ds1 ρ' S' e3 (fun y hy => h1 y (List.mem_cons_of_mem _ hy)) h2
    rcases e2 with e2 | e2 <;> simp [forI, e1, e2, ih]
end
end Z.k67
namespace Z.k67
open PySem L2 Z TL
/-! ### texts as lists of signs -/
def St (l : List Nat) : Str := ⟨l.toArray⟩
theorem tl_St (l : List Nat) : tl (St l) = l := rfl
theorem St_tl (x : Str) : St (tl x) = x := by
  cases x with
  | mk a => simp [St, tl]
theorem St_inj {a b : List Nat} (h : St a = St b) : a = b := by
  have := congrArg tl h
  simpa [tl_St] using this
theorem St_len (l : List Nat) : (St l).length = l.length := by rw [len_tl, tl_St]
theorem St_app (a b : List Nat) : St a ++ St b = St (a ++ b) := by
  rw [← St_tl (St a ++ St b), tl_append, tl_St, tl_St]
theorem St_eq {x : Str} {l : List Nat} (h : tl x = l) : x = St l := by rw [← h, St_tl]
theorem signs_St (l : List Nat) : signs (St l) = l.map fun c => .str (St [c]) := rfl
theorem inC_St (k : Nat) (l : List Nat) (S : Sto) : fInC (.str (St [k])) (.str (St l)) S = .ok (.bl (decide (k ∈ l))) S := by
  have e : (St [k]).cps.toList = [k] := rfl
  have e2 : (St l).cps.toList = l := rfl
  simp only [fInC, e, e2]
theorem notinC_St (k : Nat) (l : List Nat) (S : Sto) : fNotInC (.str (St [k])) (.str (St l)) S = .ok (.bl (!decide (k ∈ l))) S := by
  have e : (St [k]).cps.toList = [k] := rfl
  have e2 : (St l).cps.toList = l := rfl
  simp only [fNotInC, e, e2]
theorem plus_St (a b : List Nat) (S : Sto) (h : a.length + b.length ≤ 16777216) : fPlus (.str (St a)) (.str (St b)) S = .ok (.str (St (a ++ b))) S := by
  simp only [fPlus, St_len, h, if_true, St_app]
/-- signs that can be -/
def Ok7 (l : List Nat) : Prop := ∀ c ∈ l, c < 128
theorem shaped_St (l : List Nat) (h : Ok7 l) : SeqAt.shaped (.str (St l)) = true := by
  have e : PyData.strOk (St l) = true := by
    unfold PyData.strOk St
    rw [List.all_toArray, List.all_eq_true]
    exact fun c hc => decide_eq_true (by have := h c hc; omega)
  simp [SeqAt.shaped, PyData.canLay0, PyData.depth, e]
theorem eq_St (a b : List Nat) (S : Sto) (ha : Ok7 a) (hb : Ok7 b) : fEq (.str (St a)) (.str (St b)) S = .ok (.bl (decide (a = b))) S := by
  have e : (St a == St b) = decide (a = b) := by
    by_cases h : a = b
    · subst h; simp
    · have : St a ≠ St b := fun e => h (St_inj e)
      simp [h, this]
  unfold fEq eqD
  simp only [toP, shaped_St a ha, shaped_St b hb, and_self, if_true, PyData.eqv, rB, e]
theorem ne_St (a b : List Nat) (S : Sto) (ha : Ok7 a) (hb : Ok7 b) : fNe (.str (St a)) (.str (St b)) S = .ok (.bl (!decide (a = b))) S := by
  have e : (St a == St b) = decide (a = b) := by
    by_cases h : a = b
    · subst h; simp
    · have : St a ≠ St b := fun e => h (St_inj e)
      simp [h, this]
  unfold fNe eqD
  simp only [toP, shaped_St a ha, shaped_St b hb, and_self, if_true, PyData.eqv, rB, e, Option.map]
/-! ### numbers as texts -/
def num (i : Int) : List Nat := if i < 0 then 45 :: numL i.natAbs else numL i.natAbs
theorem num_str (i : Int) : Str.ofString (toString i) = St (num i) := by
  refine St_eq ?_
  cases i with
  | ofNat n =>
    have e : tl (Str.ofString (toString ((n : Nat) : Int))) = numL n := tl_num n
    have h : num (Int.ofNat n) = numL n := by
      unfold num
      have : ¬ (Int.ofNat n < 0) := by simp
      rw [if_neg this]
      rfl
    rw [h]
    exact e
  | negSucc n =>
    have h : num (Int.negSucc n) = 45 :: numL (n + 1) := by
      unfold num
      have : Int.negSucc n < 0 := Int.negSucc_lt_zero n
      rw [if_pos this]
      rfl
    rw [h, tl_ofString]
    have e : toString (Int.negSucc n) = "-" ++ toString (n + 1) := rfl
    have e2 : (toString (n + 1)).toList.map Char.toNat = numL (n + 1) := by
      rw [← tl_ofString]
      exact tl_num (n + 1)
    rw [e, String.toList_append, List.map_append, e2]
    rfl
theorem log_lt {i : Int} (h : i.natAbs < 1000000000000) : i.natAbs.log2 < 1920 := by
  by_cases h0 : i.natAbs = 0
  · rw [h0]; decide
  · have : i.natAbs < 2 ^ 40 := by omega
    have := (Nat.log2_lt h0).mpr this
    omega
theorem str_i {i : Int} (h : i.natAbs < 1000000000000) (S : Sto) : fStr [.int i] S = .ok (.str (St (num i))) S := by
  simp only [fStr, log_lt h, if_true, num_str]
/-- digits, at most twelve, no needless 0 -/
structure Dg (l : List Nat) : Prop where
  all : NumText.AllDigits l
  ne : l ≠ []
  few : l.length ≤ 12
  zero : l.head? = some 48 → l = [48]
theorem numL_dg {n : Nat} (h : n < 1000000000000) : Dg (numL n) := by
  refine ⟨numL_digits n, numL_ne n, numL_len (by decide) h, ?_⟩
  have key : ∀ n : Nat, n ≠ 0 → (numL n).head? ≠ some 48 := by
    intro n
    induction n using Nat.strongRecOn with
    | _ n ih =>
      intro h0 e
      by_cases h : n < 10
      · rw [numL_lt h] at e
        simp at e
        omega
      · rw [numL_step (by omega)] at e
        have ih' := ih (n / 10) (by omega) (by omega)
        cases hd : numL (n / 10) with
        | nil => exact numL_ne _ hd
        | cons a r =>
          rw [hd] at e ih'
          simp at e ih'
          exact ih' e
  intro e
  by_cases h0 : n = 0
  · subst h0
    exact numL_lt (by decide)
  · exact absurd e (key n h0)
/-- what a run of signs can be -/
inductive RunOk : List Nat → Prop
  | nil : RunOk []
  | word (k : Nat) (h1 : 1 ≤ k) (h2 : k ≤ 4) : RunOk ([110, 111, 110, 101].take k)
  | minus : RunOk [45]
  | dig (l : List Nat) (h : Dg l) : RunOk l
  | neg (l : List Nat) (h : Dg l) (h0 : l.head? ≠ some 48) : RunOk (45 :: l)
theorem num_run {i : Int} (h : i.natAbs < 1000000000000) : RunOk (num i) := by
  unfold num
  split
  · refine .neg _ (numL_dg h) fun e => ?_
    have z := (numL_dg h).zero e
    have v := numL_val i.natAbs
    rw [z] at v
    have : i.natAbs = 0 := by rw [← v]; rfl
    omega
  · exact .dig _ (numL_dg h)
theorem RunOk.len {l : List Nat} (h : RunOk l) : l.length ≤ 13 := by
  cases h with
  | nil => simp
  | word k h1 h2 => rw [List.length_take]; simp; omega
  | minus => simp
  | dig l h => have := h.few; omega
  | neg l h h0 => have := h.few; simp; omega
theorem int_dig {l : List Nat} (h : Dg l) : PySem.intText? (St l) = some ((NumText.digitsVal l : Nat) : Int) := by
  have := h.few
  exact PySem.intText_digits (x := St l) h.all h.ne (by rw [St_len]; omega)
theorem int_neg {l : List Nat} (h : Dg l) : PySem.intText? (St (45 :: l)) = some (-((NumText.digitsVal l : Nat) : Int)) := by
  have := h.few
  exact PySem.intText_neg (x := St (45 :: l)) rfl h.all h.ne (by rw [St_len]; simp; omega)
theorem int_num {i : Int} (h : i.natAbs < 1000000000000) : PySem.intText? (St (num i)) = some i := by
  unfold num
  split
  · rw [int_neg (numL_dg h), numL_val]
    congr 1
    omega
  · rw [int_dig (numL_dg h), numL_val]
    congr 1
    omega
end Z.k67
namespace Z.k67
open PySem L2 Z TL
variable (c : Ad)
/-! ### the reader's fields -/
def fsO (a b d e f : D) : List (Str × D) := [("rows", a), ("run", b), ("due", d), ("begun", e), ("made", f)]
theorem n1 : (("run" : Str) == "rows") = false := by decide +kernel
theorem n2 : (("due" : Str) == "rows") = false := by decide +kernel
theorem n3 : (("due" : Str) == "run") = false := by decide +kernel
theorem n4 : (("begun" : Str) == "rows") = false := by decide +kernel
theorem n5 : (("begun" : Str) == "run") = false := by decide +kernel
theorem n6 : (("begun" : Str) == "due") = false := by decide +kernel
theorem n7 : (("made" : Str) == "rows") = false := by decide +kernel
theorem n8 : (("made" : Str) == "run") = false := by decide +kernel
theorem n9 : (("made" : Str) == "due") = false := by decide +kernel
theorem n10 : (("made" : Str) == "begun") = false := by decide +kernel
section
variable (a b d e f : D)
theorem lk_rows : List.lookup ("rows" : Str) (fsO a b d e f) = some a := by simp [fsO, List.lookup]
theorem lk_run : List.lookup ("run" : Str) (fsO a b d e f) = some b := by simp [fsO, List.lookup, n1]
theorem lk_due : List.lookup ("due" : Str) (fsO a b d e f) = some d := by simp [fsO, List.lookup, n2, n3]
theorem lk_begun : List.lookup ("begun" : Str) (fsO a b d e f) = some e := by simp [fsO, List.lookup, n4, n5, n6]
theorem lk_made : List.lookup ("made" : Str) (fsO a b d e f) = some f := by simp [fsO, List.lookup, n7, n8, n9, n10]
theorem m1 : ¬ ("rows" : Str) = "run" := by decide +kernel
theorem m2 : ¬ ("rows" : Str) = "due" := by decide +kernel
theorem m3 : ¬ ("run" : Str) = "due" := by decide +kernel
theorem m4 : ¬ ("rows" : Str) = "begun" := by decide +kernel
theorem m5 : ¬ ("run" : Str) = "begun" := by decide +kernel
theorem m6 : ¬ ("due" : Str) = "begun" := by decide +kernel
theorem m7 : ¬ ("rows" : Str) = "made" := by decide +kernel
theorem m8 : ¬ ("run" : Str) = "made" := by decide +kernel
theorem m9 : ¬ ("due" : Str) = "made" := by decide +kernel
theorem m10 : ¬ ("begun" : Str) = "made" := by decide +kernel
theorem pd_run (x : D) : putD "run" x (fsO a b d e f) = fsO a x d e f := by simp [fsO, putD, m1]
theorem pd_due (x : D) : putD "due" x (fsO a b d e f) = fsO a b x e f := by simp [fsO, putD, m2, m3]
theorem pd_begun (x : D) : putD "begun" x (fsO a b d e f) = fsO a b d x f := by simp [fsO, putD, m4, m5, m6]
variable {a b d e f} {S : Sto} {n : Nat} {ρ : Env} {x : DE}
theorem fld_i {nm : Str} {y : D} (h : S[n]? = some (.ins c.PlainReading (fsO a b d e f))) (hx : x ρ S = .ok (.ref n) S) (hl : (fsO a b d e f).lookup nm = some y) : eFld c.cs nm x ρ S = .ok y S := by
  unfold eFld
  rw [e1_ok hx]
  simp [h, hl]
theorem attr_i {nm : Str} {v : D} {fs' : List (Str × D)} {y : DE} (h : S[n]? = some (.ins c.PlainReading (fsO a b d e f))) (hy : y ρ S = .ok v S) (hx : x ρ S = .ok (.ref n) S) (hp : putD nm v (fsO a b d e f) = fs') : sAttr c.cs nm y x ρ S = .nx ρ (S.set n (.ins c.PlainReading fs')) := by
  unfold sAttr
  rw [hy]
  simp only [R.to_ok]
  rw [hx]
  have hl : (fsO a b d e f).length = 5 := rfl
  simp [h, hp, hl]
theorem att_i {nm : Str} {v : D} {fs' : List (Str × D)} (h : S[n]? = some (.ins c.PlainReading (fsO a b d e f))) (hp : putD nm v (fsO a b d e f) = fs') : attD c.cs nm v (.ref n) S = some (S.set n (.ins c.PlainReading fs')) := by
  have hl : (fsO a b d e f).length = 5 := rfl
  simp [attD, h, hp, hl]
end
/-! ### the reader in plain -/
structure MS where
  (stk : List (List D)) (run : List Nat) (due begun : Bool) (made : List D)
def MS.put (s : MS) (v : D) : MS := match s.stk with
  | [] => { s with due := false, begun := false, made := s.made ++ [v] }
  | r :: t => { s with due := false, begun := false, stk := (r ++ [v]) :: t }
/-- the word none -/
def noneL : List Nat := [110, 111, 110, 101]
def runV (run : List Nat) : D := if run = noneL then .non else .int ((PySem.intText? (St run)).getD 0)
def bitten (run : List Nat) : Bool := decide (run = [45]) || (decide (run.headD 0 ∈ noneL) && !decide (run = noneL))
def MS.ends (s : MS) : Bool × MS := if s.run = [] then (true, s) else if bitten s.run = true then (false, s) else (true, { s.put (runV s.run) with run := [] })
def digits : List Nat := [48, 49, 50, 51, 52, 53, 54, 55, 56, 57]
def goes (run : List Nat) (k : Nat) : Bool :=
  if run.headD 0 ∈ noneL then decide (run ++ [k] = noneL.take (run.length + 1))
  else if k ∉ digits ∨ (run.filter (· ≠ 45)).length = 12 ∨ run = [48] then false
  else decide (run ≠ [45]) || decide (k ≠ 48)
def MS.begins (s : MS) (k : Nat) : Bool × MS :=
  if s.due = false then (false, s)
  else if k = 40 then (if s.stk.length = 16 then (false, s) else (true, { s with stk := [] :: s.stk, begun := true }))
  else if k ∈ digits ∨ k = 45 ∨ k = 110 then (true, { s with run := [k], begun := false })
  else (false, s)
def MS.closes (s : MS) : Bool × MS :=
  let e := s.ends
  if e.1 = false then e
  else match e.2.stk with
    | [] => (false, e.2)
    | r :: t => if e.2.due = true ∧ e.2.begun = false then (false, e.2) else (true, { e.2 with stk := t }.put (.tup r))
def MS.parts (s : MS) : Bool × MS :=
  let e := s.ends
  if e.1 = false then e
  else if e.2.stk = [] ∨ e.2.due = true then (false, e.2)
  else (true, { e.2 with due := true })
def MS.takes (s : MS) (k : Nat) : Bool × MS :=
  if s.run ≠ [] ∧ goes s.run k = true then (true, { s with run := s.run ++ [k] })
  else if k = 41 then s.closes
  else if k = 32 then s.parts
  else if s.run = [] then s.begins k
  else (false, s)
def MS.whole (s : MS) : Bool × MS :=
  let e := s.ends
  if e.1 = false then e else (decide (e.2.stk = []) && decide (e.2.made.length = 1), e.2)
/-! ### how it stands in the store -/
def Rows (n : Nat) (S : Sto) : List Nat → List (List D) → Prop
  | [], [] => True
  | k :: ks, r :: rs => n + 3 ≤ k ∧ S[k]? = some (O.lst r) ∧ (∀ j ∈ ks, j < k) ∧ Rows n S ks rs
  | _, _ => False
structure Rep (S0 S : Sto) (s : MS) (ks : List Nat) : Prop where
  fx : Fx S0 S
  o : S[S0.length]? = some (.ins c.PlainReading (fsO (.ref (S0.length + 1)) (.str (St s.run)) (.bl s.due) (.bl s.begun) (.ref (S0.length + 2))))
  r : S[S0.length + 1]? = some (O.lst (ks.reverse.map D.ref))
  m : S[S0.length + 2]? = some (O.lst s.made)
  rows : Rows S0.length S ks s.stk
theorem Rows.len {n : Nat} {S : Sto} : ∀ {ks : List Nat} {rs : List (List D)}, Rows n S ks rs → ks.length = rs.length
  | [], [], _ => rfl
  | _ :: _, _ :: _, h => by simp [Rows.len h.2.2.2]
  | [], _ :: _, h => h.elim
  | _ :: _, [], h => h.elim
/-- other things change -/
theorem Rows.keep {n : Nat} {S S' : Sto} : ∀ {ks : List Nat} {rs : List (List D)}, Rows n S ks rs → (∀ k ∈ ks, S'[k]? = S[k]?) → Rows n S' ks rs
  | [], [], _, _ => trivial
  | k :: ks, r :: rs, h, q => ⟨h.1, by rw [q k (List.mem_cons_self ..)]; exact h.2.1, h.2.2.1, Rows.keep h.2.2.2 fun j hj => q j (List.mem_cons_of_mem _ hj)⟩
  | [], _ :: _, h, _ => h.elim
  | _ :: _, [], h, _ => h.elim
theorem Rows.ge {n : Nat} {S : Sto} : ∀ {ks : List Nat} {rs : List (List D)}, Rows n S ks rs → ∀ k ∈ ks, n + 3 ≤ k
  | [], [], _, _, hk => by simp at hk
  | k :: ks, r :: rs, h, j, hj => by
    rcases List.mem_cons.mp hj with rfl | hj
    · exact h.1
    · exact Rows.ge h.2.2.2 j hj
  | [], _ :: _, h, _, _ => h.elim
  | _ :: _, [], h, _, _ => h.elim
section
variable {c} {S0 S : Sto} {s : MS} {ks : List Nat}
theorem Rep.set_o (h : Rep c S0 S s ks) {run : List Nat} {due begun : Bool} : Rep c S0 (S.set S0.length (.ins c.PlainReading (fsO (.ref (S0.length + 1)) (.str (St run)) (.bl due) (.bl begun) (.ref (S0.length + 2))))) { s with run := run, due := due, begun := begun } ks where
  fx := h.fx.set (Nat.le_refl _) _
  o := by rw [List.getElem?_set_self (get_lt h.o)]
  r := by rw [List.getElem?_set_ne (by omega)]; exact h.r
  m := by rw [List.getElem?_set_ne (by omega)]; exact h.m
  rows := h.rows.keep fun k hk => by
    have := h.rows.ge k hk
    rw [List.getElem?_set_ne (by omega)]
theorem Rep.set_m (h : Rep c S0 S s ks) (xs : List D) : Rep c S0 (S.set (S0.length + 2) (O.lst xs)) { s with made := xs } ks where
  fx := h.fx.set (by omega) _
  o := by rw [List.getElem?_set_ne (by omega)]; exact h.o
  r := by rw [List.getElem?_set_ne (by omega)]; exact h.r
  m := by rw [List.getElem?_set_self (get_lt h.m)]
  rows := h.rows.keep fun k hk => by
    have := h.rows.ge k hk
    rw [List.getElem?_set_ne (by omega)]
theorem Rep.set_row {k : Nat} {r : List D} {t : List (List D)} (h : Rep c S0 S s (k :: ks)) (hs : s.stk = r :: t) (xs : List D) : Rep c S0 (S.set k (O.lst xs)) { s with stk := xs :: t } (k :: ks) := by
  have hr := h.rows
  rw [hs] at hr
  obtain ⟨h1, h2, h3, h4⟩ := hr
  exact {
    fx := h.fx.set (by omega) _
    o := by rw [List.getElem?_set_ne (by omega)]; exact h.o
    r := by rw [List.getElem?_set_ne (by omega)]; exact h.r
    m := by rw [List.getElem?_set_ne (by omega)]; exact h.m
    rows := ⟨h1, by rw [List.getElem?_set_self (get_lt h2)], h3, h4.keep fun j hj => by
      have := h3 j hj
      rw [List.getElem?_set_ne (by omega)]⟩ }
theorem Rep.push (h : Rep c S0 S s ks) : Rep c S0 ((S ++ [O.lst []]).set (S0.length + 1) (O.lst ((S.length :: ks).reverse.map D.ref))) { s with stk := [] :: s.stk } (S.length :: ks) := by
  have l1 := get_lt h.o
  have l2 := get_lt h.r
  have l3 := get_lt h.m
  have lk : ∀ k ∈ ks, k < S.length := by
    have key : ∀ {ks : List Nat} {rs : List (List D)}, Rows S0.length S ks rs → ∀ k ∈ ks, k < S.length := by
      intro ks
      induction ks with
      | nil => intro rs _ k hk; simp at hk
      | cons j ks ih =>
        intro rs hr k hk
        cases rs with
        | nil => exact hr.elim
        | cons r rs =>
          rcases List.mem_cons.mp hk with rfl | hk
          · exact get_lt hr.2.1
          · exact ih hr.2.2.2 k hk
    exact key h.rows
  exact {
    fx := (h.fx.push _).set (by omega) _
    o := by rw [List.getElem?_set_ne (by omega), List.getElem?_append_left l1]; exact h.o
    r := by rw [List.getElem?_set_self (by simp; omega)]
    m := by rw [List.getElem?_set_ne (by omega), List.getElem?_append_left l3]; exact h.m
    rows := ⟨by omega, by rw [List.getElem?_set_ne (by omega)]; simp, lk, h.rows.keep fun j hj => by
      have a := h.rows.ge j hj
      have b := lk j hj
      rw [List.getElem?_set_ne (by omega), List.getElem?_append_left b]⟩ }
theorem Rep.pop {k : Nat} {r : List D} {t : List (List D)} (h : Rep c S0 S s (k :: ks)) (hs : s.stk = r :: t) : Rep c S0 (S.set (S0.length + 1) (O.lst (ks.reverse.map D.ref))) { s with stk := t } ks := by
  have hr := h.rows
  rw [hs] at hr
  obtain ⟨h1, h2, h3, h4⟩ := hr
  exact {
    fx := h.fx.set (by omega) _
    o := by rw [List.getElem?_set_ne (by omega)]; exact h.o
    r := by rw [List.getElem?_set_self (get_lt h.r)]
    m := by rw [List.getElem?_set_ne (by omega)]; exact h.m
    rows := h4.keep fun j hj => by
      have := h4.ge j hj
      rw [List.getElem?_set_ne (by omega)] }
end
end Z.k67
namespace Z.k67
open PySem L2 Z TL
section
variable {c : Ad} {a b d e f : D} {S : Sto} {n : Nat} {ρ : Env} {x y : DE}
theorem attr2_i {nm1 nm2 : Str} {v1 v2 a1 b1 d1 e1 f1 : D} {fs2 : List (Str × D)} (h : S[n]? = some (.ins c.PlainReading (fsO a b d e f))) (hy : y ρ S = .ok (.tup [v1, v2]) S) (hx : ∀ S, x ρ S = .ok (.ref n) S) (hp : putD nm1 v1 (fsO a b d e f) = fsO a1 b1 d1 e1 f1) (hp2 : putD nm2 v2 (fsO a1 b1 d1 e1 f1) = fs2) : sAttr2 c.cs nm1 nm2 y x x ρ S = .nx ρ (S.set n (.ins c.PlainReading fs2)) := by
  unfold sAttr2
  rw [hy]
  simp only [R.to_ok]
  rw [hx]
  simp only [R.to_ok]
  rw [att_i c h hp]
  simp only
  rw [hx]
  simp only [R.to_ok]
  have h2 : (S.set n (.ins c.PlainReading (fsO a1 b1 d1 e1 f1)))[n]? = some (.ins c.PlainReading (fsO a1 b1 d1 e1 f1)) := by rw [List.getElem?_set_self (get_lt h)]
  rw [att_i c h2 hp2]
  simp only [List.set_set]
theorem drop_i {q : DE} {S' : Sto} {v : D} (h : q ρ S = .ok v S') : sDrop q ρ S = .nx ρ S' := by
  unfold sDrop
  rw [h]
  rfl
theorem app_i {q w : DE} {k : Nat} {xs : List D} {v : D} (hq : q ρ S = .ok (.ref k) S) (hk : S[k]? = some (O.lst xs)) (hw : w ρ S = .ok v S) (hz : xs.length < 16777216) : eBM fApp q (aC w aN) ρ S = .ok .non (S.set k (O.lst (xs ++ [v]))) := by
  unfold eBM
  rw [hq]
  simp [isL, hk, aC, aN, hw, fApp, hz]
theorem eqE_i {q : DE} {k : Nat} {xs : List D} (hq : q ρ S = .ok (.ref k) S) (hk : S[k]? = some (O.lst xs)) : Z.e2 fEqE q (eLV aN) ρ S = .ok (.bl xs.isEmpty) S := by
  rw [e2_ok hq (show eLV aN ρ S = .ok (.lst []) S from rfl)]
  simp [fEqE, lstOf, hk]
theorem tvb_i {q : DE} {S' : Sto} {k : Bool} (h : q ρ S = .ok (.bl k) S') : tVB q ρ S = .ok k S' := by
  unfold tVB
  rw [h]
  rfl
theorem tv_i {q : DE} {S' : Sto} {k : Bool} (h : q ρ S = .ok (.bl k) S') : tV q ρ S = .ok k S' := by
  unfold tV
  rw [h]
  rfl
end
section
variable {c : Ad} {S0 S : Sto} {s : MS} {ks : List Nat}
/-- room for more -/
structure Sz (s : MS) (N : Nat) : Prop where
  made : s.made.length ≤ N
  rows : ∀ r ∈ s.stk, r.length ≤ N
theorem put_i (h : Rep c S0 S s ks) (v : D) (z : Sz s 16777215) : ∃ S', F_PlainReading_put c [.ref S0.length, v] S = .ok .non S' ∧ Rep c S0 S' (s.put v) ks := by
  have hx : ∀ S', eV 0 (env0 2 [.ref S0.length, v]) S' = .ok (.ref S0.length) S' := fun _ => rfl
  have hv : ∀ S', eV 1 (env0 2 [.ref S0.length, v]) S' = .ok v S' := fun _ => rfl
  have st : sAttr2 c.cs "due" "begun" (eTup (aC (eC (.bl false)) (aC (eC (.bl false)) aN))) (eV 0) (eV 0) (env0 2 [.ref S0.length, v]) S = .nx (env0 2 [.ref S0.length, v]) (S.set S0.length (.ins c.PlainReading (fsO (.ref (S0.length + 1)) (.str (St s.run)) (.bl false) (.bl false) (.ref (S0.length + 2))))) := attr2_i h.o rfl hx (pd_due ..) (pd_begun ..)
  have h1 := h.set_o (run := s.run) (due := false) (begun := false)
  obtain ⟨S1, e1⟩ : ∃ S1, S1 = S.set S0.length (.ins c.PlainReading (fsO (.ref (S0.length + 1)) (.str (St s.run)) (.bl false) (.bl false) (.ref (S0.length + 2)))) := ⟨_, rfl⟩
  rw [← e1] at st h1
  have fr : eFld c.cs "rows" (eV 0) (env0 2 [.ref S0.length, v]) S1 = .ok (.ref (S0.length + 1)) S1 := fld_i c h1.o (hx _) (lk_rows ..)
  have fm : eFld c.cs "made" (eV 0) (env0 2 [.ref S0.length, v]) S1 = .ok (.ref (S0.length + 2)) S1 := fld_i c h1.o (hx _) (lk_made ..)
  have te := tvb_i (eqE_i fr h1.r)
  cases hs : s.stk with
  | nil =>
    have hk : ks = [] := by
      have := h.rows.len
      rw [hs] at this
      exact List.length_eq_zero_iff.mp this
    subst hk
    have te' : tVB (Z.e2 fEqE (eFld c.cs "rows" (eV 0)) (eLV aN)) (env0 2 [.ref S0.length, v]) S1 = .ok true S1 := te
    have zz := z.made
    have ap := app_i fm h1.m (hv _) (by show s.made.length < 16777216; omega)
    have h2 := h1.set_m (s.made ++ [v])
    have e : s.put v = { s with due := false, begun := false, made := s.made ++ [v] } := by simp [MS.put, hs]
    rw [e]
    refine ⟨_, ?_, h2⟩
    unfold F_PlainReading_put den_PlainReading_put runB
    rw [seq_nx st, if_t te', drop_i ap]
  | cons r t =>
    cases ks with
    | nil =>
      have := h.rows.len
      rw [hs] at this
      cases this
    | cons k ks =>
      have te' : tVB (Z.e2 fEqE (eFld c.cs "rows" (eV 0)) (eLV aN)) (env0 2 [.ref S0.length, v]) S1 = .ok false S1 := by
        rw [te]
        simp
      have hr := h1.rows
      rw [show ({ s with run := s.run, due := false, begun := false } : MS).stk = r :: t from hs] at hr
      have hrk : S1[k]? = some (O.lst r) := hr.2.1
      have zz := z.rows r (by rw [hs]; exact List.mem_cons_self ..)
      have ix : Z.e2 fIx (eFld c.cs "rows" (eV 0)) (Z.e1 fNeg (eC (.int 1))) (env0 2 [.ref S0.length, v]) S1 = .ok (.ref k) S1 := by
        rw [e2_ok fr (show Z.e1 fNeg (eC (.int 1)) (env0 2 [.ref S0.length, v]) S1 = .ok (.int (-1)) S1 from rfl)]
        have : L2.atI ((k :: ks).reverse.map D.ref) (-1) = some (.ref k) := by
          unfold L2.atI
          rw [ixN_m1 _ (by simp)]
          simp
        simp only [fIx, h1.r, this]
      have ap := app_i ix hrk (hv _) (by omega)
      have h2 := h1.set_row (s := { s with run := s.run, due := false, begun := false }) (r := r) (t := t) hs (r ++ [v])
      have e : s.put v = { s with due := false, begun := false, stk := (r ++ [v]) :: t } := by simp [MS.put, hs]
      rw [e]
      refine ⟨_, ?_, h2⟩
      unfold F_PlainReading_put den_PlainReading_put runB
      rw [seq_nx st, if_f te', drop_i ap]
end
end Z.k67
namespace Z.k67
open PySem L2 Z TL
theorem noneStr : ("none" : Str) = St noneL := by decide +kernel
theorem minusStr : ("-" : Str) = St [45] := by decide +kernel
theorem emptyStr : ("" : Str) = St [] := by decide +kernel
theorem zeroStr : ("0" : Str) = St [48] := by decide +kernel
theorem digStr : ("0123456789" : Str) = St digits := by decide +kernel
theorem openStr : ("(" : Str) = St [40] := by decide +kernel
theorem closeStr : (")" : Str) = St [41] := by decide +kernel
theorem blankStr : (" " : Str) = St [32] := by decide +kernel
theorem Ok7.nil : Ok7 [] := fun _ h => by simp at h
theorem Ok7.none : Ok7 noneL := by unfold Ok7 noneL; decide
theorem Ok7.one {k : Nat} (h : k < 128) : Ok7 [k] := fun c hc => by rw [List.mem_singleton.mp hc]; exact h
theorem Ok7.app {a b : List Nat} (h : Ok7 a) (h2 : Ok7 b) : Ok7 (a ++ b) := fun c hc => by
  rcases List.mem_append.mp hc with q | q
  · exact h c q
  · exact h2 c q
theorem Ok7.take {a : List Nat} (h : Ok7 a) (k : Nat) : Ok7 (a.take k) := fun c hc => h c (List.mem_of_mem_take hc)
theorem Ok7.drop {a : List Nat} (h : Ok7 a) (k : Nat) : Ok7 (a.drop k) := fun c hc => h c (List.mem_of_mem_drop hc)
theorem Ok7.dig {l : List Nat} (h : NumText.AllDigits l) : Ok7 l := fun c hc => by
  have := h c hc
  omega
theorem RunOk.ok7 {l : List Nat} (h : RunOk l) : Ok7 l := by
  cases h with
  | nil => exact .nil
  | word k h1 h2 => exact Ok7.none.take k
  | minus => exact .one (by decide)
  | dig l h => exact .dig h.all
  | neg l h h0 => exact Ok7.app (.one (by decide)) (.dig h.all)
theorem word_cases {k : Nat} (h1 : 1 ≤ k) (h2 : k ≤ 4) : ([110, 111, 110, 101] : List Nat).take k = [110] ∨ ([110, 111, 110, 101] : List Nat).take k = [110, 111] ∨ ([110, 111, 110, 101] : List Nat).take k = [110, 111, 110] ∨ ([110, 111, 110, 101] : List Nat).take k = noneL := by
  have : k = 1 ∨ k = 2 ∨ k = 3 ∨ k = 4 := by omega
  rcases this with rfl | rfl | rfl | rfl
  · exact .inl rfl
  · exact .inr (.inl rfl)
  · exact .inr (.inr (.inl rfl))
  · exact .inr (.inr (.inr rfl))
theorem run_int {l : List Nat} (h : RunOk l) (h0 : l ≠ []) (hb : bitten l = false) (hn : l ≠ noneL) (S : Sto) : fIntT [.str (St l)] S = .ok (runV l) S := by
  have key : ∀ i, PySem.intText? (St l) = some i → fIntT [.str (St l)] S = .ok (runV l) S := fun i hi => by
    have := h.len
    have hl : (St l).length ≤ 640 := by rw [St_len]; omega
    simp only [fIntT, hi, hl, if_true, runV, hn, if_false, Option.getD_some]
  cases h with
  | nil => exact absurd rfl h0
  | word k h1 h2 =>
    rcases word_cases h1 h2 with e | e | e | e
    · rw [e] at hb; exact absurd hb (by decide)
    · rw [e] at hb; exact absurd hb (by decide)
    · rw [e] at hb; exact absurd hb (by decide)
    · exact absurd e hn
  | minus => exact absurd hb (by decide)
  | dig l h => exact key _ (int_dig h)
  | neg l h h0 => exact key _ (int_neg h)
theorem ix0_St (a : Nat) (l : List Nat) (S : Sto) (h : l.length < 16777216) : fIx (.str (St (a :: l))) (.int 0) S = .ok (.str (St [a])) S := by
  have e : (St (a :: l)).cps.toList = a :: l := rfl
  have e2 : (St (a :: l)).length ≤ 16777216 := by rw [St_len]; simp; omega
  simp only [fIx, e2, if_true, e, atI_0]
  rfl
section
variable {c : Ad} {a b d e f : D} {S : Sto} {n : Nat} {ρ : Env} {x y : DE}
theorem lk_no {nm : Str} (h1 : (nm == "rows") = false) (h2 : (nm == "run") = false) (h3 : (nm == "due") = false) (h4 : (nm == "begun") = false) (h5 : (nm == "made") = false) : List.lookup nm (fsO a b d e f) = none := by
  simp [fsO, List.lookup, h1, h2, h3, h4, h5]
theorem mt0_i {nm : Str} {F : List D → Sto → R D} (h : S[n]? = some (.ins c.PlainReading (fsO a b d e f))) (hx : x ρ S = .ok (.ref n) S) (hl : List.lookup nm (fsO a b d e f) = none) : eMt c.cs nm c.PlainReading 1 F [] x aN ρ S = F [.ref n] S := by
  unfold eMt
  rw [hx]
  simp [h, hl, aN]
theorem mt1_i {nm : Str} {F : List D → Sto → R D} {v : D} (h : S[n]? = some (.ins c.PlainReading (fsO a b d e f))) (hx : x ρ S = .ok (.ref n) S) (hl : List.lookup nm (fsO a b d e f) = none) (hy : y ρ S = .ok v S) : eMt c.cs nm c.PlainReading 2 F [] x (aC y aN) ρ S = F [.ref n, v] S := by
  unfold eMt
  rw [hx]
  simp [h, hl, aN, aC, hy]
end
theorem and_i {t u : DT} {ρ : Env} {S S1 S2 : Sto} {p q : Bool} (h1 : t ρ S = .ok p S1) (h2 : p = true → u ρ S1 = .ok q S2) (h3 : p = false → q = false ∧ S2 = S1) : tAnd t u ρ S = .ok q S2 := by
  unfold tAnd
  rw [h1]
  cases p with
  | true => simpa using h2 rfl
  | false =>
    obtain ⟨rfl, rfl⟩ := h3 rfl
    simp
section
variable {c : Ad} {S0 S : Sto} {s : MS} {ks : List Nat}
theorem ends_i (h : Rep c S0 S s ks) (ok : RunOk s.run) (z : Sz s 16777215) : ∃ S', F_PlainReading_ends_run c [.ref S0.length] S = .ok (.bl s.ends.1) S' ∧ Rep c S0 S' s.ends.2 ks := by
  obtain ⟨ρ, hρ⟩ : ∃ ρ, ρ = env0 1 [.ref S0.length] := ⟨_, rfl⟩
  have hx : ∀ S', eV 0 ρ S' = .ok (.ref S0.length) S' := fun _ => by rw [hρ]; rfl
  have fr : eFld c.cs "run" (eV 0) ρ S = .ok (.str (St s.run)) S := fld_i c h.o (hx _) (lk_run ..)
  have o7 := ok.ok7
  have t1 : tVB (Z.e2 fEq (eFld c.cs "run" (eV 0)) (eC (.str ""))) ρ S = .ok (decide (s.run = [])) S := tvb_i ((e2_ok fr rfl).trans (by rw [emptyStr]; exact eq_St _ _ _ o7 .nil))
  unfold F_PlainReading_ends_run den_PlainReading_ends_run runB
  rw [← hρ]
  by_cases h0 : s.run = []
  · rw [decide_eq_true h0] at t1
    have e : s.ends = (true, s) := by simp [MS.ends, h0]
    rw [e]
    refine ⟨S, ?_, h⟩
    have : sIf (tVB (Z.e2 fEq (eFld c.cs "run" (eV 0)) (eC (.str "")))) (sRet (eC (.bl true))) sNx ρ S = .rt (.bl true) S := by
      rw [if_t t1]
      rfl
    rw [seq_rt this]
  · rw [decide_eq_false h0] at t1
    rw [seq_skip t1]
    have t2 : tVB (Z.e2 fEq (eFld c.cs "run" (eV 0)) (eC (.str "-"))) ρ S = .ok (decide (s.run = [45])) S := tvb_i ((e2_ok fr rfl).trans (by rw [minusStr]; exact eq_St _ _ _ o7 (.one (by decide))))
    have t4 : tVB (Z.e2 fNe (eFld c.cs "run" (eV 0)) (eC (.str "none"))) ρ S = .ok (!decide (s.run = noneL)) S := tvb_i ((e2_ok fr rfl).trans (by rw [noneStr]; exact ne_St _ _ _ o7 .none))
    have t3 : tVB (Z.e2 fInC (Z.e2 fIx (eFld c.cs "run" (eV 0)) (eC (.int 0))) (eC (.str "none"))) ρ S = .ok (decide (s.run.headD 0 ∈ noneL)) S := by
      have hl := ok.len
      cases hr : s.run with
      | nil => exact absurd hr h0
      | cons a l =>
        rw [hr] at fr hl
        simp at hl
        have i1 : Z.e2 fIx (eFld c.cs "run" (eV 0)) (eC (.int 0)) ρ S = .ok (.str (St [a])) S := (e2_ok fr rfl).trans (ix0_St a l S (by omega))
        exact tvb_i ((e2_ok i1 rfl).trans (by rw [noneStr]; exact inC_St _ _ _))
    have t5 : tOr (tVB (Z.e2 fEq (eFld c.cs "run" (eV 0)) (eC (.str "-")))) (tAnd (tVB (Z.e2 fInC (Z.e2 fIx (eFld c.cs "run" (eV 0)) (eC (.int 0))) (eC (.str "none")))) (tVB (Z.e2 fNe (eFld c.cs "run" (eV 0)) (eC (.str "none"))))) ρ S = .ok (bitten s.run) S := by
      unfold bitten
      unfold tOr tAnd
      rw [t2]
      simp only [R.bind_ok]
      by_cases q : s.run = [45]
      · simp [q]
      · rw [t3]
        simp only [R.bind_ok, q, decide_false, Bool.false_eq_true, if_false, Bool.false_or]
        by_cases q2 : s.run.headD 0 ∈ noneL
        · simp only [q2, decide_true, if_true, t4, Bool.true_and]
        · simp only [q2, decide_false, Bool.false_eq_true, if_false, Bool.false_and]
    cases hb : bitten s.run with
    | true =>
      rw [hb] at t5
      have e : s.ends = (false, s) := by simp [MS.ends, h0, hb]
      rw [e]
      refine ⟨S, ?_, h⟩
      have : sIf (tOr (tVB (Z.e2 fEq (eFld c.cs "run" (eV 0)) (eC (.str "-")))) (tAnd (tVB (Z.e2 fInC (Z.e2 fIx (eFld c.cs "run" (eV 0)) (eC (.int 0))) (eC (.str "none")))) (tVB (Z.e2 fNe (eFld c.cs "run" (eV 0)) (eC (.str "none")))))) (sRet (eC (.bl false))) sNx ρ S = .rt (.bl false) S := by
        rw [if_t t5]
        rfl
      rw [seq_rt this]
    | false =>
      rw [hb] at t5
      rw [seq_skip t5]
      have e : s.ends = (true, { s.put (runV s.run) with run := [] }) := by simp [MS.ends, h0, hb]
      rw [e]
      have t6 : tVB (Z.e2 fEq (eFld c.cs "run" (eV 0)) (eC (.str "none"))) ρ S = .ok (decide (s.run = noneL)) S := tvb_i ((e2_ok fr rfl).trans (by rw [noneStr]; exact eq_St _ _ _ o7 .none))
      have v : eIf (tVB (Z.e2 fEq (eFld c.cs "run" (eV 0)) (eC (.str "none")))) (eC .non) (eCall fIntT (aC (eFld c.cs "run" (eV 0)) aN)) ρ S = .ok (runV s.run) S := by
        unfold eIf
        rw [t6]
        simp only [R.bind_ok]
        by_cases q : s.run = noneL
        · simp [q, eC, runV]
        · simp only [q, decide_false, Bool.false_eq_true, if_false]
          exact (call1_ok fr).trans (run_int ok h0 hb q S)
      obtain ⟨S1, p1, h1⟩ := put_i h (runV s.run) z
      have m : eMt c.cs "put" c.PlainReading 2 (F_PlainReading_put c) (dl_PlainReading_put.drop 0) (eV 0) (aC (eIf (tVB (Z.e2 fEq (eFld c.cs "run" (eV 0)) (eC (.str "none")))) (eC .non) (eCall fIntT (aC (eFld c.cs "run" (eV 0)) aN))) aN) ρ S = .ok .non S1 := (mt1_i (F := F_PlainReading_put c) h.o (hx _) (lk_no (by decide +kernel) (by decide +kernel) (by decide +kernel) (by decide +kernel) (by decide +kernel)) v).trans p1
      rw [seq_drop m]
      have at1 : sAttr c.cs "run" (eC (.str "")) (eV 0) ρ S1 = .nx ρ _ := attr_i c h1.o rfl (hx _) (pd_run ..)
      rw [seq_nx at1]
      have h2 := h1.set_o (run := []) (due := (s.put (runV s.run)).due) (begun := (s.put (runV s.run)).begun)
      rw [← emptyStr] at h2
      exact ⟨_, rfl, h2⟩
end
end Z.k67
namespace Z.k67
open PySem L2 Z TL
theorem repl_filter (l : List Nat) : StrLaws.replL [45] [] l = l.filter (· ≠ 45) := by
  induction l with
  | nil => exact StrLaws.replL_nil
  | cons a l ih =>
    by_cases h : a = 45
    · subst h
      rw [StrLaws.replL_hit (by simp) rfl]
      simpa using ih
    · rw [StrLaws.replL_miss (by simp [h]), ih]
      simp [h]
theorem repl_St (l : List Nat) (S : Sto) (h : l.length ≤ 16777216) : fRepl "-" "" (.str (St l)) S = .ok (.str (St (l.filter (· ≠ 45)))) S := by
  have e : Txt.replace (St l) ("-" : Str) ("" : Str) = St (l.filter (· ≠ 45)) := by
    refine St_eq ?_
    have := StrLaws.replace_list (x := St l) (y := ("-" : Str)) (z := ("" : Str)) (by decide +kernel)
    rw [show (("-" : Str)).cps.toList = [45] from by decide +kernel, show (("" : Str)).cps.toList = [] from by decide +kernel] at this
    rw [← repl_filter]
    exact this
  have e0 : (("" : Str)).length = 0 := by decide +kernel
  have e1 : (St l).length + ((St l).length + 1) * (("" : Str)).length ≤ 16777216 := by rw [e0, St_len]; omega
  simp only [fRepl, e1, if_true, e]
theorem sl_none (k : Nat) (h : k ≤ 20) (S : Sto) (ρ : Env) (y : DE) (hy : y ρ S = .ok (.int (k : Nat)) S) : eSl (eC (.str "none")) oN (oS y) ρ S = .ok (.str (St (noneL.take k))) S := by
  have e : cutS ("none" : Str) none (some ((k : Nat) : Int)) = St (noneL.take k) := by
    have key : ∀ k : Fin 21, cutS ("none" : Str) none (some ((k.val : Nat) : Int)) = St (noneL.take k.val) := by decide +kernel
    exact key ⟨k, by omega⟩
  have e2 : (("none" : Str)).length ≤ 16777216 := by decide +kernel
  simp [eSl, eC, oN, oS, hy, fSl, e2, e]
section
variable {c : Ad} {S0 S : Sto} {s : MS} {ks : List Nat}
theorem goes_i (h : Rep c S0 S s ks) (ok : RunOk s.run) (h0 : s.run ≠ []) {k : Nat} (hk : k < 128) : F_PlainReading_goes_on c [.ref S0.length, .str (St [k])] S = .ok (.bl (goes s.run k)) S := by
  obtain ⟨ρ, hρ⟩ : ∃ ρ, ρ = env0 2 [.ref S0.length, .str (St [k])] := ⟨_, rfl⟩
  have hx : ∀ S', eV 0 ρ S' = .ok (.ref S0.length) S' := fun _ => by rw [hρ]; rfl
  have hv : ∀ S', eV 1 ρ S' = .ok (.str (St [k])) S' := fun _ => by rw [hρ]; rfl
  have fr : eFld c.cs "run" (eV 0) ρ S = .ok (.str (St s.run)) S := fld_i c h.o (hx _) (lk_run ..)
  have o7 := ok.ok7
  have hl := ok.len
  have t1 : tVB (Z.e2 fInC (Z.e2 fIx (eFld c.cs "run" (eV 0)) (eC (.int 0))) (eC (.str "none"))) ρ S = .ok (decide (s.run.headD 0 ∈ noneL)) S := by
    cases hr : s.run with
    | nil => exact absurd hr h0
    | cons a l =>
      rw [hr] at fr hl
      simp at hl
      have i1 : Z.e2 fIx (eFld c.cs "run" (eV 0)) (eC (.int 0)) ρ S = .ok (.str (St [a])) S := (e2_ok fr rfl).trans (ix0_St a l S (by omega))
      exact tvb_i ((e2_ok i1 rfl).trans (by rw [noneStr]; exact inC_St _ _ _))
  unfold F_PlainReading_goes_on den_PlainReading_goes_on runB
  rw [← hρ]
  by_cases hn : s.run.headD 0 ∈ noneL
  · rw [decide_eq_true hn] at t1
    have q1 : Z.e2 fPlus (eFld c.cs "run" (eV 0)) (eV 1) ρ S = .ok (.str (St (s.run ++ [k]))) S := (e2_ok fr (hv _)).trans (plus_St _ _ _ (by simp; omega))
    have q2 : Z.e2 fPlus (eCall fLen (aC (eFld c.cs "run" (eV 0)) aN)) (eC (.int 1)) ρ S = .ok (.int ((s.run.length + 1 : Nat))) S := by
      have : eCall fLen (aC (eFld c.cs "run" (eV 0)) aN) ρ S = .ok (.int (s.run.length : Nat)) S := (call1_ok fr).trans (by
        have e : s.run.length ≤ 16777216 := by omega
        simp only [fLen, St_len, e, if_true])
      rw [e2_ok this (show eC (.int 1) ρ S = .ok (.int 1) S from rfl)]
      simp [fPlus]
    have q3 := sl_none (s.run.length + 1) (by omega) S ρ _ q2
    have q4 : Z.e2 fEq (Z.e2 fPlus (eFld c.cs "run" (eV 0)) (eV 1)) (eSl (eC (.str "none")) oN (oS (Z.e2 fPlus (eCall fLen (aC (eFld c.cs "run" (eV 0)) aN)) (eC (.int 1))))) ρ S = .ok (.bl (goes s.run k)) S := by
      rw [e2_ok q1 q3, eq_St _ _ _ (o7.app (.one hk)) (Ok7.none.take _)]
      simp only [goes, hn, if_true]
    have : sIf (tVB (Z.e2 fInC (Z.e2 fIx (eFld c.cs "run" (eV 0)) (eC (.int 0))) (eC (.str "none")))) (sRet (Z.e2 fEq (Z.e2 fPlus (eFld c.cs "run" (eV 0)) (eV 1)) (eSl (eC (.str "none")) oN (oS (Z.e2 fPlus (eCall fLen (aC (eFld c.cs "run" (eV 0)) aN)) (eC (.int 1))))))) sNx ρ S = .rt (.bl (goes s.run k)) S := by
      rw [if_t t1]
      exact ret_rt q4
    rw [seq_rt this]
  · rw [decide_eq_false hn] at t1
    rw [seq_skip t1]
    have p1 : tVB (Z.e2 fNotInC (eV 1) (eC (.str "0123456789"))) ρ S = .ok (!decide (k ∈ digits)) S := tvb_i ((e2_ok (hv _) rfl).trans (by rw [digStr]; exact notinC_St _ _ _))
    have p2 : tVB (Z.e2 fEq (Z.e1 fLenS (Z.e1 (fRepl "-" "") (eFld c.cs "run" (eV 0)))) (eC (.int 12))) ρ S = .ok (decide ((s.run.filter (· ≠ 45)).length = 12)) S := by
      have r1 : Z.e1 (fRepl "-" "") (eFld c.cs "run" (eV 0)) ρ S = .ok (.str (St (s.run.filter (· ≠ 45)))) S := (e1_ok fr).trans (repl_St _ _ (by omega))
      have fl : (s.run.filter (· ≠ 45)).length ≤ s.run.length := List.length_filter_le ..
      have r2 : Z.e1 fLenS (Z.e1 (fRepl "-" "") (eFld c.cs "run" (eV 0))) ρ S = .ok (.int ((s.run.filter (· ≠ 45)).length : Nat)) S := (e1_ok r1).trans (by
        have e : (s.run.filter (· ≠ 45)).length ≤ 16777216 := by omega
        simp only [fLenS, St_len, e, if_true])
      refine tvb_i ((e2_ok r2 rfl).trans ?_)
      simp only [fEq, eqD_int, rB]
      have e : decide ((((s.run.filter (· ≠ 45)).length : Nat) : Int) = 12) = decide ((s.run.filter (· ≠ 45)).length = 12) := by
        rw [decide_eq_decide]
        omega
      rw [e]
    have p3 : tVB (Z.e2 fEq (eFld c.cs "run" (eV 0)) (eC (.str "0"))) ρ S = .ok (decide (s.run = [48])) S := tvb_i ((e2_ok fr rfl).trans (by rw [zeroStr]; exact eq_St _ _ _ o7 (.one (by decide))))
    have p4 : tOr (tVB (Z.e2 fNotInC (eV 1) (eC (.str "0123456789")))) (tOr (tVB (Z.e2 fEq (Z.e1 fLenS (Z.e1 (fRepl "-" "") (eFld c.cs "run" (eV 0)))) (eC (.int 12)))) (tVB (Z.e2 fEq (eFld c.cs "run" (eV 0)) (eC (.str "0"))))) ρ S = .ok (decide (k ∉ digits ∨ (s.run.filter (· ≠ 45)).length = 12 ∨ s.run = [48])) S := by
      unfold tOr
      rw [p1]
      simp only [R.bind_ok]
      by_cases q1 : k ∈ digits
      · simp only [q1, decide_true, Bool.not_true, Bool.false_eq_true, if_false]
        rw [p2]
        simp only [R.bind_ok]
        by_cases q2 : (s.run.filter (· ≠ 45)).length = 12
        · simp only [q2, decide_true, if_true, true_or, or_true]
        · simp only [q2, decide_false, Bool.false_eq_true, if_false, p3, false_or, not_true]
      · simp [q1]
    by_cases hb : k ∉ digits ∨ (s.run.filter (· ≠ 45)).length = 12 ∨ s.run = [48]
    · rw [decide_eq_true hb] at p4
      have : sIf (tOr (tVB (Z.e2 fNotInC (eV 1) (eC (.str "0123456789")))) (tOr (tVB (Z.e2 fEq (Z.e1 fLenS (Z.e1 (fRepl "-" "") (eFld c.cs "run" (eV 0)))) (eC (.int 12)))) (tVB (Z.e2 fEq (eFld c.cs "run" (eV 0)) (eC (.str "0")))))) (sRet (eC (.bl false))) sNx ρ S = .rt (.bl false) S := by
        rw [if_t p4]
        rfl
      rw [seq_rt this]
      simp only [goes, hn, if_false, hb, if_true]
    · rw [decide_eq_false hb] at p4
      rw [seq_skip p4]
      have u1 : Z.e2 fNe (eFld c.cs "run" (eV 0)) (eC (.str "-")) ρ S = .ok (.bl (!decide (s.run = [45]))) S := (e2_ok fr rfl).trans (by rw [minusStr]; exact ne_St _ _ _ o7 (.one (by decide)))
      have u2 : Z.e2 fNe (eV 1) (eC (.str "0")) ρ S = .ok (.bl (!decide (k = 48))) S := (e2_ok (hv _) rfl).trans (by
        rw [zeroStr, ne_St _ _ _ (.one hk) (.one (by decide))]
        by_cases q : k = 48
        · subst q; simp
        · simp [q])
      have u3 : eOr (Z.e2 fNe (eFld c.cs "run" (eV 0)) (eC (.str "-"))) (Z.e2 fNe (eV 1) (eC (.str "0"))) ρ S = .ok (.bl (goes s.run k)) S := by
        unfold eOr
        rw [u1]
        simp only [R.bind_ok, tru, goes, hn, if_false, hb]
        by_cases q : s.run = [45]
        · simp only [q, decide_true, Bool.not_true, Bool.false_eq_true, if_false, u2]
          simp
        · simp [q]
      rw [ret_rt u3]
end
end Z.k67
namespace Z.k67
open PySem L2 Z TL
theorem Sz.put {s : MS} {N : Nat} (h : Sz s N) (v : D) : Sz (s.put v) (N + 1) := by
  have a := h.made
  have b := h.rows
  unfold MS.put
  split
  · refine ⟨by simp; omega, fun r hr => ?_⟩
    have := b r hr
    omega
  · rename_i r t hs
    refine ⟨by show s.made.length ≤ N + 1; omega, fun q hq => ?_⟩
    rcases List.mem_cons.mp hq with rfl | hq
    · have := b r (by rw [hs]; exact List.mem_cons_self ..)
      simp
      omega
    · have := b q (by rw [hs]; exact List.mem_cons_of_mem _ hq)
      omega
theorem Sz.mono {s : MS} {N M : Nat} (h : Sz s N) (hN : N ≤ M) : Sz s M := ⟨Nat.le_trans h.made hN, fun r hr => Nat.le_trans (h.rows r hr) hN⟩
theorem Sz.ends {s : MS} {N : Nat} (h : Sz s N) : Sz s.ends.2 (N + 1) := by
  unfold MS.ends
  split
  · exact h.mono (by omega)
  · split
    · exact h.mono (by omega)
    · exact ⟨(h.put _).made, (h.put _).rows⟩
theorem Sz.closes {s : MS} {N : Nat} (h : Sz s N) : Sz s.closes.2 (N + 2) := by
  have e := h.ends
  unfold MS.closes
  simp only
  split
  · exact e.mono (by omega)
  · split
    · exact e.mono (by omega)
    · rename_i r t hs
      split
      · exact e.mono (by omega)
      · exact (show Sz { s.ends.2 with stk := t } (N + 1) from ⟨e.made, fun q hq => e.rows q (by rw [hs]; exact List.mem_cons_of_mem _ hq)⟩).put _
theorem Sz.takes {s : MS} {N : Nat} (h : Sz s N) (k : Nat) : Sz (s.takes k).2 (N + 2) := by
  unfold MS.takes
  split
  · exact ⟨Nat.le_trans h.made (by omega), fun r hr => Nat.le_trans (h.rows r hr) (by omega)⟩
  · split
    · exact h.closes
    · split
      · have e := h.ends
        unfold MS.parts
        simp only
        split
        · exact e.mono (by omega)
        · split
          · exact e.mono (by omega)
          · exact ⟨Nat.le_trans e.made (by omega), fun r hr => Nat.le_trans (e.rows r hr) (by omega)⟩
      · split
        · unfold MS.begins
          split
          · exact h.mono (by omega)
          · split
            · split
              · exact h.mono (by omega)
              · refine ⟨Nat.le_trans h.made (by omega), fun r hr => ?_⟩
                rcases List.mem_cons.mp hr with rfl | hr
                · simp
                · exact Nat.le_trans (h.rows r hr) (by omega)
            · split
              · exact ⟨Nat.le_trans h.made (by omega), fun r hr => Nat.le_trans (h.rows r hr) (by omega)⟩
              · exact h.mono (by omega)
        · exact h.mono (by omega)
section
variable {c : Ad} {S0 S : Sto} {s : MS} {ks : List Nat}
theorem begins_i (h : Rep c S0 S s ks) (h16 : s.stk.length ≤ 16) {k : Nat} (hk : k < 128) : ∃ S' ks', F_PlainReading_begins c [.ref S0.length, .str (St [k])] S = .ok (.bl (s.begins k).1) S' ∧ Rep c S0 S' (s.begins k).2 ks' := by
  obtain ⟨ρ, hρ⟩ : ∃ ρ, ρ = env0 2 [.ref S0.length, .str (St [k])] := ⟨_, rfl⟩
  have hx : ∀ S', eV 0 ρ S' = .ok (.ref S0.length) S' := fun _ => by rw [hρ]; rfl
  have hv : ∀ S', eV 1 ρ S' = .ok (.str (St [k])) S' := fun _ => by rw [hρ]; rfl
  have fd : eFld c.cs "due" (eV 0) ρ S = .ok (.bl s.due) S := fld_i c h.o (hx _) (lk_due ..)
  have fr : eFld c.cs "rows" (eV 0) ρ S = .ok (.ref (S0.length + 1)) S := fld_i c h.o (hx _) (lk_rows ..)
  have t1 : tNot (tV (eFld c.cs "due" (eV 0))) ρ S = .ok (!s.due) S := not_i (tv_i fd)
  have eqk : ∀ (j : Nat) (t : Str), t = St [j] → j < 128 → tVB (Z.e2 fEq (eV 1) (eC (.str t))) ρ S = .ok (decide (k = j)) S := fun j t ht hj => tvb_i ((e2_ok (hv _) rfl).trans (by
    rw [ht, eq_St _ _ _ (.one hk) (.one hj)]
    by_cases q : k = j
    · subst q; simp
    · simp [q]))
  unfold F_PlainReading_begins den_PlainReading_begins runB
  rw [← hρ]
  by_cases hd : s.due = false
  · rw [hd] at t1
    have e : s.begins k = (false, s) := by simp [MS.begins, hd]
    rw [e]
    refine ⟨S, ks, ?_, h⟩
    have : sIf (tNot (tV (eFld c.cs "due" (eV 0)))) (sRet (eC (.bl false))) sNx ρ S = .rt (.bl false) S := by
      rw [if_t t1]
      rfl
    rw [seq_rt this]
  · have hd' : s.due = true := by simpa using hd
    rw [hd'] at t1
    rw [seq_skip t1]
    have t2 := eqk 40 "(" openStr (by decide)
    by_cases h40 : k = 40
    · rw [decide_eq_true h40] at t2
      have tl : tVB (Z.e2 fEq (eCall fLen (aC (eFld c.cs "rows" (eV 0)) aN)) (eC (.int 16))) ρ S = .ok (decide (s.stk.length = 16)) S := by
        have l1 : eCall fLen (aC (eFld c.cs "rows" (eV 0)) aN) ρ S = .ok (.int (s.stk.length : Nat)) S := (call1_ok fr).trans (by
          simp [fLen, seqOf, h.r, lstOf, h.rows.len])
        refine tvb_i ((e2_ok l1 rfl).trans ?_)
        simp only [fEq, eqD_int, rB]
        have e : decide (((s.stk.length : Nat) : Int) = 16) = decide (s.stk.length = 16) := by
          rw [decide_eq_decide]
          omega
        rw [e]
      by_cases h6 : s.stk.length = 16
      · rw [decide_eq_true h6] at tl
        have e : s.begins k = (false, s) := by simp [MS.begins, hd', h40, h6]
        rw [e]
        refine ⟨S, ks, ?_, h⟩
        have q : sIf (tVB (Z.e2 fEq (eCall fLen (aC (eFld c.cs "rows" (eV 0)) aN)) (eC (.int 16)))) (sRet (eC (.bl false))) sNx ρ S = .rt (.bl false) S := by
          rw [if_t tl]
          rfl
        rw [seq_rt (a := sIf _ _ sNx) ((if_t t2).trans (seq_rt q))]
      · rw [decide_eq_false h6] at tl
        have e : s.begins k = (true, { s with stk := [] :: s.stk, begun := true }) := by simp [MS.begins, hd', h40, h6]
        rw [e]
        have p := h.push
        have ap : eBM fApp (eFld c.cs "rows" (eV 0)) (aC (eLN aN) aN) ρ S = .ok .non ((S ++ [O.lst []]).set (S0.length + 1) (O.lst ((S.length :: ks).reverse.map D.ref))) := by
          have l2 := get_lt h.r
          have g : (S ++ [O.lst []])[S0.length + 1]? = some (O.lst (ks.reverse.map D.ref)) := by rw [List.getElem?_append_left l2]; exact h.r
          have hl : (ks.reverse.map D.ref).length < 16777216 := by
            have := h.rows.len
            simp
            omega
          unfold eBM
          rw [fr]
          simp only [R.bind_ok, isL, h.r, if_true, aC, aN, eLN, fApp, g, hl]
          simp
        have h2 := p.set_o (run := s.run) (due := s.due) (begun := true)
        have at1 : sAttr c.cs "begun" (eC (.bl true)) (eV 0) ρ _ = .nx ρ _ := attr_i c p.o rfl (hx _) (pd_begun ..)
        refine ⟨_, _, ?_, h2⟩
        rw [seq_rt (a := sIf _ _ sNx) (d := .bl true) ((if_t t2).trans ((seq_skip tl).trans ((seq_drop ap).trans ((seq_nx at1).trans rfl))))]
    · rw [decide_eq_false h40] at t2
      rw [seq_skip t2]
      have t3 : tVB (Z.e2 fInC (eV 1) (eC (.str "0123456789"))) ρ S = .ok (decide (k ∈ digits)) S := tvb_i ((e2_ok (hv _) rfl).trans (by rw [digStr]; exact inC_St _ _ _))
      have t4 := eqk 45 "-" minusStr (by decide)
      have t5 : tVB (Z.e2 fEq (eV 1) (Z.e2 fIx (eC (.str "none")) (eC (.int 0)))) ρ S = .ok (decide (k = 110)) S := by
        have i1 : Z.e2 fIx (eC (.str "none")) (eC (.int 0)) ρ S = .ok (.str (St [110])) S := (e2_ok (show eC (.str "none") ρ S = .ok (.str "none") S from rfl) (show eC (.int 0) ρ S = .ok (.int 0) S from rfl)).trans (by rw [noneStr]; exact ix0_St 110 [111, 110, 101] S (by simp))
        refine tvb_i ((e2_ok (hv _) i1).trans ?_)
        rw [eq_St _ _ _ (.one hk) (.one (by decide))]
        by_cases q : k = 110
        · subst q; simp
        · simp [q]
      have t6 : tOr (tVB (Z.e2 fInC (eV 1) (eC (.str "0123456789")))) (tOr (tVB (Z.e2 fEq (eV 1) (eC (.str "-")))) (tVB (Z.e2 fEq (eV 1) (Z.e2 fIx (eC (.str "none")) (eC (.int 0)))))) ρ S = .ok (decide (k ∈ digits ∨ k = 45 ∨ k = 110)) S := by
        unfold tOr
        rw [t3]
        simp only [R.bind_ok]
        by_cases q1 : k ∈ digits
        · simp only [q1, decide_true, if_true, true_or]
        · simp only [q1, decide_false, Bool.false_eq_true, if_false, false_or]
          rw [t4]
          simp only [R.bind_ok]
          by_cases q2 : k = 45
          · simp only [q2, decide_true, if_true, true_or]
          · simp only [q2, decide_false, Bool.false_eq_true, if_false, false_or, t5]
      by_cases hb : k ∈ digits ∨ k = 45 ∨ k = 110
      · rw [decide_eq_true hb] at t6
        have e : s.begins k = (true, { s with run := [k], begun := false }) := by simp only [MS.begins, hd', h40, if_false, hb, if_true, Bool.true_eq_false]
        rw [e]
        have at2 : sAttr2 c.cs "run" "begun" (eTup (aC (eV 1) (aC (eC (.bl false)) aN))) (eV 0) (eV 0) ρ S = .nx ρ _ := attr2_i h.o (etup_ok (acs (hv _) (acs rfl acn))) hx (pd_run ..) (pd_begun ..)
        have h2 := h.set_o (run := [k]) (due := s.due) (begun := false)
        refine ⟨_, _, ?_, h2⟩
        rw [seq_rt (a := sIf _ _ sNx) (d := .bl true) ((if_t t6).trans ((seq_nx at2).trans rfl))]
      · rw [decide_eq_false hb] at t6
        have e : s.begins k = (false, s) := by simp only [MS.begins, hd', h40, if_false, hb, Bool.true_eq_false]
        rw [e]
        refine ⟨S, ks, ?_, h⟩
        rw [seq_skip t6]
        rfl
end
end Z.k67
namespace Z.k67
open PySem L2 Z TL
section
variable {c : Ad} {S0 S : Sto} {s : MS} {ks : List Nat}
theorem lkn {a b d e f : D} : List.lookup ("ends_run" : Str) (fsO a b d e f) = none ∧ List.lookup ("put" : Str) (fsO a b d e f) = none ∧ List.lookup ("goes_on" : Str) (fsO a b d e f) = none ∧ List.lookup ("begins" : Str) (fsO a b d e f) = none ∧ List.lookup ("closes" : Str) (fsO a b d e f) = none ∧ List.lookup ("parts" : Str) (fsO a b d e f) = none ∧ List.lookup ("takes" : Str) (fsO a b d e f) = none ∧ List.lookup ("is_whole" : Str) (fsO a b d e f) = none := by
  refine ⟨?_, ?_, ?_, ?_, ?_, ?_, ?_, ?_⟩ <;> exact lk_no (by decide +kernel) (by decide +kernel) (by decide +kernel) (by decide +kernel) (by decide +kernel)
theorem closes_i (h : Rep c S0 S s ks) (ok : RunOk s.run) (z : Sz s 16777214) : ∃ S' ks', F_PlainReading_closes c [.ref S0.length] S = .ok (.bl s.closes.1) S' ∧ Rep c S0 S' s.closes.2 ks' := by
  obtain ⟨ρ, hρ⟩ : ∃ ρ, ρ = env0 2 [.ref S0.length] := ⟨_, rfl⟩
  have hx : ∀ S', eV 0 ρ S' = .ok (.ref S0.length) S' := fun _ => by rw [hρ]; rfl
  have hlen : ρ.length = 2 := by rw [hρ]; rfl
  obtain ⟨S1, f1, h1⟩ := ends_i h ok (z.mono (by omega))
  have ze := z.ends
  obtain ⟨E, hE⟩ : ∃ E, E = s.ends := ⟨_, rfl⟩
  rw [← hE] at f1 h1 ze
  have m : eMt c.cs "ends_run" c.PlainReading 1 (F_PlainReading_ends_run c) (dl_PlainReading_ends_run.drop 0) (eV 0) aN ρ S = .ok (.bl E.1) S1 := (mt0_i (F := F_PlainReading_ends_run c) h.o (hx _) lkn.1).trans f1
  have t1 : tNot (tV (eMt c.cs "ends_run" c.PlainReading 1 (F_PlainReading_ends_run c) (dl_PlainReading_ends_run.drop 0) (eV 0) aN)) ρ S = .ok (!E.1) S1 := not_i (tv_i m)
  have fr : eFld c.cs "rows" (eV 0) ρ S1 = .ok (.ref (S0.length + 1)) S1 := fld_i c h1.o (hx _) (lk_rows ..)
  have fd : eFld c.cs "due" (eV 0) ρ S1 = .ok (.bl E.2.due) S1 := fld_i c h1.o (hx _) (lk_due ..)
  have fb : eFld c.cs "begun" (eV 0) ρ S1 = .ok (.bl E.2.begun) S1 := fld_i c h1.o (hx _) (lk_begun ..)
  have te := tvb_i (eqE_i fr h1.r)
  have tdb : tAnd (tV (eFld c.cs "due" (eV 0))) (tNot (tV (eFld c.cs "begun" (eV 0)))) ρ S1 = .ok (E.2.due && !E.2.begun) S1 := by
    unfold tAnd
    rw [tv_i fd]
    simp only [R.bind_ok]
    cases E.2.due
    · rfl
    · simp only [if_true, Bool.true_and]
      exact not_i (tv_i fb)
  unfold F_PlainReading_closes den_PlainReading_closes runB
  rw [← hρ]
  have hC : s.closes = (if E.1 = false then E else match E.2.stk with
    | [] => (false, E.2)
    | r :: t => if E.2.due = true ∧ E.2.begun = false then (false, E.2) else (true, { E.2 with stk := t }.put (.tup r))) := by rw [hE]; rfl
  have stop : ∀ {T : DT}, T ρ S = .ok true S1 → (sSeq (sIf T (sRet (eC (.bl false))) sNx) (sSeq (sSet 1 (eCall fTuple (aC (eBM fPop (eFld c.cs "rows" (eV 0)) aN) aN))) (sSeq (sDrop (eMt c.cs "put" c.PlainReading 2 (F_PlainReading_put c) (dl_PlainReading_put.drop 0) (eV 0) (aC (eV 1) aN))) (sRet (eC (.bl true))))) ρ S) = .rt (.bl false) S1 := fun {T} hT => seq_rt ((if_t hT).trans rfl)
  cases he : E.1 with
  | false =>
    rw [he] at t1
    rw [hC, he, if_pos rfl]
    refine ⟨S1, ks, ?_, h1⟩
    rw [stop (or_t t1), he]
  | true =>
    rw [he] at t1
    rw [hC, he, if_neg (by decide)]
    cases hs : E.2.stk with
    | nil =>
      have hk : ks = [] := by
        have := h1.rows.len
        rw [hs] at this
        exact List.length_eq_zero_iff.mp this
      subst hk
      refine ⟨S1, [], ?_, h1⟩
      rw [stop (or_f t1 (or_t te))]
    | cons r t =>
      cases ks with
      | nil =>
        have := h1.rows.len
        rw [hs] at this
        cases this
      | cons k ks =>
        have te' : tVB (Z.e2 fEqE (eFld c.cs "rows" (eV 0)) (eLV aN)) ρ S1 = .ok false S1 := te.trans (by simp)
        simp only
        by_cases hq : E.2.due = true ∧ E.2.begun = false
        · rw [if_pos hq]
          refine ⟨S1, k :: ks, ?_, h1⟩
          have hb : (E.2.due && !E.2.begun) = true := by rw [hq.1, hq.2]; rfl
          rw [hb] at tdb
          rw [stop (or_f t1 (or_f te' tdb))]
        · rw [if_neg hq]
          have hb : (E.2.due && !E.2.begun) = false := by
            cases h1 : E.2.due <;> cases h2 : E.2.begun <;> simp_all
          rw [hb] at tdb
          rw [seq_skip (or_f t1 (or_f te' tdb))]
          have hr := h1.rows
          rw [hs] at hr
          obtain ⟨g1, g2, g3, g4⟩ := hr
          have hp := h1.pop hs
          have pp : eBM fPop (eFld c.cs "rows" (eV 0)) aN ρ S1 = .ok (.ref k) (S1.set (S0.length + 1) (O.lst (ks.reverse.map D.ref))) := by
            unfold eBM
            rw [fr]
            have l1 : ((k :: ks).reverse.map D.ref)[((k :: ks).reverse.map D.ref).length - 1]? = some (D.ref k) := by simp
            have l2 : ((k :: ks).reverse.map D.ref).dropLast = ks.reverse.map D.ref := by simp
            simp only [R.bind_ok, isL, h1.r, if_true, aN, fPop, l1, l2]
          have tp : eCall fTuple (aC (eBM fPop (eFld c.cs "rows" (eV 0)) aN) aN) ρ S1 = .ok (.tup r) (S1.set (S0.length + 1) (O.lst (ks.reverse.map D.ref))) := (call1_ok pp).trans (by
            have e : (S1.set (S0.length + 1) (O.lst (ks.reverse.map D.ref)))[k]? = some (O.lst r) := by
              rw [List.getElem?_set_ne (by omega)]
              exact g2
            simp only [fTuple, seqOf, e])
          rw [seq_set tp]
          have hx' : ∀ S', eV 0 (ρ.set 1 (some (.tup r))) S' = .ok (.ref S0.length) S' := fun S' => (eV_ne (by decide) _).trans (hx S')
          have hv' : ∀ S', eV 1 (ρ.set 1 (some (.tup r))) S' = .ok (.tup r) S' := fun S' => eV_set (by rw [hlen]; decide) _
          have zt : Sz { E.2 with stk := t } 16777215 := ⟨ze.made, fun q hq => ze.rows q (by rw [hs]; exact List.mem_cons_of_mem _ hq)⟩
          obtain ⟨S2, f2, h2⟩ := put_i hp (.tup r) zt
          have m2 : eMt c.cs "put" c.PlainReading 2 (F_PlainReading_put c) (dl_PlainReading_put.drop 0) (eV 0) (aC (eV 1) aN) (ρ.set 1 (some (.tup r))) (S1.set (S0.length + 1) (O.lst (ks.reverse.map D.ref))) = .ok .non S2 := (mt1_i (F := F_PlainReading_put c) hp.o (hx' _) lkn.2.1 (hv' _)).trans f2
          rw [seq_drop m2]
          exact ⟨S2, ks, rfl, h2⟩
theorem parts_i (h : Rep c S0 S s ks) (ok : RunOk s.run) (z : Sz s 16777214) : ∃ S' ks', F_PlainReading_parts c [.ref S0.length] S = .ok (.bl s.parts.1) S' ∧ Rep c S0 S' s.parts.2 ks' := by
  obtain ⟨ρ, hρ⟩ : ∃ ρ, ρ = env0 1 [.ref S0.length] := ⟨_, rfl⟩
  have hx : ∀ S', eV 0 ρ S' = .ok (.ref S0.length) S' := fun _ => by rw [hρ]; rfl
  obtain ⟨S1, f1, h1⟩ := ends_i h ok (z.mono (by omega))
  obtain ⟨E, hE⟩ : ∃ E, E = s.ends := ⟨_, rfl⟩
  rw [← hE] at f1 h1
  have m : eMt c.cs "ends_run" c.PlainReading 1 (F_PlainReading_ends_run c) (dl_PlainReading_ends_run.drop 0) (eV 0) aN ρ S = .ok (.bl E.1) S1 := (mt0_i (F := F_PlainReading_ends_run c) h.o (hx _) lkn.1).trans f1
  have t1 : tNot (tV (eMt c.cs "ends_run" c.PlainReading 1 (F_PlainReading_ends_run c) (dl_PlainReading_ends_run.drop 0) (eV 0) aN)) ρ S = .ok (!E.1) S1 := not_i (tv_i m)
  have fr : eFld c.cs "rows" (eV 0) ρ S1 = .ok (.ref (S0.length + 1)) S1 := fld_i c h1.o (hx _) (lk_rows ..)
  have fd : eFld c.cs "due" (eV 0) ρ S1 = .ok (.bl E.2.due) S1 := fld_i c h1.o (hx _) (lk_due ..)
  have te : tVB (Z.e2 fEqE (eFld c.cs "rows" (eV 0)) (eLV aN)) ρ S1 = .ok (decide (E.2.stk = [])) S1 := (tvb_i (eqE_i fr h1.r)).trans (by
    have := h1.rows.len
    cases hk : ks with
    | nil =>
      rw [hk] at this
      have e : E.2.stk = [] := List.length_eq_zero_iff.mp this.symm
      simp [e]
    | cons k ks' =>
      rw [hk] at this
      have e : ¬ E.2.stk = [] := fun z => by rw [z] at this; cases this
      simp [e])
  have hC : s.parts = (if E.1 = false then E else if E.2.stk = [] ∨ E.2.due = true then (false, E.2) else (true, { E.2 with due := true })) := by rw [hE]; rfl
  unfold F_PlainReading_parts den_PlainReading_parts runB
  rw [← hρ]
  have stop : ∀ {T : DT}, T ρ S = .ok true S1 → (sSeq (sIf T (sRet (eC (.bl false))) sNx) (sSeq (sAttr c.cs "due" (eC (.bl true)) (eV 0)) (sRet (eC (.bl true)))) ρ S) = .rt (.bl false) S1 := fun {T} hT => seq_rt ((if_t hT).trans rfl)
  cases he : E.1 with
  | false =>
    rw [he] at t1
    rw [hC, he, if_pos rfl]
    refine ⟨S1, ks, ?_, h1⟩
    rw [stop (or_t t1), he]
  | true =>
    rw [he] at t1
    rw [hC, he, if_neg (by decide)]
    by_cases hq : E.2.stk = [] ∨ E.2.due = true
    · rw [if_pos hq]
      refine ⟨S1, ks, ?_, h1⟩
      have : tOr (tVB (Z.e2 fEqE (eFld c.cs "rows" (eV 0)) (eLV aN))) (tV (eFld c.cs "due" (eV 0))) ρ S1 = .ok true S1 := by
        by_cases q : E.2.stk = []
        · rw [decide_eq_true q] at te
          exact or_t te
        · rw [decide_eq_false q] at te
          have : E.2.due = true := hq.resolve_left q
          rw [this] at fd
          exact or_f te (tv_i fd)
      rw [stop (or_f t1 this)]
    · rw [if_neg hq]
      have q1 : ¬ E.2.stk = [] := fun z => hq (.inl z)
      have q2 : E.2.due = false := by
        cases hd : E.2.due with
        | false => rfl
        | true => exact absurd (.inr hd) hq
      rw [decide_eq_false q1] at te
      rw [q2] at fd
      rw [seq_skip (or_f t1 (or_f te (tv_i fd)))]
      have at1 : sAttr c.cs "due" (eC (.bl true)) (eV 0) ρ S1 = .nx ρ _ := attr_i c h1.o rfl (hx _) (pd_due ..)
      have h2 := h1.set_o (run := E.2.run) (due := true) (begun := E.2.begun)
      rw [seq_nx at1]
      exact ⟨_, ks, rfl, h2⟩
theorem takes_i (h : Rep c S0 S s ks) (ok : RunOk s.run) (z : Sz s 16777214) (h16 : s.stk.length ≤ 16) {k : Nat} (hk : k < 128) : ∃ S' ks', F_PlainReading_takes c [.ref S0.length, .str (St [k])] S = .ok (.bl (s.takes k).1) S' ∧ Rep c S0 S' (s.takes k).2 ks' := by
  obtain ⟨ρ, hρ⟩ : ∃ ρ, ρ = env0 2 [.ref S0.length, .str (St [k])] := ⟨_, rfl⟩
  have hx : ∀ S', eV 0 ρ S' = .ok (.ref S0.length) S' := fun _ => by rw [hρ]; rfl
  have hv : ∀ S', eV 1 ρ S' = .ok (.str (St [k])) S' := fun _ => by rw [hρ]; rfl
  have fr : eFld c.cs "run" (eV 0) ρ S = .ok (.str (St s.run)) S := fld_i c h.o (hx _) (lk_run ..)
  have o7 := ok.ok7
  have hl := ok.len
  have eqk : ∀ (j : Nat) (t : Str), t = St [j] → j < 128 → tVB (Z.e2 fEq (eV 1) (eC (.str t))) ρ S = .ok (decide (k = j)) S := fun j t ht hj => tvb_i ((e2_ok (hv _) rfl).trans (by
    rw [ht, eq_St _ _ _ (.one hk) (.one hj)]
    by_cases q : k = j
    · subst q; simp
    · simp [q]))
  have t0 : tVB (Z.e2 fNe (eFld c.cs "run" (eV 0)) (eC (.str ""))) ρ S = .ok (!decide (s.run = [])) S := tvb_i ((e2_ok fr rfl).trans (by rw [emptyStr]; exact ne_St _ _ _ o7 .nil))
  have t1 : tAnd (tVB (Z.e2 fNe (eFld c.cs "run" (eV 0)) (eC (.str "")))) (tV (eMt c.cs "goes_on" c.PlainReading 2 (F_PlainReading_goes_on c) (dl_PlainReading_goes_on.drop 0) (eV 0) (aC (eV 1) aN))) ρ S = .ok (decide (s.run ≠ [] ∧ goes s.run k = true)) S := by
    unfold tAnd
    rw [t0]
    simp only [R.bind_ok]
    by_cases h0 : s.run = []
    · simp [h0]
    · have g := (mt1_i (F := F_PlainReading_goes_on c) h.o (hx _) lkn.2.2.1 (hv _)).trans (goes_i h ok h0 hk)
      simp only [h0, decide_false, Bool.not_false, if_true]
      refine (tv_i g).trans ?_
      cases goes s.run k <;> simp [h0]
  unfold F_PlainReading_takes den_PlainReading_takes runB
  rw [← hρ]
  unfold MS.takes
  by_cases c1 : s.run ≠ [] ∧ goes s.run k = true
  · rw [decide_eq_true c1] at t1
    rw [if_pos c1]
    have pl : Z.e2 fPlus (eFld c.cs "run" (eV 0)) (eV 1) ρ S = .ok (.str (St (s.run ++ [k]))) S := (e2_ok fr (hv _)).trans (plus_St _ _ _ (by simp; omega))
    have at1 : sAttr c.cs "run" (Z.e2 fPlus (eFld c.cs "run" (eV 0)) (eV 1)) (eV 0) ρ S = .nx ρ _ := attr_i c h.o pl (hx _) (pd_run ..)
    have h2 := h.set_o (run := s.run ++ [k]) (due := s.due) (begun := s.begun)
    refine ⟨_, ks, ?_, h2⟩
    rw [seq_rt (a := sIf _ _ sNx) (d := .bl true) ((if_t t1).trans ((seq_nx at1).trans rfl))]
  · rw [decide_eq_false c1] at t1
    rw [if_neg c1, seq_skip t1]
    have t2 := eqk 41 ")" closeStr (by decide)
    by_cases c2 : k = 41
    · rw [decide_eq_true c2] at t2
      rw [if_pos c2]
      obtain ⟨S', ks', f, h'⟩ := closes_i h ok z
      have m : eMt c.cs "closes" c.PlainReading 1 (F_PlainReading_closes c) (dl_PlainReading_closes.drop 0) (eV 0) aN ρ S = .ok (.bl s.closes.1) S' := (mt0_i (F := F_PlainReading_closes c) h.o (hx _) lkn.2.2.2.2.1).trans f
      refine ⟨S', ks', ?_, h'⟩
      rw [seq_rt (a := sIf _ _ sNx) ((if_t t2).trans (ret_rt m))]
    · rw [decide_eq_false c2] at t2
      rw [if_neg c2, seq_skip t2]
      have t3 := eqk 32 " " blankStr (by decide)
      by_cases c3 : k = 32
      · rw [decide_eq_true c3] at t3
        rw [if_pos c3]
        obtain ⟨S', ks', f, h'⟩ := parts_i h ok z
        have m : eMt c.cs "parts" c.PlainReading 1 (F_PlainReading_parts c) (dl_PlainReading_parts.drop 0) (eV 0) aN ρ S = .ok (.bl s.parts.1) S' := (mt0_i (F := F_PlainReading_parts c) h.o (hx _) lkn.2.2.2.2.2.1).trans f
        refine ⟨S', ks', ?_, h'⟩
        rw [seq_rt (a := sIf _ _ sNx) ((if_t t3).trans (ret_rt m))]
      · rw [decide_eq_false c3] at t3
        rw [if_neg c3, seq_skip t3]
        have u1 : Z.e2 fEq (eFld c.cs "run" (eV 0)) (eC (.str "")) ρ S = .ok (.bl (decide (s.run = []))) S := (e2_ok fr rfl).trans (by rw [emptyStr]; exact eq_St _ _ _ o7 .nil)
        by_cases c4 : s.run = []
        · rw [if_pos c4]
          obtain ⟨S', ks', f, h'⟩ := begins_i h h16 hk
          have m : eMt c.cs "begins" c.PlainReading 2 (F_PlainReading_begins c) (dl_PlainReading_begins.drop 0) (eV 0) (aC (eV 1) aN) ρ S = .ok (.bl (s.begins k).1) S' := (mt1_i (F := F_PlainReading_begins c) h.o (hx _) lkn.2.2.2.1 (hv _)).trans f
          refine ⟨S', ks', ?_, h'⟩
          have : eAnd (Z.e2 fEq (eFld c.cs "run" (eV 0)) (eC (.str ""))) (eMt c.cs "begins" c.PlainReading 2 (F_PlainReading_begins c) (dl_PlainReading_begins.drop 0) (eV 0) (aC (eV 1) aN)) ρ S = .ok (.bl (s.begins k).1) S' := by
            unfold eAnd
            rw [u1, decide_eq_true c4]
            simpa [tru] using m
          rw [ret_rt this]
        · rw [if_neg c4]
          refine ⟨S, ks, ?_, h⟩
          have : eAnd (Z.e2 fEq (eFld c.cs "run" (eV 0)) (eC (.str ""))) (eMt c.cs "begins" c.PlainReading 2 (F_PlainReading_begins c) (dl_PlainReading_begins.drop 0) (eV 0) (aC (eV 1) aN)) ρ S = .ok (.bl false) S := by
            unfold eAnd
            rw [u1, decide_eq_false c4]
            simp [tru]
          rw [ret_rt this]
theorem whole_i (h : Rep c S0 S s ks) (ok : RunOk s.run) (z : Sz s 16777214) : ∃ S', F_PlainReading_is_whole c [.ref S0.length] S = .ok (.bl s.whole.1) S' ∧ Rep c S0 S' s.whole.2 ks := by
  obtain ⟨ρ, hρ⟩ : ∃ ρ, ρ = env0 1 [.ref S0.length] := ⟨_, rfl⟩
  have hx : ∀ S', eV 0 ρ S' = .ok (.ref S0.length) S' := fun _ => by rw [hρ]; rfl
  obtain ⟨S1, f1, h1⟩ := ends_i h ok (z.mono (by omega))
  obtain ⟨E, hE⟩ : ∃ E, E = s.ends := ⟨_, rfl⟩
  rw [← hE] at f1 h1
  have m : eMt c.cs "ends_run" c.PlainReading 1 (F_PlainReading_ends_run c) (dl_PlainReading_ends_run.drop 0) (eV 0) aN ρ S = .ok (.bl E.1) S1 := (mt0_i (F := F_PlainReading_ends_run c) h.o (hx _) lkn.1).trans f1
  have fr : eFld c.cs "rows" (eV 0) ρ S1 = .ok (.ref (S0.length + 1)) S1 := fld_i c h1.o (hx _) (lk_rows ..)
  have fm : eFld c.cs "made" (eV 0) ρ S1 = .ok (.ref (S0.length + 2)) S1 := fld_i c h1.o (hx _) (lk_made ..)
  have te : Z.e2 fEqE (eFld c.cs "rows" (eV 0)) (eLV aN) ρ S1 = .ok (.bl (decide (E.2.stk = []))) S1 := (eqE_i fr h1.r).trans (by
    have := h1.rows.len
    cases hk : ks with
    | nil =>
      rw [hk] at this
      have e : E.2.stk = [] := List.length_eq_zero_iff.mp this.symm
      simp [e]
    | cons k ks' =>
      rw [hk] at this
      have e : ¬ E.2.stk = [] := fun z => by rw [z] at this; cases this
      simp [e])
  have tl : Z.e2 fEq (eCall fLen (aC (eFld c.cs "made" (eV 0)) aN)) (eC (.int 1)) ρ S1 = .ok (.bl (decide (E.2.made.length = 1))) S1 := by
    have l1 : eCall fLen (aC (eFld c.cs "made" (eV 0)) aN) ρ S1 = .ok (.int (E.2.made.length : Nat)) S1 := (call1_ok fm).trans (by
      simp [fLen, seqOf, h1.m, lstOf])
    refine (e2_ok l1 rfl).trans ?_
    simp only [fEq, eqD_int, rB]
    have e : decide (((E.2.made.length : Nat) : Int) = 1) = decide (E.2.made.length = 1) := by
      rw [decide_eq_decide]
      omega
    rw [e]
  have hC : s.whole = (if E.1 = false then E else (decide (E.2.stk = []) && decide (E.2.made.length = 1), E.2)) := by rw [hE]; rfl
  unfold F_PlainReading_is_whole den_PlainReading_is_whole runB
  rw [← hρ]
  cases he : E.1 with
  | false =>
    rw [he] at m
    rw [hC, he, if_pos rfl]
    refine ⟨S1, ?_, h1⟩
    have : eAnd (eMt c.cs "ends_run" c.PlainReading 1 (F_PlainReading_ends_run c) (dl_PlainReading_ends_run.drop 0) (eV 0) aN) (eAnd (Z.e2 fEqE (eFld c.cs "rows" (eV 0)) (eLV aN)) (Z.e2 fEq (eCall fLen (aC (eFld c.cs "made" (eV 0)) aN)) (eC (.int 1)))) ρ S = .ok (.bl false) S1 := by
      unfold eAnd
      rw [m]
      simp [tru]
    rw [ret_rt this, he]
  | true =>
    rw [he] at m
    rw [hC, he, if_neg (by decide)]
    refine ⟨S1, ?_, h1⟩
    have : eAnd (eMt c.cs "ends_run" c.PlainReading 1 (F_PlainReading_ends_run c) (dl_PlainReading_ends_run.drop 0) (eV 0) aN) (eAnd (Z.e2 fEqE (eFld c.cs "rows" (eV 0)) (eLV aN)) (Z.e2 fEq (eCall fLen (aC (eFld c.cs "made" (eV 0)) aN)) (eC (.int 1)))) ρ S = .ok (.bl (decide (E.2.stk = []) && decide (E.2.made.length = 1))) S1 := by
      unfold eAnd
      rw [m]
      simp only [R.bind_ok, tru, if_true]
      rw [te]
      simp only [R.bind_ok, tru]
      by_cases q : E.2.stk = []
      · simp only [q, decide_true, if_true, Bool.true_and, tl]
      · simp only [q, decide_false, Bool.false_eq_true, if_false, Bool.false_and]
    rw [ret_rt this]
end
end Z.k67
namespace Z.k67
open PySem L2 Z TL
/-! ### what holds of a reader -/
structure Good (s : MS) : Prop where
  run : RunOk s.run
  few : s.stk.length ≤ 16
  due : s.run ≠ [] → s.due = true ∧ s.begun = false
  beg : s.begun = true → s.due = true ∧ s.stk ≠ []
  bot1 : s.stk = [] → s.due = true → s.made = []
  bot2 : s.stk = [] → s.due = false → s.made.length = 1
  top : s.stk ≠ [] → s.made = []
theorem dig_not_word {a : Nat} (h : 48 ≤ a ∧ a ≤ 57) : a ∉ noneL := by
  unfold noneL
  simp
  omega
theorem mem_digits {k : Nat} : k ∈ digits ↔ 48 ≤ k ∧ k ≤ 57 := by
  unfold digits
  simp
  omega
theorem Dg.head {l : List Nat} (h : Dg l) : ∃ a r, l = a :: r ∧ 48 ≤ a ∧ a ≤ 57 := by
  cases l with
  | nil => exact absurd rfl h.ne
  | cons a r => exact ⟨a, r, rfl, h.all a (List.mem_cons_self ..)⟩
theorem Dg.filt {l : List Nat} (h : NumText.AllDigits l) : l.filter (· ≠ 45) = l := by
  rw [List.filter_eq_self]
  intro a ha
  have := h a ha
  simp
  omega
theorem filt_neg (l : List Nat) (h : NumText.AllDigits l) : (45 :: l).filter (· ≠ 45) = l := by
  have := Dg.filt h
  simpa using this
theorem alldig_snoc {l : List Nat} (h : NumText.AllDigits l) {k : Nat} (hk : k ∈ digits) : NumText.AllDigits (l ++ [k]) := fun c hc => by
  rcases List.mem_append.mp hc with q | q
  · exact h c q
  · rw [List.mem_singleton.mp q]
    exact mem_digits.mp hk
theorem Dg.snoc {l : List Nat} (h : Dg l) {k : Nat} (hk : k ∈ digits) (h12 : l.length ≠ 12) (h0 : l ≠ [48]) : Dg (l ++ [k]) := by
  refine ⟨alldig_snoc h.all hk, by simp, by have := h.few; simp; omega, fun e => ?_⟩
  obtain ⟨a, r, rfl, _⟩ := h.head
  have : (a :: r).head? = some 48 := by simpa using e
  exact absurd (h.zero this) h0
theorem Dg.single {k : Nat} (hk : k ∈ digits) : Dg [k] := by
  refine ⟨fun c hc => by rw [List.mem_singleton.mp hc]; exact mem_digits.mp hk, by simp, by simp, fun e => ?_⟩
  simp at e
  rw [e]
/-- a run goes on: what then is there; and the sign is no bracket and no blank -/
theorem goes_ok {l : List Nat} {k : Nat} (h : RunOk l) (h0 : l ≠ []) (g : goes l k = true) : RunOk (l ++ [k]) ∧ k ≠ 40 ∧ k ≠ 41 ∧ k ≠ 32 := by
  have sig : k ∈ digits → k ≠ 40 ∧ k ≠ 41 ∧ k ≠ 32 := fun hk => by
    have := mem_digits.mp hk
    omega
  cases h with
  | nil => exact absurd rfl h0
  | word j h1 h2 =>
    have : j = 1 ∨ j = 2 ∨ j = 3 ∨ j = 4 := by omega
    rcases this with rfl | rfl | rfl | rfl
    · have e : k = 111 := by simpa [goes, noneL] using g
      subst e
      exact ⟨.word 2 (by decide) (by decide), by decide, by decide, by decide⟩
    · have e : k = 110 := by simpa [goes, noneL] using g
      subst e
      exact ⟨.word 3 (by decide) (by decide), by decide, by decide, by decide⟩
    · have e : k = 101 := by simpa [goes, noneL] using g
      subst e
      exact ⟨.word 4 (by decide) (by decide), by decide, by decide, by decide⟩
    · simp [goes, noneL] at g
  | minus =>
    have n : ([45] : List Nat).headD 0 ∉ noneL := by decide
    simp only [goes, n, if_false] at g
    split at g
    · cases g
    · rename_i q
      have hk : k ∈ digits := Classical.byContradiction fun z => q (.inl z)
      have hn : k ≠ 48 := by simpa using g
      exact ⟨.neg [k] (Dg.single hk) (by simpa using hn), sig hk⟩
  | dig l h =>
    obtain ⟨a, r, rfl, ha⟩ := h.head
    have n : (a :: r).headD 0 ∉ noneL := dig_not_word ha
    simp only [goes, n, if_false, Dg.filt h.all] at g
    split at g
    · cases g
    · rename_i q
      have hk : k ∈ digits := Classical.byContradiction fun z => q (.inl z)
      exact ⟨.dig _ (h.snoc hk (fun z => q (.inr (.inl z))) fun z => q (.inr (.inr z))), sig hk⟩
  | neg l h hz =>
    obtain ⟨a, r, rfl, ha⟩ := h.head
    have n : (45 :: a :: r).headD 0 ∉ noneL := (by decide : (45 : Nat) ∉ noneL)
    simp only [goes, n, if_false, filt_neg _ h.all] at g
    split at g
    · cases g
    · rename_i q
      have hk : k ∈ digits := Classical.byContradiction fun z => q (.inl z)
      have hl : a :: r ≠ [48] := fun z => hz (by rw [z]; rfl)
      refine ⟨?_, sig hk⟩
      exact .neg _ (h.snoc hk (fun z => q (.inr (.inl z))) hl) (by simpa using hz)
theorem Good.ends {s : MS} (h : Good s) (e : s.ends.1 = true) : Good s.ends.2 ∧ s.ends.2.run = [] ∧ s.ends.2.stk.length = s.stk.length := by
  unfold MS.ends at e ⊢
  by_cases h0 : s.run = []
  · rw [if_pos h0]
    exact ⟨h, h0, rfl⟩
  · rw [if_neg h0] at e ⊢
    by_cases hb : bitten s.run = true
    · rw [if_pos hb] at e
      cases e
    · rw [if_neg hb]
      obtain ⟨d1, d2⟩ := h.due h0
      cases hs : s.stk with
      | nil =>
        have em := h.bot1 hs d1
        have e1 : s.put (runV s.run) = { s with due := false, begun := false, made := s.made ++ [runV s.run] } := by simp [MS.put, hs]
        rw [e1]
        refine ⟨⟨.nil, h.few, fun z => absurd rfl z, fun z => (by cases z), fun _ z => (by cases z), fun _ _ => (by simp [em]), fun z => absurd hs z⟩, rfl, by simp [hs]⟩
      | cons r t =>
        have em := h.top (by rw [hs]; simp)
        have f := h.few
        rw [hs] at f
        have e1 : s.put (runV s.run) = { s with due := false, begun := false, stk := (r ++ [runV s.run]) :: t } := by simp [MS.put, hs]
        rw [e1]
        exact ⟨⟨.nil, f, fun z => absurd rfl z, fun z => (by cases z), fun z => (by cases z), fun z => (by cases z), fun _ => em⟩, rfl, rfl⟩
/-- what is put where a value is due -/
theorem Good.put {s : MS} {t : List (List D)} (h1 : s.run = []) (h2 : t.length ≤ 16) (hm : s.made = []) (v : D) : Good ({ s with stk := t }.put v) ∧ ({ s with stk := t }.put v).stk.length = t.length ∧ ({ s with stk := t }.put v).run = [] ∧ ({ s with stk := t }.put v).due = false ∧ ({ s with stk := t }.put v).begun = false := by
  cases t with
  | nil =>
    refine ⟨⟨by show RunOk s.run; rw [h1]; exact .nil, (by simp [MS.put]), fun z => absurd h1 z, fun z => (by cases z), fun _ z => (by cases z), fun _ _ => (by simp [MS.put, hm]), fun z => absurd rfl z⟩, rfl, h1, rfl, rfl⟩
  | cons r t =>
    exact ⟨⟨by show RunOk s.run; rw [h1]; exact .nil, h2, fun z => absurd h1 z, fun z => (by cases z), fun z => (by cases z), fun z => (by cases z), fun _ => hm⟩, rfl, h1, rfl, rfl⟩
/-- what the law's own walk keeps -/
structure M4 where
  (op : Int) (run : List Nat) (due fresh : Bool)
def abs (s : MS) : M4 := ⟨s.stk.length, s.run, s.due && decide (s.run = []), s.begun⟩
def mstep (m : M4) (k : Nat) : M4 :=
  if k = 40 then { m with op := m.op + 1, due := true, fresh := true }
  else if k = 32 ∨ k = 41 then ⟨m.op - (if k = 41 then 1 else 0), [], decide (k = 32), false⟩
  else { m with run := m.run ++ [k], due := false, fresh := false }
theorem takes_good {s : MS} {k : Nat} (h : Good s) (ht : (s.takes k).1 = true) : Good (s.takes k).2 ∧ abs (s.takes k).2 = mstep (abs s) k := by
  unfold MS.takes at ht ⊢
  by_cases c1 : s.run ≠ [] ∧ goes s.run k = true
  · rw [if_pos c1]
    obtain ⟨g1, g2, g3, g4⟩ := goes_ok h.run c1.1 c1.2
    obtain ⟨d1, d2⟩ := h.due c1.1
    refine ⟨⟨g1, h.few, fun _ => ⟨d1, d2⟩, h.beg, h.bot1, h.bot2, h.top⟩, ?_⟩
    have n : ¬ (k = 32 ∨ k = 41) := by omega
    simp [abs, mstep, g2, n, d2]
  · rw [if_neg c1] at ht ⊢
    by_cases c2 : k = 41
    · rw [if_pos c2] at ht ⊢
      unfold MS.closes at ht ⊢
      simp only at ht ⊢
      by_cases he : s.ends.1 = false
      · rw [if_pos he] at ht
        rw [he] at ht
        cases ht
      · rw [if_neg he] at ht ⊢
        have he' : s.ends.1 = true := by simpa using he
        obtain ⟨G, r0, l0⟩ := h.ends he'
        cases hs : s.ends.2.stk with
        | nil => rw [hs] at ht; cases ht
        | cons r t =>
          rw [hs] at ht
          simp only at ht ⊢
          by_cases hq : s.ends.2.due = true ∧ s.ends.2.begun = false
          · rw [if_pos hq] at ht
            cases ht
          · rw [if_neg hq]
            have f := G.few
            rw [hs] at f
            simp at f
            obtain ⟨p1, p2, p3, p4, p5⟩ := Good.put (s := s.ends.2) (t := t) r0 (by omega) (G.top (by rw [hs]; simp)) (.tup r)
            refine ⟨p1, ?_⟩
            unfold abs
            rw [p2, p3, p4, p5]
            have e : (t.length : Int) = (s.stk.length : Int) - 1 := by
              rw [← l0, hs]
              simp
            subst c2
            simp [mstep, e]
    · rw [if_neg c2] at ht ⊢
      by_cases c3 : k = 32
      · rw [if_pos c3] at ht ⊢
        unfold MS.parts at ht ⊢
        simp only at ht ⊢
        by_cases he : s.ends.1 = false
        · rw [if_pos he] at ht
          rw [he] at ht
          cases ht
        · rw [if_neg he] at ht ⊢
          have he' : s.ends.1 = true := by simpa using he
          obtain ⟨G, r0, l0⟩ := h.ends he'
          by_cases hq : s.ends.2.stk = [] ∨ s.ends.2.due = true
          · rw [if_pos hq] at ht
            cases ht
          · rw [if_neg hq]
            have q1 : s.ends.2.stk ≠ [] := fun z => hq (.inl z)
            have q2 : s.ends.2.due = false := by
              cases hd : s.ends.2.due with
              | false => rfl
              | true => exact absurd (.inr hd) hq
            have q3 : s.ends.2.begun = false := by
              cases hb : s.ends.2.begun with
              | false => rfl
              | true => rw [(G.beg hb).1] at q2; cases q2
            refine ⟨⟨G.run, G.few, fun z => absurd r0 z, fun z => ⟨rfl, q1⟩, fun z => absurd z q1, fun z => absurd z q1, G.top⟩, ?_⟩
            subst c3
            simp [abs, mstep, r0, l0, q3]
      · rw [if_neg c3] at ht ⊢
        by_cases c4 : s.run = []
        · rw [if_pos c4] at ht ⊢
          unfold MS.begins at ht ⊢
          by_cases hd : s.due = false
          · rw [if_pos hd] at ht
            cases ht
          · rw [if_neg hd] at ht ⊢
            have hd' : s.due = true := by simpa using hd
            by_cases h40 : k = 40
            · rw [if_pos h40] at ht ⊢
              by_cases h6 : s.stk.length = 16
              · rw [if_pos h6] at ht
                cases ht
              · rw [if_neg h6]
                have f := h.few
                have em : s.made = [] := by
                  by_cases q : s.stk = []
                  · exact h.bot1 q hd'
                  · exact h.top q
                refine ⟨⟨h.run, (by simp; omega), fun z => absurd c4 z, fun _ => ⟨hd', by simp⟩, fun z => (by cases z), fun z => (by cases z), fun _ => em⟩, ?_⟩
                subst h40
                simp [abs, mstep, hd', c4]
            · rw [if_neg h40] at ht ⊢
              by_cases hk : k ∈ digits ∨ k = 45 ∨ k = 110
              · rw [if_pos hk]
                have rk : RunOk [k] := by
                  rcases hk with hk | rfl | rfl
                  · exact .dig _ (Dg.single hk)
                  · exact .minus
                  · exact .word 1 (by decide) (by decide)
                refine ⟨⟨rk, h.few, fun _ => ⟨hd', rfl⟩, fun z => (by cases z), h.bot1, h.bot2, h.top⟩, ?_⟩
                have n : ¬ (k = 32 ∨ k = 41) := by omega
                simp [abs, mstep, h40, n, c4]
              · rw [if_neg hk] at ht
                cases ht
        · rw [if_neg c4] at ht
          cases ht
end Z.k67
namespace Z.k67
open PySem L2 Z TL
/-! ### what may stand next -/
def ones (l : List Nat) : List (List Nat) := l.map fun k => [k]
def endsL (op : Int) : List (List Nat) := if op > 0 then [[32], [41]] else [[]]
def mayl (m : M4) : List (List Nat) :=
  if m.due = true then ([[45], [110]] ++ ones digits ++ if m.op < 16 then [[40]] else []) ++ if m.fresh = true then [[41]] else []
  else if m.run = [] then endsL m.op
  else if m.run.headD 0 = 110 then (if m.run = noneL then endsL m.op else [[noneL.getD m.run.length 0]])
  else if m.run = [45] then ones [49, 50, 51, 52, 53, 54, 55, 56, 57]
  else (if m.run ≠ [48] ∧ (m.run.filter (· ≠ 45)).length < 12 then ones digits else []) ++ endsL m.op
theorem mem_ones {k : Nat} {l : List Nat} : [k] ∈ ones l ↔ k ∈ l := by simp [ones]
theorem nil_ones {l : List Nat} : [] ∉ ones l := by simp [ones]
theorem mem_endsL {k : Nat} {op : Int} : [k] ∈ endsL op ↔ op > 0 ∧ (k = 32 ∨ k = 41) := by
  unfold endsL
  by_cases h : op > 0
  · rw [if_pos h]
    simp [h]
  · rw [if_neg h]
    constructor
    · intro z; simp at z
    · exact fun z => absurd z.1 h
theorem nil_endsL {op : Int} : [] ∈ endsL op ↔ ¬ op > 0 := by
  unfold endsL
  by_cases h : op > 0
  · rw [if_pos h]
    simp [h]
  · rw [if_neg h]
    exact ⟨fun _ => h, fun _ => by simp⟩
theorem mem_ifl {p : Prop} [Decidable p] {k j : Nat} : [k] ∈ (if p then [[j]] else [] : List (List Nat)) ↔ p ∧ k = j := by
  by_cases h : p
  · rw [if_pos h]; simp [h]
  · rw [if_neg h]
    constructor
    · intro z; simp at z
    · exact fun z => absurd z.1 h
theorem stk_pos {s : MS} : ((s.stk.length : Int) > 0) ↔ s.stk ≠ [] := by
  cases s.stk <;> simp
theorem put_stk (s : MS) (v : D) : ((s.put v).stk = [] ↔ s.stk = []) ∧ (s.put v).due = false ∧ (s.put v).begun = false := by
  unfold MS.put
  split
  · rename_i h; simp [h]
  · rename_i r t h; simp [h]
/-- while a run is read -/
theorem takes_run {s : MS} (h0 : s.run ≠ []) (k : Nat) : (s.takes k).1 = (goes s.run k || (!bitten s.run && (!decide (s.stk = []) && (decide (k = 41) || decide (k = 32))))) := by
  unfold MS.takes
  by_cases c1 : goes s.run k = true
  · rw [if_pos ⟨h0, c1⟩, c1]
    rfl
  · rw [if_neg fun z => c1 z.2]
    have c1' : goes s.run k = false := by simpa using c1
    rw [c1', Bool.false_or]
    have E : s.ends = (if bitten s.run = true then (false, s) else (true, { s.put (runV s.run) with run := [] })) := by
      unfold MS.ends
      rw [if_neg h0]
    obtain ⟨p1, p2, p3⟩ := put_stk s (runV s.run)
    by_cases c2 : k = 41
    · rw [if_pos c2]
      unfold MS.closes
      simp only
      rw [E]
      cases hb : bitten s.run with
      | true => simp
      | false =>
        simp only [Bool.false_eq_true, if_false, Bool.not_false, Bool.true_and, if_neg (by decide : ¬ (true = false))]
        cases hs : (s.put (runV s.run)).stk with
        | nil => simp [p1.mp hs]
        | cons r t =>
          have : s.stk ≠ [] := fun z => by rw [p1.mpr z] at hs; cases hs
          simp [p2, this, c2]
    · rw [if_neg c2]
      by_cases c3 : k = 32
      · rw [if_pos c3]
        unfold MS.parts
        simp only
        rw [E]
        cases hb : bitten s.run with
        | true => simp
        | false =>
          simp only [Bool.false_eq_true, if_false, Bool.not_false, Bool.true_and, if_neg (by decide : ¬ (true = false))]
          by_cases hs : s.stk = []
          · simp [p1.mpr hs, hs]
          · have : ¬ (s.put (runV s.run)).stk = [] := fun z => hs (p1.mp z)
            simp [this, p2, hs, c3]
      · rw [if_neg c3, if_neg h0]
        simp [c2, c3]
theorem whole_run {s : MS} (h : Good s) (h0 : s.run ≠ []) : s.whole.1 = (!bitten s.run && decide (s.stk = [])) := by
  have E : s.ends = (if bitten s.run = true then (false, s) else (true, { s.put (runV s.run) with run := [] })) := by
    unfold MS.ends
    rw [if_neg h0]
  obtain ⟨p1, p2, p3⟩ := put_stk s (runV s.run)
  unfold MS.whole
  simp only
  rw [E]
  cases hb : bitten s.run with
  | true => simp
  | false =>
    simp only [Bool.false_eq_true, if_false, Bool.not_false, Bool.true_and, if_neg (by decide : ¬ (true = false))]
    by_cases hs : s.stk = []
    · have em := h.bot1 hs (h.due h0).1
      have : (s.put (runV s.run)).made.length = 1 := by simp [MS.put, hs, em]
      simp [p1.mpr hs, hs, this]
    · have : ¬ (s.put (runV s.run)).stk = [] := fun z => hs (p1.mp z)
      simp [this, hs]
/-- a run: what goes on with it, and whether it may end, by the list -/
theorem run_may {l : List Nat} {op : Int} {b f : Bool} (h : RunOk l) (h0 : l ≠ []) : (∀ k, [k] ∈ mayl ⟨op, l, false, f⟩ ↔ (goes l k = true ∨ (bitten l = false ∧ op > 0 ∧ (k = 32 ∨ k = 41)))) ∧ ([] ∈ mayl ⟨op, l, false, f⟩ ↔ bitten l = false ∧ ¬ op > 0) := by
  have nd : ∀ k, k ∈ digits → ¬ (k = 32 ∨ k = 41) := fun k hk => by have := mem_digits.mp hk; omega
  cases h with
  | nil => exact absurd rfl h0
  | word j h1 h2 =>
    have : j = 1 ∨ j = 2 ∨ j = 3 ∨ j = 4 := by omega
    rcases this with rfl | rfl | rfl | rfl
    · refine ⟨fun k => ?_, ?_⟩ <;> simp [mayl, goes, bitten, noneL]
    · refine ⟨fun k => ?_, ?_⟩ <;> simp [mayl, goes, bitten, noneL]
    · refine ⟨fun k => ?_, ?_⟩ <;> simp [mayl, goes, bitten, noneL]
    · have e : mayl ⟨op, [110, 111, 110, 101].take 4, false, f⟩ = endsL op := by simp [mayl, noneL]
      rw [e]
      refine ⟨fun k => ?_, ?_⟩
      · rw [mem_endsL]
        simp [goes, bitten, noneL]
      · rw [nil_endsL]
        simp [bitten, noneL]
  | minus =>
    refine ⟨fun k => ?_, ?_⟩
    · simp [mayl, goes, bitten, noneL, mem_ones, digits]
      omega
    · simp [mayl, bitten, nil_ones]
  | dig l h =>
    obtain ⟨a, r, rfl, ha⟩ := h.head
    have n : (a :: r).headD 0 ∉ noneL := dig_not_word ha
    have n2 : (a :: r) ≠ [45] := fun z => by simp at z; omega
    have hb : bitten (a :: r) = false := by
      unfold bitten
      rw [decide_eq_false n2, decide_eq_false n]
      rfl
    have n3 : ¬ (a :: r).headD 0 = 110 := fun z => n (by rw [z]; decide)
    have fl := h.few
    have e : mayl ⟨op, a :: r, false, f⟩ = (if a :: r ≠ [48] ∧ (a :: r).length < 12 then ones digits else []) ++ endsL op := by
      simp only [mayl, Bool.false_eq_true, if_false, if_neg h0, if_neg n3, if_neg n2, Dg.filt h.all]
    have g : ∀ k, goes (a :: r) k = true ↔ k ∈ digits ∧ (a :: r).length ≠ 12 ∧ a :: r ≠ [48] := fun k => by
      simp only [goes, if_neg n, Dg.filt h.all]
      by_cases q : k ∉ digits ∨ (a :: r).length = 12 ∨ a :: r = [48]
      · rw [if_pos q]
        constructor
        · intro z; cases z
        · rintro ⟨z1, z2, z3⟩
          rcases q with q | q | q
          · exact absurd z1 q
          · exact absurd q z2
          · exact absurd q z3
      · rw [if_neg q]
        have q1 : k ∈ digits := Classical.byContradiction fun z => q (.inl z)
        have q2 : (a :: r).length ≠ 12 := fun z => q (.inr (.inl z))
        have q3 : a :: r ≠ [48] := fun z => q (.inr (.inr z))
        simp [n2, q1, q2, q3]
        simpa using q2
    rw [e]
    refine ⟨fun k => ?_, ?_⟩
    · rw [List.mem_append, mem_endsL, g, hb]
      constructor
      · rintro (z | z)
        · left
          split at z
          · rename_i w
            exact ⟨mem_ones.mp z, by omega, w.1⟩
          · cases z
        · exact .inr ⟨rfl, z⟩
      · rintro (z | z)
        · left
          rw [if_pos ⟨z.2.2, by have := z.2.1; omega⟩]
          exact mem_ones.mpr z.1
        · exact .inr z.2
    · rw [List.mem_append, nil_endsL, hb]
      constructor
      · rintro (z | z)
        · split at z
          · exact absurd z nil_ones
          · cases z
        · exact ⟨rfl, z⟩
      · exact fun z => .inr z.2
  | neg l h hz =>
    have n : (45 :: l).headD 0 ∉ noneL := (by decide : (45 : Nat) ∉ noneL)
    obtain ⟨a, r, rfl, ha⟩ := h.head
    have n2 : (45 :: a :: r) ≠ [45] := fun z => by simp at z
    have n4 : (45 :: a :: r) ≠ [48] := fun z => by simp at z
    have hb : bitten (45 :: a :: r) = false := by
      unfold bitten
      rw [decide_eq_false n2, decide_eq_false n]
      rfl
    have n3 : ¬ (45 :: a :: r).headD 0 = 110 := (by decide : ¬ (45 : Nat) = 110)
    have fl := h.few
    have e : mayl ⟨op, 45 :: a :: r, false, f⟩ = (if (a :: r).length < 12 then ones digits else []) ++ endsL op := by
      simp only [mayl, Bool.false_eq_true, if_false, if_neg h0, if_neg n3, if_neg n2, filt_neg _ h.all, n4, ne_eq, not_false_eq_true, true_and]
    have g : ∀ k, goes (45 :: a :: r) k = true ↔ k ∈ digits ∧ (a :: r).length ≠ 12 := fun k => by
      simp only [goes, if_neg n, filt_neg _ h.all]
      by_cases q : k ∉ digits ∨ (a :: r).length = 12 ∨ 45 :: a :: r = [48]
      · rw [if_pos q]
        constructor
        · intro z; cases z
        · rintro ⟨z1, z2⟩
          rcases q with q | q | q
          · exact absurd z1 q
          · exact absurd q z2
          · exact absurd q n4
      · rw [if_neg q]
        have q1 : k ∈ digits := Classical.byContradiction fun z => q (.inl z)
        have q2 : (a :: r).length ≠ 12 := fun z => q (.inr (.inl z))
        simp [n2, q1, q2]
        simpa using q2
    rw [e]
    refine ⟨fun k => ?_, ?_⟩
    · rw [List.mem_append, mem_endsL, g, hb]
      constructor
      · rintro (z | z)
        · left
          split at z
          · exact ⟨mem_ones.mp z, by omega⟩
          · cases z
        · exact .inr ⟨rfl, z⟩
      · rintro (z | z)
        · left
          rw [if_pos (by have := z.2; omega)]
          exact mem_ones.mpr z.1
        · exact .inr z.2
    · rw [List.mem_append, nil_endsL, hb]
      constructor
      · rintro (z | z)
        · split at z
          · exact absurd z nil_ones
          · cases z
        · exact ⟨rfl, z⟩
      · exact fun z => .inr z.2
/-- a sign is taken just if it may stand there -/
theorem acc {s : MS} (h : Good s) (k : Nat) : (s.takes k).1 = true ↔ [k] ∈ mayl (abs s) := by
  by_cases h0 : s.run = []
  · have E : s.ends = (true, s) := by simp [MS.ends, h0]
    have T : s.takes k = (if k = 41 then s.closes else if k = 32 then s.parts else s.begins k) := by
      unfold MS.takes
      rw [if_neg fun z => z.1 h0]
      split
      · rfl
      · split
        · rfl
        · first | rfl | rw [if_pos h0]
    rw [T]
    have hC : s.closes = (match s.stk with
      | [] => (false, s)
      | r :: t => if s.due = true ∧ s.begun = false then (false, s) else (true, { s with stk := t }.put (.tup r))) := by
      unfold MS.closes
      simp only
      rw [E]
      rfl
    have hP : s.parts = (if s.stk = [] ∨ s.due = true then (false, s) else (true, { s with due := true })) := by
      unfold MS.parts
      simp only
      rw [E]
      rfl
    have f := h.few
    cases hd : s.due with
    | true =>
      have em : mayl (abs s) = ([[45], [110]] ++ ones digits ++ if (s.stk.length : Int) < 16 then [[40]] else []) ++ if s.begun = true then [[41]] else [] := by
        simp only [mayl, abs, hd, h0, decide_true, Bool.and_self, if_true]
      rw [em]
      have m1 : [k] ∈ (([[45], [110]] ++ ones digits ++ if (s.stk.length : Int) < 16 then [[40]] else []) ++ if s.begun = true then [[41]] else [] : List (List Nat)) ↔ (((k = 45 ∨ k = 110) ∨ k ∈ digits) ∨ ((s.stk.length : Int) < 16 ∧ k = 40)) ∨ (s.begun = true ∧ k = 41) := by
        rw [List.mem_append, List.mem_append, List.mem_append, mem_ones]
        exact or_congr (or_congr (or_congr (by simp) Iff.rfl) mem_ifl) mem_ifl
      rw [m1]
      have dk := @mem_digits k
      by_cases c2 : k = 41
      · rw [if_pos c2, hC]
        subst c2
        cases hs : s.stk with
        | nil =>
          have : s.begun = false := by
            cases hb : s.begun with
            | false => rfl
            | true => exact absurd hs (h.beg hb).2
          simp [this, digits]
        | cons r t =>
          cases hb : s.begun <;> simp [hd, digits]
      · rw [if_neg c2]
        by_cases c3 : k = 32
        · rw [if_pos c3, hP]
          subst c3
          simp [hd, digits]
        · rw [if_neg c3]
          unfold MS.begins
          rw [hd, if_neg (by decide)]
          by_cases c4 : k = 40
          · rw [if_pos c4]
            subst c4
            by_cases h6 : s.stk.length = 16
            · rw [if_pos h6]
              simp [digits, h6]
            · rw [if_neg h6]
              simp [digits]
              omega
          · rw [if_neg c4]
            by_cases hk : k ∈ digits ∨ k = 45 ∨ k = 110
            · rw [if_pos hk]
              simp only [true_iff]
              rcases hk with q | q | q
              · exact .inl (.inl (.inr q))
              · exact .inl (.inl (.inl (.inl q)))
              · exact .inl (.inl (.inl (.inr q)))
            · rw [if_neg hk]
              constructor
              · intro z; cases z
              · rintro (((( q | q) | q) | q) | q)
                · exact absurd (.inr (.inl q)) hk
                · exact absurd (.inr (.inr q)) hk
                · exact absurd (.inl q) hk
                · exact absurd q.2 c4
                · exact absurd q.2 c2
    | false =>
      have em : mayl (abs s) = endsL (s.stk.length : Int) := by
        simp only [mayl, abs, hd, h0, Bool.false_and, Bool.false_eq_true, if_false, if_true]
      rw [em, mem_endsL, stk_pos]
      by_cases c2 : k = 41
      · rw [if_pos c2, hC]
        subst c2
        cases hs : s.stk <;> simp [hd]
      · rw [if_neg c2]
        by_cases c3 : k = 32
        · rw [if_pos c3, hP]
          subst c3
          by_cases hs : s.stk = [] <;> simp [hd, hs]
        · rw [if_neg c3]
          simp [MS.begins, hd, c2, c3]
  · rw [takes_run h0]
    have r := (run_may (op := s.stk.length) (b := true) (f := s.begun) h.run h0).1 k
    have ea : abs s = ⟨s.stk.length, s.run, false, s.begun⟩ := by simp [abs, h0]
    rw [ea, r, stk_pos]
    cases goes s.run k <;> cases bitten s.run <;> by_cases hs : s.stk = [] <;> simp [hs]
    exact Or.comm
theorem acc_end {s : MS} (h : Good s) : s.whole.1 = true ↔ [] ∈ mayl (abs s) := by
  by_cases h0 : s.run = []
  · have E : s.ends = (true, s) := by simp [MS.ends, h0]
    have hW : s.whole = (decide (s.stk = []) && decide (s.made.length = 1), s) := by
      unfold MS.whole
      simp only
      rw [E]
      rfl
    rw [hW]
    cases hd : s.due with
    | true =>
      have em : mayl (abs s) = ([[45], [110]] ++ ones digits ++ if (s.stk.length : Int) < 16 then [[40]] else []) ++ if s.begun = true then [[41]] else [] := by
        simp only [mayl, abs, hd, h0, decide_true, Bool.and_self, if_true]
      have m1 : [] ∉ (([[45], [110]] ++ ones digits ++ if (s.stk.length : Int) < 16 then [[40]] else []) ++ if s.begun = true then [[41]] else [] : List (List Nat)) := by
        rw [List.mem_append, List.mem_append, List.mem_append]
        rintro (((q | q) | q) | q)
        · simp at q
        · exact nil_ones q
        · split at q <;> simp at q
        · split at q <;> simp at q
      rw [em]
      constructor
      · intro z
        by_cases hs : s.stk = []
        · rw [h.bot1 hs hd] at z
          simp at z
        · simp [hs] at z
      · exact fun z => absurd z m1
    | false =>
      have em : mayl (abs s) = endsL (s.stk.length : Int) := by
        simp only [mayl, abs, hd, h0, Bool.false_and, Bool.false_eq_true, if_false, if_true]
      rw [em, nil_endsL, stk_pos]
      by_cases hs : s.stk = []
      · simp [hs, h.bot2 hs hd]
      · simp [hs]
  · rw [whole_run h h0]
    have r := (run_may (op := s.stk.length) (b := true) (f := s.begun) h.run h0).2
    have ea : abs s = ⟨s.stk.length, s.run, false, s.begun⟩ := by simp [abs, h0]
    rw [ea, r, stk_pos]
    cases bitten s.run <;> by_cases hs : s.stk = [] <;> simp [hs]
end Z.k67
namespace Z.k67
open PySem L2 Z TL
/-! ### reading what is written -/
def feed (s : MS) : List Nat → Option MS
  | [] => some s
  | k :: l => if (s.takes k).1 = true then feed (s.takes k).2 l else none
theorem feed_app : ∀ (a b : List Nat) (s : MS), feed s (a ++ b) = (feed s a).bind fun t => feed t b
  | [], b, s => rfl
  | k :: a, b, s => by
    simp only [List.cons_append, feed]
    split
    · exact feed_app a b _
    · rfl
theorem feed_good : ∀ (l : List Nat) {s s1 : MS}, Good s → feed s l = some s1 → Good s1 ∧ abs s1 = l.foldl mstep (abs s)
  | [], s, s1, h, e => by
    simp only [feed] at e
    cases e
    exact ⟨h, rfl⟩
  | k :: l, s, s1, h, e => by
    simp only [feed] at e
    split at e
    · rename_i ht
      obtain ⟨g, ga⟩ := takes_good h ht
      obtain ⟨g2, ga2⟩ := feed_good l g e
      exact ⟨g2, by rw [ga2, ga]; rfl⟩
    · cases e
def i0 : MS := ⟨[], [], true, false, []⟩
theorem good0 : Good i0 := ⟨.nil, (by simp [i0]), fun z => absurd rfl z, fun z => (by cases z), fun _ _ => rfl, fun _ z => (by cases z), fun z => absurd rfl z⟩
mutual
/-- the text of a value -/
def wr : D → List Nat
  | .non => noneL
  | .int i => num i
  | .tup ds => 40 :: (wrs ds ++ [41])
  | _ => []
def wrs : List D → List Nat
  | [] => []
  | d :: ds => wr d ++ wrr ds
/-- more of them, each behind a blank -/
def wrr : List D → List Nat
  | [] => []
  | d :: ds => 32 :: (wr d ++ wrr ds)
end
/-- plain values, not deeper than so -/
def Pl : Nat → D → Prop
  | _, .non => True
  | _, .int i => i.natAbs < 1000000000000
  | n + 1, .tup ds => ∀ d ∈ ds, Pl n d
  | _, _ => False
theorem feed_chain : ∀ (l run : List Nat) (s : MS), run ≠ [] → s.run = run → (∀ p k q, l = p ++ k :: q → goes (run ++ p) k = true) → feed s l = some { s with run := run ++ l }
  | [], run, s, h0, hr, h => by
    simp only [feed, List.append_nil]
    rw [← hr]
  | k :: l, run, s, h0, hr, h => by
    have g := h [] k l rfl
    rw [List.append_nil] at g
    have t : s.takes k = (true, { s with run := run ++ [k] }) := by
      unfold MS.takes
      rw [hr, if_pos ⟨h0, g⟩]
    simp only [feed, t, if_true]
    rw [feed_chain l (run ++ [k]) _ (by simp) rfl fun p j q e => ?_]
    · simp
    · have := h (k :: p) j q (by rw [e]; rfl)
      simpa using this
theorem begin_t {s : MS} (h0 : s.run = []) (hd : s.due = true) {k : Nat} (hk : k ∈ digits ∨ k = 45 ∨ k = 110) : s.takes k = (true, { s with run := [k], begun := false }) := by
  have n1 : k ≠ 40 ∧ k ≠ 41 ∧ k ≠ 32 := by
    rcases hk with hk | rfl | rfl
    · have := mem_digits.mp hk
      omega
    · decide
    · decide
  unfold MS.takes
  rw [if_neg fun z => z.1 h0, if_neg n1.2.1, if_neg n1.2.2, if_pos h0]
  unfold MS.begins
  rw [hd, if_neg (by decide), if_neg n1.1, if_pos hk]
theorem put_run {s : MS} (h0 : s.run = []) (l : List Nat) (v : D) : { ({ s with run := l, begun := false } : MS).put v with run := [] } = s.put v := by
  cases s with
  | mk stk run due begun made =>
    simp only at h0
    subst h0
    cases stk <;> rfl
/-- a number is read -/
theorem feed_num {i : Int} (hi : i.natAbs < 1000000000000) {s : MS} (h0 : s.run = []) (hd : s.due = true) : ∃ s1, feed s (num i) = some s1 ∧ s1.ends = (true, s.put (.int i)) := by
  have key : ∀ l, num i = l → l ≠ [] → bitten l = false → l ≠ noneL → feed s l = some { s with run := l, begun := false } → ∃ s1, feed s (num i) = some s1 ∧ s1.ends = (true, s.put (.int i)) := fun l hl h1 h2 h3 h4 => by
    rw [hl]
    refine ⟨_, h4, ?_⟩
    have rv : runV l = .int i := by
      unfold runV
      rw [if_neg h3, ← hl, int_num hi]
      rfl
    unfold MS.ends
    rw [if_neg h1, if_neg (by rw [h2]; decide), rv, put_run h0]
  have dg := numL_dg hi
  by_cases hn : i < 0
  · have e : num i = 45 :: numL i.natAbs := by unfold num; rw [if_pos hn]
    obtain ⟨a, r, hl, ha⟩ := dg.head
    have hz : a ≠ 48 := fun z => by
      have := dg.zero (by rw [hl, z]; rfl)
      have v := numL_val i.natAbs
      rw [this] at v
      have : i.natAbs = 0 := by rw [← v]; rfl
      omega
    refine key _ e (by simp) ?_ (by rw [hl]; simp [noneL]) ?_
    · rw [hl]
      unfold bitten
      rw [decide_eq_false (by simp), decide_eq_false (by simp [noneL])]
      rfl
    · simp only [feed, begin_t h0 hd (.inr (.inl rfl)), if_true]
      rw [feed_chain _ [45] _ (by simp) rfl fun p k q e => ?_]
      · rfl
      · have all := dg.all
        rw [e] at all
        have kd : k ∈ digits := mem_digits.mpr (all k (by simp))
        have pa : NumText.AllDigits p := fun c hc => all c (by simp [hc])
        have fw := dg.few
        rw [e] at fw
        simp at fw
        have n : (45 :: p).headD 0 ∉ noneL := (by decide : (45 : Nat) ∉ noneL)
        show goes (45 :: p) k = true
        have q : ¬ (k ∉ digits ∨ p.length = 12 ∨ (45 :: p) = [48]) := by
          rintro (z | z | z)
          · exact z kd
          · omega
          · simp at z
        simp only [goes, if_neg n, filt_neg _ pa, if_neg q]
        cases p with
        | nil =>
          have : k = a := by
            rw [hl] at e
            simp at e
            exact e.1.symm
          simp [this, hz]
        | cons b p => simp
  · have e : num i = numL i.natAbs := by unfold num; rw [if_neg hn]
    obtain ⟨a, r, hl, ha⟩ := dg.head
    have n0 : (a :: r).headD 0 ∉ noneL := dig_not_word ha
    refine key _ e (by rw [hl]; simp) ?_ ?_ ?_
    · rw [hl]
      unfold bitten
      rw [decide_eq_false (fun z => by simp at z; omega), decide_eq_false n0]
      rfl
    · rw [hl]
      intro z
      simp [noneL] at z
      omega
    · rw [hl]
      simp only [feed, begin_t h0 hd (.inl (mem_digits.mpr ha)), if_true]
      rw [feed_chain _ [a] _ (by simp) rfl fun p k q e => ?_]
      · rfl
      · have all := dg.all
        have fw := dg.few
        have zr := dg.zero
        rw [hl, e] at all fw zr
        simp at fw
        have kd : k ∈ digits := mem_digits.mpr (all k (by simp))
        have pa : NumText.AllDigits (a :: p) := fun c hc => all c (by
          rcases List.mem_cons.mp hc with rfl | hc
          · simp
          · simp [hc])
        have n : (a :: p).headD 0 ∉ noneL := dig_not_word ha
        show goes (a :: p) k = true
        have q : ¬ (k ∉ digits ∨ (a :: p).length = 12 ∨ (a :: p) = [48]) := by
          rintro (z | z | z)
          · exact z kd
          · simp at z
            omega
          · have za : a = 48 := by simp at z; exact z.1
            have := zr (by rw [za]; rfl)
            simp at this
        simp only [goes, if_neg n, Dg.filt pa, if_neg q]
        have : a :: p ≠ [45] := fun z => by simp at z; omega
        simp [this]
theorem feed_none {s : MS} (h0 : s.run = []) (hd : s.due = true) : ∃ s1, feed s noneL = some s1 ∧ s1.ends = (true, s.put .non) := by
  refine ⟨{ s with run := noneL, begun := false }, ?_, ?_⟩
  · show feed s (110 :: [111, 110, 101]) = _
    simp only [feed, begin_t h0 hd (.inr (.inr rfl)), if_true]
    have := feed_chain [111, 110, 101] [110] { s with run := [110], begun := false } (by simp) rfl fun p k q e => by
      have : p = [] ∨ p = [111] ∨ p = [111, 110] := by
        cases p with
        | nil => exact .inl rfl
        | cons a p =>
          simp at e
          obtain ⟨rfl, e⟩ := e
          cases p with
          | nil => exact .inr (.inl rfl)
          | cons b p =>
            simp at e
            obtain ⟨rfl, e⟩ := e
            cases p with
            | nil => exact .inr (.inr rfl)
            | cons d p => simp at e
      rcases this with rfl | rfl | rfl <;> simp at e <;> obtain ⟨rfl, _⟩ := e <;> decide
    exact this
  · have e1 : noneL ≠ [] := by decide
    have e2 : bitten noneL = false := by decide
    have e3 : runV noneL = .non := by unfold runV; rw [if_pos rfl]
    show MS.ends { s with run := noneL, begun := false } = _
    unfold MS.ends
    rw [if_neg e1, if_neg (by rw [e2]; decide), e3, put_run h0]
/-- closing behind a value -/
theorem close_t {s t : MS} {pre : List D} {rest : List (List D)} (g : Good s) (he : s.ends = (true, t)) (ht : t.stk = pre :: rest) (hd : t.due = false ∨ t.begun = true) : s.takes 41 = (true, { t with stk := rest }.put (.tup pre)) := by
  unfold MS.takes
  rw [if_neg fun z => (goes_ok g.run z.1 z.2).2.2.1 rfl, if_pos rfl]
  unfold MS.closes
  simp only
  rw [he]
  simp only [ht, if_neg (by decide : ¬ (true = false))]
  rw [if_neg]
  rintro ⟨z1, z2⟩
  rcases hd with hd | hd
  · rw [hd] at z1; cases z1
  · rw [hd] at z2; cases z2
theorem part_t {s t : MS} {pre : List D} {rest : List (List D)} (g : Good s) (he : s.ends = (true, t)) (ht : t.stk = pre :: rest) (hd : t.due = false) : s.takes 32 = (true, { t with due := true }) := by
  unfold MS.takes
  rw [if_neg fun z => (goes_ok g.run z.1 z.2).2.2.2 rfl, if_neg (by decide), if_pos rfl]
  unfold MS.parts
  simp only
  rw [he]
  simp only [ht, hd, if_neg (by decide : ¬ (true = false))]
  rw [if_neg]
  rintro (z | z)
  · cases z
  · cases z
/-- more values behind blanks, and the end -/
theorem feed_rest (n : Nat) (IH : ∀ d, Pl n d → ∀ s, Good s → s.run = [] → s.due = true → s.stk.length + n ≤ 16 → ∃ s1, feed s (wr d) = some s1 ∧ s1.ends = (true, s.put d)) :
    ∀ (ds : List D) (s t : MS) (pre : List D) (rest : List (List D)), (∀ d ∈ ds, Pl n d) → Good s → s.ends = (true, t) → t.stk = pre :: rest → t.due = false → t.run = [] → rest.length + 1 + n ≤ 16 → feed s (wrr ds ++ [41]) = some ({ t with stk := rest }.put (.tup (pre ++ ds)))
  | [], s, t, pre, rest, hp, g, he, ht, hd, hr, hl => by
    simp only [wrr, List.nil_append, feed, close_t g he ht (.inl hd), if_true, List.append_nil]
  | d :: ds, s, t, pre, rest, hp, g, he, ht, hd, hr, hl => by
    have pt := part_t g he ht hd
    obtain ⟨gu, _⟩ := takes_good (k := 32) g (by rw [pt])
    rw [pt] at gu
    have lu : ({ t with due := true } : MS).stk.length + n ≤ 16 := by
      show t.stk.length + n ≤ 16
      rw [ht]
      simp
      omega
    obtain ⟨s2, f2, e2⟩ := IH d (hp d (List.mem_cons_self ..)) { t with due := true } gu hr rfl lu
    obtain ⟨g2, _⟩ := feed_good _ gu f2
    have eu : ({ t with due := true } : MS).put d = { t with due := false, begun := false, stk := (pre ++ [d]) :: rest } := by
      unfold MS.put
      simp only [ht]
    rw [eu] at e2
    have r := feed_rest n IH ds s2 _ (pre ++ [d]) rest (fun x hx => hp x (List.mem_cons_of_mem _ hx)) g2 e2 rfl rfl hr hl
    have e : wrr (d :: ds) ++ [41] = 32 :: (wr d ++ (wrr ds ++ [41])) := by simp [wrr]
    rw [e]
    simp only [feed, pt, if_true]
    rw [feed_app, f2]
    simp only [Option.bind]
    rw [r]
    congr 1
    have : pre ++ [d] ++ ds = pre ++ d :: ds := by simp
    rw [this]
    cases rest <;> rfl
theorem feed_wr : ∀ (n : Nat) (d : D), Pl n d → ∀ s, Good s → s.run = [] → s.due = true → s.stk.length + n ≤ 16 → ∃ s1, feed s (wr d) = some s1 ∧ s1.ends = (true, s.put d)
  | n, .non, _, s, g, h0, hd, _ => by
    simp only [wr]
    exact feed_none h0 hd
  | n, .int i, h, s, g, h0, hd, _ => by
    simp only [wr]
    have h' : i.natAbs < 1000000000000 := by
      cases n <;> exact h
    exact feed_num h' h0 hd
  | n + 1, .tup ds, h, s, g, h0, hd, hl => by
    have h' : ∀ d ∈ ds, Pl n d := h
    have t40 : s.takes 40 = (true, { s with stk := [] :: s.stk, begun := true }) := by
      unfold MS.takes
      rw [if_neg fun z => z.1 h0, if_neg (by decide), if_neg (by decide), if_pos h0]
      unfold MS.begins
      rw [hd, if_neg (by decide), if_pos rfl, if_neg (by omega)]
    obtain ⟨g1, _⟩ := takes_good (k := 40) g (by rw [t40])
    rw [t40] at g1
    have fin : ∀ (t : MS) (v : D), t.made = s.made → t.run = [] → ({ t with stk := s.stk } : MS).put v = s.put v := fun t v e1 e2 => by
      cases s with
      | mk stk run due begun made =>
        simp only at h0 e1
        subst h0 e1
        cases t with
        | mk a b c d e =>
          simp only at e2
          subst e2
          cases stk <;> rfl
    have pe : ∀ v, (s.put v).run = [] := fun v => by
      unfold MS.put
      split <;> exact h0
    have ends_p : ∀ v, (s.put v).ends = (true, s.put v) := fun v => by
      unfold MS.ends
      rw [if_pos (pe v)]
    refine ⟨s.put (.tup ds), ?_, ends_p _⟩
    cases ds with
    | nil =>
      simp only [wr, wrs, List.nil_append, feed, t40, if_true]
      have e1 : MS.ends { s with stk := [] :: s.stk, begun := true } = (true, { s with stk := [] :: s.stk, begun := true }) := by
        unfold MS.ends
        rw [if_pos h0]
      rw [close_t g1 e1 rfl (.inr rfl)]
      exact congrArg some (fin { s with stk := [] :: s.stk, begun := true } (.tup []) rfl h0)
    | cons d ds =>
      have e : wr (.tup (d :: ds)) = 40 :: (wr d ++ (wrr ds ++ [41])) := by simp [wr, wrs]
      rw [e]
      simp only [feed, t40, if_true]
      obtain ⟨s2, f2, e2⟩ := feed_wr n d (h' d (List.mem_cons_self ..)) _ g1 h0 hd (by simp; omega)
      obtain ⟨g2, _⟩ := feed_good _ g1 f2
      rw [feed_app, f2]
      simp only [Option.bind]
      have eu : ({ s with stk := [] :: s.stk, begun := true } : MS).put d = { s with due := false, begun := false, stk := [d] :: s.stk } := rfl
      rw [eu] at e2
      rw [feed_rest n (feed_wr n) ds s2 _ [d] s.stk (fun x hx => h' x (List.mem_cons_of_mem _ hx)) g2 e2 rfl rfl h0 (by omega)]
      rw [fin _ _ rfl h0]
      rfl
  | 0, .tup ds, h, _, _, _, _, _ => h.elim
  | 0, .bl _, h, _, _, _, _, _ | 0, .str _, h, _, _, _, _, _ | 0, .lst _, h, _, _, _, _, _ | 0, .scr _, h, _, _, _, _, _ | 0, .ref _, h, _, _, _, _, _ | 0, .adr _, h, _, _, _, _, _ | 0, .ty _, h, _, _, _, _, _ => h.elim
  | n + 1, .bl _, h, _, _, _, _, _ | n + 1, .str _, h, _, _, _, _, _ | n + 1, .lst _, h, _, _, _, _, _ | n + 1, .scr _, h, _, _, _, _, _ | n + 1, .ref _, h, _, _, _, _, _ | n + 1, .adr _, h, _, _, _, _, _ | n + 1, .ty _, h, _, _, _, _, _ => h.elim
/-- a whole text -/
theorem read_wr {d : D} (h : Pl 16 d) : ∃ s1, feed i0 (wr d) = some s1 ∧ Good s1 ∧ s1.whole.1 = true ∧ s1.whole.2.made = [d] := by
  obtain ⟨s1, f, e⟩ := feed_wr 16 d h i0 good0 rfl rfl (by simp [i0])
  refine ⟨s1, f, (feed_good _ good0 f).1, ?_⟩
  unfold MS.whole
  simp only
  rw [e]
  exact ⟨rfl, rfl⟩
end Z.k67
namespace Z.k67
open PySem L2 Z TL
variable {c : Ad}
/-! ### a new reader -/
theorem mk_i (S : Sto) (ρ : Env) : ∃ S', eMk c.PlainReading 1 (F_PlainReading_mk c) (dl_PlainReading_mk.drop 0) aN ρ S = .ok (.ref S.length) S' ∧ Rep c S S' i0 [] := by
  have ok : F_PlainReading_mk c [.ref S.length] (S ++ [.ins c.PlainReading []]) = .ok .non (S ++ [.ins c.PlainReading (fsO (.ref (S.length + 1)) (.str (St [])) (.bl true) (.bl false) (.ref (S.length + 2))), O.lst [], O.lst []]) := by
    have a1 : putD "rows" (.ref (S.length + 1)) [] = [(("rows" : Str), D.ref (S.length + 1))] := rfl
    have a2 : ∀ x, putD "run" x [(("rows" : Str), D.ref (S.length + 1))] = [(("rows" : Str), D.ref (S.length + 1)), (("run" : Str), x)] := fun x => by simp [putD, m1]
    have a3 : ∀ x y, putD "due" y [(("rows" : Str), D.ref (S.length + 1)), (("run" : Str), x)] = [(("rows" : Str), D.ref (S.length + 1)), (("run" : Str), x), (("due" : Str), y)] := fun x y => by simp [putD, m2, m3]
    have a4 : ∀ x y z, putD "begun" z [(("rows" : Str), D.ref (S.length + 1)), (("run" : Str), x), (("due" : Str), y)] = [(("rows" : Str), D.ref (S.length + 1)), (("run" : Str), x), (("due" : Str), y), (("begun" : Str), z)] := fun x y z => by simp [putD, m4, m5, m6]
    have a5 : ∀ x y z w, putD "made" w [(("rows" : Str), D.ref (S.length + 1)), (("run" : Str), x), (("due" : Str), y), (("begun" : Str), z)] = fsO (.ref (S.length + 1)) x y z w := fun x y z w => by simp [fsO, putD, m7, m8, m9, m10]
    rw [← emptyStr]
    simp [F_PlainReading_mk, den_PlainReading_mk, runB, env0, sSeq, sAttr, eLN, aN, eV, eC, a1, a2, a3, a4, a5]
  refine ⟨S ++ [.ins c.PlainReading (fsO (.ref (S.length + 1)) (.str (St [])) (.bl true) (.bl false) (.ref (S.length + 2))), O.lst [], O.lst []], ?_, ?_⟩
  · simp [eMk, aN, dl_PlainReading_mk, ok]
  · exact {
      fx := ⟨_, rfl⟩
      o := by simp [i0]
      r := by simp
      m := by simp [i0]
      rows := trivial }
/-! ### the signs, one after another -/
theorem enumF_cons (k : Nat) (d : D) (ds : List D) : enumF k (d :: ds) = .tup [.int (k : Nat), d] :: enumF (k + 1) ds := rfl
section
variable {S0 : Sto}
theorem turn_t {s : MS} {S : Sto} {ks : List Nat} {k k0 : Nat} {a0 a2 a3 : Option D} (h : Rep c S0 S s ks) (g : Good s) (z : Sz s 16777214) (hk : k < 128) :
    ∃ S' ks', Rep c S0 S' (s.takes k).2 ks' ∧ lb_plain_of_1 c [a0, some (.ref S0.length), some (.int (k0 : Nat)), some (.str (St [k]))] S = (if (s.takes k).1 = true then .nx [a0, some (.ref S0.length), some (.int (k0 : Nat)), some (.str (St [k]))] S' else .exc [a0, some (.ref S0.length), some (.int (k0 : Nat)), some (.str (St [k]))] c.InvalidText (.int (k0 : Nat)) S') := by
  obtain ⟨S', ks', f, h'⟩ := takes_i h g.run z g.few hk
  refine ⟨S', ks', h', ?_⟩
  have m : eMt c.cs "takes" c.PlainReading 2 (F_PlainReading_takes c) (dl_PlainReading_takes.drop 0) (eV 1) (aC (eV 3) aN) [a0, some (.ref S0.length), some (.int (k0 : Nat)), some (.str (St [k]))] S = .ok (.bl (s.takes k).1) S' := (mt1_i (F := F_PlainReading_takes c) h.o rfl lkn.2.2.2.2.2.2.1 rfl).trans f
  have t := not_i (tv_i m)
  unfold lb_plain_of_1
  cases hb : (s.takes k).1 with
  | true =>
    rw [hb] at t
    rw [if_f t, if_pos rfl]
    rfl
  | false =>
    rw [hb] at t
    rw [if_t t, if_neg (by decide)]
    rfl
theorem loop_ok : ∀ (l : List Nat) (k0 N : Nat) (s s1 : MS) (S : Sto) (ks : List Nat) (a0 a2 a3 : Option D), Rep c S0 S s ks → Good s → feed s l = some s1 → Ok7 l → Sz s N → N + 2 * l.length ≤ 16777214 →
    ∃ S' ks' b2 b3, forI (.tp [.nm 2, .nm 3]) (lb_plain_of_1 c) (fun _ => True) (enumF k0 (signs (St l))) [a0, some (.ref S0.length), a2, a3] S = .nx [a0, some (.ref S0.length), b2, b3] S' ∧ Rep c S0 S' s1 ks' ∧ Sz s1 (N + 2 * l.length)
  | [], k0, N, s, s1, S, ks, a0, a2, a3, h, g, e, o7, z, hN => by
    simp only [feed] at e
    cases e
    exact ⟨S, ks, a2, a3, rfl, h, z⟩
  | k :: l, k0, N, s, s1, S, ks, a0, a2, a3, h, g, e, o7, z, hN => by
    simp only [List.length_cons] at hN
    simp only [feed] at e
    split at e
    · rename_i ht
      obtain ⟨S', ks', h', t⟩ := turn_t (k0 := k0) (a0 := a0) (a2 := a2) (a3 := a3) h g (z.mono (by omega)) (o7 k (List.mem_cons_self ..))
      rw [if_pos ht] at t
      obtain ⟨g', _⟩ := takes_good g ht
      obtain ⟨S2, ks2, b2, b3, f, h2, z2⟩ := loop_ok l (k0 + 1) (N + 2) _ s1 S' ks' a0 (some (.int (k0 : Nat))) (some (.str (St [k]))) h' g' e (fun x hx => o7 x (List.mem_cons_of_mem _ hx)) (z.takes k) (by omega)
      refine ⟨S2, ks2, b2, b3, ?_, h2, z2.mono (by simp; omega)⟩
      rw [signs_St, List.map_cons, enumF_cons, ← signs_St]
      have ea : Tg.asg S (.tp [.nm 2, .nm 3]) (.tup [.int (k0 : Nat), .str (St [k])]) [a0, some (.ref S0.length), a2, a3] = some [a0, some (.ref S0.length), some (.int (k0 : Nat)), some (.str (St [k]))] := asg_p2 ..
      simp only [forI, ea, t, if_true]
      exact f
    · cases e
theorem loop_bad : ∀ (l : List Nat) (k : Nat) (l2 : List Nat) (k0 N : Nat) (s s1 : MS) (S : Sto) (ks : List Nat) (a0 a2 a3 : Option D), Rep c S0 S s ks → Good s → feed s l = some s1 → (s1.takes k).1 = false → Ok7 l → k < 128 → Sz s N → N + 2 * l.length ≤ 16777214 →
    ∃ S' ρ', forI (.tp [.nm 2, .nm 3]) (lb_plain_of_1 c) (fun _ => True) (enumF k0 (signs (St (l ++ k :: l2)))) [a0, some (.ref S0.length), a2, a3] S = .exc ρ' c.InvalidText (.int ((k0 + l.length : Nat))) S' ∧ Fx S0 S'
  | [], k, l2, k0, N, s, s1, S, ks, a0, a2, a3, h, g, e, hb, o7, hk, z, hN => by
    simp only [feed] at e
    cases e
    obtain ⟨S', ks', h', t⟩ := turn_t (k0 := k0) (a0 := a0) (a2 := a2) (a3 := a3) h g (z.mono (by omega)) hk
    rw [hb, if_neg (by decide)] at t
    refine ⟨S', [a0, some (.ref S0.length), some (.int (k0 : Nat)), some (.str (St [k]))], ?_, h'.fx⟩
    · rw [List.nil_append, signs_St, List.map_cons, enumF_cons]
      have ea : Tg.asg S (.tp [.nm 2, .nm 3]) (.tup [.int (k0 : Nat), .str (St [k])]) [a0, some (.ref S0.length), a2, a3] = some [a0, some (.ref S0.length), some (.int (k0 : Nat)), some (.str (St [k]))] := asg_p2 ..
      simp only [forI, ea, t]
      rfl
  | j :: l, k, l2, k0, N, s, s1, S, ks, a0, a2, a3, h, g, e, hb, o7, hk, z, hN => by
    simp only [List.length_cons] at hN
    simp only [feed] at e
    split at e
    · rename_i ht
      obtain ⟨S', ks', h', t⟩ := turn_t (k0 := k0) (a0 := a0) (a2 := a2) (a3 := a3) h g (z.mono (by omega)) (o7 j (List.mem_cons_self ..))
      rw [if_pos ht] at t
      obtain ⟨g', _⟩ := takes_good g ht
      obtain ⟨S2, ρ2, f, h2⟩ := loop_bad l k l2 (k0 + 1) (N + 2) _ s1 S' ks' a0 (some (.int (k0 : Nat))) (some (.str (St [j]))) h' g' e hb (fun x hx => o7 x (List.mem_cons_of_mem _ hx)) hk (z.takes j) (by omega)
      refine ⟨S2, ρ2, ?_, h2⟩
      rw [List.cons_append, signs_St, List.map_cons, enumF_cons, ← signs_St]
      have ea : Tg.asg S (.tp [.nm 2, .nm 3]) (.tup [.int (k0 : Nat), .str (St [j])]) [a0, some (.ref S0.length), a2, a3] = some [a0, some (.ref S0.length), some (.int (k0 : Nat)), some (.str (St [j]))] := asg_p2 ..
      simp only [forI, ea, t, if_true]
      rw [f]
      have : k0 + 1 + l.length = k0 + (j :: l).length := by simp; omega
      rw [this]
    · cases e
end
/-! ### a text read -/
theorem sz0 : Sz i0 0 := ⟨by simp [i0], fun r hr => by simp [i0] at hr⟩
theorem pre_i (l : List Nat) (S : Sto) : ∃ S1, Rep c S S1 i0 [] ∧ ∀ (r : SR), (∀ S2 ρ2, S2 = S1 → ρ2 = [some (D.str (St l)), some (.ref S.length), none, none] → sSeq (sFor (.tp [(.nm 2), (.nm 3)]) (iEnT (eV 0)) (lb_plain_of_1 c))
    (sSeq (sIf (tNot (tV (eMt c.cs "is_whole" c.PlainReading 1 (F_PlainReading_is_whole c) (dl_PlainReading_is_whole.drop 0) (eV 1) aN))) (sRaise c.InvalidText (eCall fLen (aC (eV 0) aN))) sNx)
    (sRet (e2 fIx (eFld c.cs "made" (eV 1)) (eC (.int 0))))) ρ2 S2 = r) → den_plain_of c (env0 4 [.str (St l)]) S = r := by
  obtain ⟨S1, f, h⟩ := mk_i (c := c) S (env0 4 [.str (St l)])
  refine ⟨S1, h, fun r hr => ?_⟩
  unfold den_plain_of
  have t0 : tNot (tV (eCall (fIsi c.cs) (aC (eV 0) (aC (eC (.ty "str")) aN)))) (env0 4 [.str (St l)]) S = .ok false S := by
    simp [tNot, tV, eCall, aC, aN, eV, eC, env0, fIsi, tyD, isK, tNames, rB, tru]
  rw [seq_skip t0, seq_set f]
  exact hr S1 _ rfl rfl
theorem for_enT {l : List Nat} {ρ : Env} {S : Sto} {b : DS} (h : eV 0 ρ S = .ok (.str (St l)) S) : sFor (.tp [(.nm 2), (.nm 3)]) (iEnT (eV 0)) b ρ S = forI (.tp [.nm 2, .nm 3]) b (fun _ => True) (enumF 0 (signs (St l))) ρ S := by
  refine for_nx (ds := enumF 0 (signs (St l))) (chk := fun _ => True) ?_
  unfold iEnT
  rw [h]
  rfl
theorem of_ok {l : List Nat} (o7 : Ok7 l) (hl : l.length ≤ 8000000) {s1 : MS} (f : feed i0 l = some s1) (S : Sto) : ∃ S', Fx S S' ∧ F_plain_of c [.str (St l)] S = (if s1.whole.1 = true then .ok (s1.whole.2.made.headD .non) S' else .exc c.InvalidText (.int (l.length : Nat)) S') := by
  obtain ⟨S1, h1, run⟩ := pre_i (c := c) l S
  obtain ⟨S2, ks, b2, b3, lp, h2, z2⟩ := loop_ok l 0 0 i0 s1 S1 [] (some (.str (St l))) none none h1 good0 f o7 sz0 (by omega)
  obtain ⟨g1, _⟩ := feed_good _ good0 f
  obtain ⟨S3, w, h3⟩ := whole_i h2 g1.run (z2.mono (by omega))
  refine ⟨S3, h3.fx, ?_⟩
  have m : eMt c.cs "is_whole" c.PlainReading 1 (F_PlainReading_is_whole c) (dl_PlainReading_is_whole.drop 0) (eV 1) aN [some (D.str (St l)), some (.ref S.length), b2, b3] S2 = .ok (.bl s1.whole.1) S3 := (mt0_i (F := F_PlainReading_is_whole c) h2.o rfl lkn.2.2.2.2.2.2.2).trans w
  have t := not_i (tv_i m)
  unfold F_plain_of runB
  cases hb : s1.whole.1 with
  | true =>
    rw [hb] at t
    rw [run (.rt (s1.whole.2.made.headD .non) S3) ?_]
    · rfl
    rintro _ _ rfl rfl
    rw [seq_nx (a := sFor _ _ _) ((for_enT rfl).trans lp), seq_skip t]
    have fm : eFld c.cs "made" (eV 1) [some (D.str (St l)), some (.ref S.length), b2, b3] S3 = .ok (.ref (S.length + 2)) S3 := fld_i c h3.o rfl (lk_made ..)
    have len1 : s1.whole.2.made.length = 1 := by
      have e := hb
      unfold MS.whole at e ⊢
      simp only at e ⊢
      split at e
      · rename_i q
        rw [q] at e
        cases e
      · rename_i q
        rw [if_neg q]
        simp at e
        exact e.2
    obtain ⟨v, hv⟩ : ∃ v, s1.whole.2.made = [v] := List.length_eq_one_iff.mp len1
    refine ret_rt ?_
    rw [e2_ok fm (show eC (.int 0) _ S3 = .ok (.int 0) S3 from rfl)]
    simp only [fIx, h3.m, hv, atI_0]
    rfl
  | false =>
    rw [hb] at t
    rw [run (.exc [some (D.str (St l)), some (.ref S.length), b2, b3] c.InvalidText (.int (l.length : Nat)) S3) ?_]
    · rfl
    rintro _ _ rfl rfl
    rw [seq_nx (a := sFor _ _ _) ((for_enT rfl).trans lp)]
    refine seq_x ?_
    rw [if_t t]
    unfold sRaise
    have ln : eCall fLen (aC (eV 0) aN) [some (D.str (St l)), some (.ref S.length), b2, b3] S3 = .ok (.int (l.length : Nat)) S3 := (call1_ok rfl).trans (by
      have e : l.length ≤ 16777216 := by omega
      simp only [fLen, St_len, e, if_true])
    rw [ln]
    rfl
theorem of_bad {l : List Nat} {k : Nat} (l2 : List Nat) (o7 : Ok7 l) (hk : k < 128) (hl : l.length ≤ 8000000) {s1 : MS} (f : feed i0 l = some s1) (hb : (s1.takes k).1 = false) (S : Sto) : ∃ S', Fx S S' ∧ F_plain_of c [.str (St (l ++ k :: l2))] S = .exc c.InvalidText (.int (l.length : Nat)) S' := by
  obtain ⟨S1, h1, run⟩ := pre_i (c := c) (l ++ k :: l2) S
  obtain ⟨S2, ρ2, lp, fx⟩ := loop_bad l k l2 0 0 i0 s1 S1 [] (some (.str (St (l ++ k :: l2)))) none none h1 good0 f hb o7 hk sz0 (by omega)
  refine ⟨S2, fx, ?_⟩
  unfold F_plain_of runB
  rw [run (.exc ρ2 c.InvalidText (.int (l.length : Nat)) S2) ?_]
  rintro _ _ rfl rfl
  refine seq_x ?_
  rw [for_enT rfl, lp, Nat.zero_add]
theorem of_no {d : D} {S : Sto} (h : tNot (tV (eCall (fIsi c.cs) (aC (eV 0) (aC (eC (.ty "str")) aN)))) (env0 4 [d]) S = .ok true S) : F_plain_of c [d] S = .exc c.InvalidText (.int (-1)) S := by
  unfold F_plain_of runB den_plain_of
  rw [seq_x (a := sIf _ _ sNx) (ρ' := env0 4 [d]) (S' := S) (C := c.InvalidText) (d := .int (-1)) ((if_t h).trans rfl)]
/-! ### the law's own asking -/
theorem read_told {d v : D} {S S' : Sto} (h : F_plain_of c [d] S = .ok v S') : F__law_read c [d] S = .ok (.tup [.str "told", v]) S' := by
  have e : (sRet (eTup (aC (eC (.str "told")) (aC (eFn 1 (F_plain_of c) (dl_plain_of.drop 0) (aC (eV 0) aN)) aN)))) (env0 2 [d]) S = .rt (.tup [.str "told", v]) S' := ret_rt (etup_ok (acs rfl (acs ((fn1_ok (F := F_plain_of c) (show eV 0 (env0 2 [d]) S = .ok d S from rfl)).trans h) acn)))
  unfold F__law_read den__law_read runB sTry
  rw [e]
theorem read_wrong {d : D} {i : Int} {S S' : Sto} (h : F_plain_of c [d] S = .exc c.InvalidText (.int i) S') : F__law_read c [d] S = .ok (.tup [.str "wrong", .int i]) S' := by
  have e1 : eFn 1 (F_plain_of c) (dl_plain_of.drop 0) (aC (eV 0) aN) (env0 2 [d]) S = .exc c.InvalidText (.int i) S' := (fn1_ok (F := F_plain_of c) (show eV 0 (env0 2 [d]) S = .ok d S from rfl)).trans h
  have e : (sRet (eTup (aC (eC (.str "told")) (aC (eFn 1 (F_plain_of c) (dl_plain_of.drop 0) (aC (eV 0) aN)) aN)))) (env0 2 [d]) S = .exc (env0 2 [d]) c.InvalidText (.int i) S' := by
    have e1' : eFn 1 (F_plain_of c) dl_plain_of (aC (eV 0) aN) (env0 2 [d]) S = .exc c.InvalidText (.int i) S' := e1
    simp [sRet, eTup, aC, eC, e1']
  unfold F__law_read den__law_read runB sTry
  rw [e]
  simp [Ad.mt_StrokesError, Ad.is_InvalidText, env0, xIf, xIs, xAt, tru, R.safe, eTup, aC, aN, eC]
end Z.k67
namespace Z.k67
open PySem L2 Z TL
variable {c : Ad}
/-! ### what may stand next, as the law walks it -/
def envM (a0 : Option D) (m : M4) (a5 a6 : Option D) : Env := [a0, some (.int m.op), some (.str (St m.run)), some (.bl m.due), some (.bl m.fresh), a5, a6]
theorem bcStr : (" )" : Str) = St [32, 41] := by decide +kernel
theorem may_step {k : Nat} (hk : k < 128) (m : M4) (hr : m.run.length ≤ 16000000) (a0 a6 : Option D) (S : Sto) : lb__law_may_1 c (envM a0 m (some (.str (St [k]))) a6) S = .nx (envM a0 (mstep m k) (some (.str (St [k]))) a6) S := by
  have hv : ∀ m, eV 5 (envM a0 m (some (.str (St [k]))) a6) S = .ok (.str (St [k])) S := fun _ => rfl
  have eqv : ∀ (m : M4) (j : Nat) (t : Str), t = St [j] → j < 128 → Z.e2 fEq (eV 5) (eC (.str t)) (envM a0 m (some (.str (St [k]))) a6) S = .ok (.bl (decide (k = j))) S := fun m j t ht hj => (e2_ok (hv _) rfl).trans (by
    rw [ht, eq_St _ _ _ (.one hk) (.one hj)]
    by_cases q : k = j
    · subst q; simp
    · simp [q])
  have t1 := tvb_i (eqv m 40 "(" openStr (by decide))
  unfold lb__law_may_1
  by_cases h40 : k = 40
  · rw [decide_eq_true h40] at t1
    rw [if_t t1]
    have pl : Z.e2 fPlus (eV 1) (eC (.int 1)) (envM a0 m (some (.str (St [k]))) a6) S = .ok (.int (m.op + 1)) S := rfl
    unfold sPar3
    rw [pl]
    simp [eC, mstep, h40, envM]
  · rw [decide_eq_false h40] at t1
    rw [if_f t1]
    have t2 : tVB (Z.e2 fInC (eV 5) (eC (.str " )"))) (envM a0 m (some (.str (St [k]))) a6) S = .ok (decide (k ∈ [32, 41])) S := tvb_i ((e2_ok (hv _) rfl).trans (by rw [bcStr]; exact inC_St _ _ _))
    by_cases hb : k = 32 ∨ k = 41
    · have hm : k ∈ [32, 41] := by simpa using hb
      rw [decide_eq_true hm] at t2
      rw [if_t t2]
      have e1 := eqv m 32 " " blankStr (by decide)
      have e2 := eqv ⟨m.op, [], decide (k = 32), false⟩ 41 ")" closeStr (by decide)
      have p3 : sPar3 2 3 4 (eC (.str "")) (Z.e2 fEq (eV 5) (eC (.str " "))) (eC (.bl false)) (envM a0 m (some (.str (St [k]))) a6) S = .nx (envM a0 ⟨m.op, [], decide (k = 32), false⟩ (some (.str (St [k]))) a6) S := by
        unfold sPar3
        rw [show eC (.str "") (envM a0 m (some (.str (St [k]))) a6) S = .ok (.str "") S from rfl]
        simp only [R.to_ok]
        rw [e1]
        simp [eC, envM, emptyStr]
      rw [seq_nx p3]
      have i1 : Z.e2 fSub (eV 1) (eCall fInt (aC (Z.e2 fEq (eV 5) (eC (.str ")"))) aN)) (envM a0 ⟨m.op, [], decide (k = 32), false⟩ (some (.str (St [k]))) a6) S = .ok (.int (m.op - (if k = 41 then 1 else 0))) S := by
        rw [e2_ok (show eV 1 (envM a0 ⟨m.op, [], decide (k = 32), false⟩ (some (.str (St [k]))) a6) S = .ok (.int m.op) S from rfl) (call1_ok e2)]
        by_cases q : k = 41 <;> simp [q, fInt, fSub_ii]
      unfold sSet
      rw [i1]
      simp only [R.to_ok, mstep, h40, if_false, hb, if_true]
      rfl
    · have hm : k ∉ [32, 41] := by simpa using hb
      rw [decide_eq_false hm] at t2
      rw [if_f t2]
      have pl : Z.e2 fPlus (eV 2) (eV 5) (envM a0 m (some (.str (St [k]))) a6) S = .ok (.str (St (m.run ++ [k]))) S := (e2_ok (show eV 2 (envM a0 m (some (.str (St [k]))) a6) S = .ok (.str (St m.run)) S from rfl) (hv _)).trans (plus_St _ _ _ (by simp; omega))
      unfold sPar3
      rw [pl]
      simp [eC, mstep, h40, hb, envM]
theorem mrun_len (m : M4) (k : Nat) : (mstep m k).run.length ≤ m.run.length + 1 := by
  unfold mstep
  split
  · simp
  · split <;> simp
theorem may_loop : ∀ (l : List Nat) (m : M4) (a0 a5 a6 : Option D) (S : Sto), Ok7 l → m.run.length + l.length ≤ 16000000 → ∃ b5, forI (.nm 5) (lb__law_may_1 c) (fun _ => True) (signs (St l)) (envM a0 m a5 a6) S = .nx (envM a0 (l.foldl mstep m) b5 a6) S
  | [], m, a0, a5, a6, S, _, _ => ⟨a5, rfl⟩
  | k :: l, m, a0, a5, a6, S, o7, hl => by
    simp only [List.length_cons] at hl
    have := mrun_len m k
    obtain ⟨b5, f⟩ := may_loop l (mstep m k) a0 (some (.str (St [k]))) a6 S (fun x hx => o7 x (List.mem_cons_of_mem _ hx)) (by omega)
    refine ⟨b5, ?_⟩
    rw [signs_St, List.map_cons, ← signs_St]
    have ea : Tg.asg S (.nm 5) (.str (St [k])) (envM a0 m a5 a6) = some (envM a0 m (some (.str (St [k]))) a6) := asg_nm ..
    have st := may_step (c := c) (o7 k (List.mem_cons_self ..)) m (by omega) a0 a6 S
    simp only [forI, ea, st, if_true, List.foldl_cons]
    exact f
def LS (ls : List (List Nat)) : List D := ls.map fun t => .str (St t)
theorem LS_app (a b : List (List Nat)) : LS a ++ LS b = LS (a ++ b) := by simp [LS]
theorem LS_ones (l : List Nat) : signs (St l) = LS (ones l) := by simp [signs_St, LS, ones, Function.comp_def]
theorem LS_len (l : List (List Nat)) : (LS l).length = l.length := by simp [LS]
section
variable {ρ : Env} {S : Sto} {a b : DE}
theorem txt_i {t : Str} {l : List Nat} (h : t = St l) (hl : l.length ≤ 1000) : eLV (lTxt (eC (.str t))) ρ S = .ok (.lst (LS (ones l))) S := by
  refine elv_ok ?_
  have e : t.length ≤ 16777216 := by rw [h, St_len]; omega
  unfold lTxt
  simp only [eC, R.bind_ok, e, if_true]
  rw [h, LS_ones]
theorem cat_LS {x y : List (List Nat)} (ha : a ρ S = .ok (.lst (LS x)) S) (hb : b ρ S = .ok (.lst (LS y)) S) (hl : x.length + y.length ≤ 1000) : eLV (lCat a b) ρ S = .ok (.lst (LS (x ++ y))) S := by
  rw [← LS_app]
  exact elv_ok (cat_ok ha hb (by rw [LS_len, LS_len]; omega))
theorem if_i {t : DT} {k : Bool} {x y : D} (ht : t ρ S = .ok k S) (ha : k = true → a ρ S = .ok x S) (hb : k = false → b ρ S = .ok y S) : eIf t a b ρ S = .ok (if k = true then x else y) S := by
  unfold eIf
  rw [ht]
  simp only [R.bind_ok]
  cases k with
  | true => simpa using ha rfl
  | false => simpa using hb rfl
end
theorem sub_i {i j : Int} : True := trivial
/-- what the law's walk of a text tells -/
theorem may_i {l : List Nat} (o7 : Ok7 l) (hl : l.length ≤ 8000000) (S : Sto) {m : M4} (hm : m = l.foldl mstep ⟨0, [], true, false⟩) (rk : RunOk m.run) : F__law_may c [.str (St l)] S = .ok (.lst (LS (mayl m))) S := by
  obtain ⟨b5, lp⟩ := may_loop (c := c) l ⟨0, [], true, false⟩ (some (.str (St l))) none none S o7 (by simp; omega)
  rw [← hm] at lp
  have r7 := rk.ok7
  have rl := rk.len
  refine run_rt ?_
  unfold den__law_may
  have as : Tg.asg S (.tp [(.nm 1), (.nm 2), (.nm 3), (.nm 4)]) (.tup [.int 0, .str "", .bl true, .bl false]) (env0 7 [.str (St l)]) = some (envM (some (.str (St l))) ⟨0, [], true, false⟩ none none) := by
    rw [emptyStr]
    rfl
  rw [seq_asg (etup_ok (acs rfl (acs rfl (acs rfl (acs rfl acn))))) as]
  have fo : sFor (.nm 5) (iSeq (eV 0)) (lb__law_may_1 c) (envM (some (.str (St l))) ⟨0, [], true, false⟩ none none) S = .nx (envM (some (.str (St l))) m b5 none) S := by
    rw [for_nx (ds := signs (St l)) (chk := fun _ => True) (S1 := S) rfl]
    exact lp
  rw [seq_nx fo]
  obtain ⟨ρ, hρ⟩ : ∃ ρ, ρ = envM (some (.str (St l))) m b5 none := ⟨_, rfl⟩
  rw [← hρ]
  have v1 : eV 1 ρ S = .ok (.int m.op) S := by rw [hρ]; rfl
  have v2 : eV 2 ρ S = .ok (.str (St m.run)) S := by rw [hρ]; rfl
  have v3 : eV 3 ρ S = .ok (.bl m.due) S := by rw [hρ]; rfl
  have v4 : eV 4 ρ S = .ok (.bl m.fresh) S := by rw [hρ]; rfl
  have rlen : ρ.length = 7 := by rw [hρ]; rfl
  have td := tv_i v3
  cases hd : m.due with
  | true =>
    rw [hd] at td
    refine seq_rt ((if_t td).trans (ret_rt ?_))
    have one : ∀ (j : Nat) (t : Str), t = St [j] → eLV (aC (eC (.str t)) aN) ρ S = .ok (.lst (LS [[j]])) S := fun j t ht => by
      rw [ht]
      exact elv_ok (acs rfl acn)
    have nil0 : eLV aN ρ S = .ok (.lst (LS [])) S := rfl
    have two : eLV (aC (eC (.str "-")) (aC (eC (.str "n")) aN)) ρ S = .ok (.lst (LS [[45], [110]])) S := by
      rw [minusStr, show ("n" : Str) = St [110] from by decide +kernel]
      exact elv_ok (acs rfl (acs rfl acn))
    have c1 := cat_LS two (txt_i (ρ := ρ) (S := S) digStr (by decide)) (by decide)
    have lt : tVB (Z.e2 fLt (eV 1) (eC (.int 16))) ρ S = .ok (decide (m.op < 16)) S := tvb_i ((e2_ok v1 rfl).trans (by rw [fLt_ii]))
    have i1 := if_i lt (fun _ => one 40 "(" openStr) (fun _ => nil0)
    have e1 : (if decide (m.op < 16) = true then D.lst (LS [[40]]) else .lst (LS [])) = .lst (LS (if m.op < 16 then [[40]] else [])) := by
      by_cases q : m.op < 16 <;> simp [q]
    rw [e1] at i1
    have b1 : (if m.op < 16 then [[40]] else [] : List (List Nat)).length ≤ 1 := by split <;> simp
    have c2 := cat_LS c1 i1 (by simp [ones, digits]; omega)
    have i2 := if_i (tv_i v4) (fun _ => one 41 ")" closeStr) (fun _ => nil0)
    have e2 : (if m.fresh = true then D.lst (LS [[41]]) else .lst (LS [])) = .lst (LS (if m.fresh = true then [[41]] else [])) := by
      by_cases q : m.fresh = true <;> simp [q]
    rw [e2] at i2
    have b2 : (if m.fresh = true then [[41]] else [] : List (List Nat)).length ≤ 1 := by split <;> simp
    have c3 := cat_LS c2 i2 (by simp [ones, digits]; omega)
    have em : mayl m = ([[45], [110]] ++ ones digits ++ if m.op < 16 then [[40]] else []) ++ if m.fresh = true then [[41]] else [] := by
      unfold mayl
      rw [if_pos hd]
    rw [em]
    exact c3
  | false =>
    rw [hd] at td
    rw [seq_skip td]
    have gt : tVB (Z.e2 fGt (eV 1) (eC (.int 0))) ρ S = .ok (decide (0 < m.op)) S := tvb_i ((e2_ok v1 rfl).trans (by rw [fGt_ii]))
    have two : eLV (aC (eC (.str " ")) (aC (eC (.str ")")) aN)) ρ S = .ok (.lst (LS [[32], [41]])) S := by
      rw [blankStr, closeStr]
      exact elv_ok (acs rfl (acs rfl acn))
    have one0 : eLV (aC (eC (.str "")) aN) ρ S = .ok (.lst (LS [[]])) S := by
      rw [emptyStr]
      exact elv_ok (acs rfl acn)
    have ie := if_i gt (fun _ => two) (fun _ => one0)
    have e1 : (if decide (0 < m.op) = true then D.lst (LS [[32], [41]]) else .lst (LS [[]])) = .lst (LS (endsL m.op)) := by
      unfold endsL
      by_cases q : 0 < m.op <;> simp [q]
    rw [e1] at ie
    rw [seq_set ie]
    obtain ⟨ρ2, hρ2⟩ : ∃ ρ2, ρ2 = ρ.set 6 (some (.lst (LS (endsL m.op)))) := ⟨_, rfl⟩
    rw [← hρ2]
    have w2 : eV 2 ρ2 S = .ok (.str (St m.run)) S := by rw [hρ2]; exact (eV_ne (by decide) _).trans v2
    have w6 : eV 6 ρ2 S = .ok (.lst (LS (endsL m.op))) S := by rw [hρ2]; exact eV_set (by rw [rlen]; decide) _
    have bE : (endsL m.op).length ≤ 2 := by unfold endsL; split <;> simp
    have t1 : tVB (Z.e2 fEq (eV 2) (eC (.str ""))) ρ2 S = .ok (decide (m.run = [])) S := tvb_i ((e2_ok w2 rfl).trans (by rw [emptyStr]; exact eq_St _ _ _ r7 .nil))
    have em : mayl m = if m.run = [] then endsL m.op
      else if m.run.headD 0 = 110 then (if m.run = noneL then endsL m.op else [[noneL.getD m.run.length 0]])
      else if m.run = [45] then ones [49, 50, 51, 52, 53, 54, 55, 56, 57]
      else (if m.run ≠ [48] ∧ (m.run.filter (· ≠ 45)).length < 12 then ones digits else []) ++ endsL m.op := by
      unfold mayl
      rw [hd, if_neg (by decide)]
    rw [em]
    by_cases h0 : m.run = []
    · rw [decide_eq_true h0] at t1
      rw [if_pos h0]
      exact seq_rt ((if_t t1).trans (ret_rt w6))
    · rw [decide_eq_false h0] at t1
      rw [if_neg h0, seq_skip t1]
      have t2 : tVB (Z.e2 fEq (Z.e2 fIx (eV 2) (eC (.int 0))) (eC (.str "n"))) ρ2 S = .ok (decide (m.run.headD 0 = 110)) S := by
        cases hr : m.run with
        | nil => exact absurd hr h0
        | cons a r =>
          rw [hr] at w2 r7 rl
          simp at rl
          have i1 : Z.e2 fIx (eV 2) (eC (.int 0)) ρ2 S = .ok (.str (St [a])) S := (e2_ok w2 rfl).trans (ix0_St a r S (by omega))
          refine tvb_i ((e2_ok i1 rfl).trans ?_)
          rw [show ("n" : Str) = St [110] from by decide +kernel, eq_St _ _ _ (.one (r7 a (List.mem_cons_self ..))) (.one (by decide))]
          by_cases q : a = 110
          · subst q; simp
          · simp [q]
      by_cases h1 : m.run.headD 0 = 110
      · rw [decide_eq_true h1] at t2
        rw [if_pos h1]
        refine seq_rt ((if_t t2).trans (ret_rt ?_))
        have t3 : tVB (Z.e2 fEq (eV 2) (eC (.str "none"))) ρ2 S = .ok (decide (m.run = noneL)) S := tvb_i ((e2_ok w2 rfl).trans (by rw [noneStr]; exact eq_St _ _ _ r7 .none))
        have ln : eCall fLen (aC (eV 2) aN) ρ2 S = .ok (.int (m.run.length : Nat)) S := (call1_ok w2).trans (by
          have e : m.run.length ≤ 16777216 := by omega
          simp only [fLen, St_len, e, if_true])
        have ix : m.run ≠ noneL → eLV (aC (Z.e2 fIx (eC (.str "none")) (eCall fLen (aC (eV 2) aN))) aN) ρ2 S = .ok (.lst (LS [[noneL.getD m.run.length 0]])) S := fun hn => by
          have short : m.run = [110] ∨ m.run = [110, 111] ∨ m.run = [110, 111, 110] := by
            cases rk' : m.run with
            | nil => exact absurd rk' h0
            | cons a r =>
              rw [rk'] at rk h1 hn
              generalize hq : a :: r = q at rk h1 hn ⊢
              cases rk with
              | nil => cases hq
              | word j g1 g2 =>
                rcases word_cases g1 g2 with e | e | e | e
                · exact .inl e
                · exact .inr (.inl e)
                · exact .inr (.inr e)
                · exact absurd e hn
              | minus => simp at h1
              | dig _ h =>
                obtain ⟨a', r', rfl, ha⟩ := h.head
                simp at h1
                omega
              | neg _ h hz => simp at h1
          have j1 : Z.e2 fIx (eC (.str "none")) (eCall fLen (aC (eV 2) aN)) ρ2 S = .ok (.str (St [noneL.getD m.run.length 0])) S := by
            rw [e2_ok (show eC (.str "none") ρ2 S = .ok (.str "none") S from rfl) ln]
            have e4 : (("none" : Str)).length ≤ 16777216 := by decide +kernel
            have e5 : (("none" : Str)).cps.toList = noneL := by decide +kernel
            simp only [fIx, e4, if_true, e5, atI_nat]
            rcases short with e | e | e <;> rw [e] <;> rfl
          exact elv_ok (acs j1 acn)
        by_cases hn : m.run = noneL
        · rw [decide_eq_true hn] at t3
          rw [if_pos hn]
          unfold eIf
          rw [t3]
          simpa using w6
        · rw [decide_eq_false hn] at t3
          rw [if_neg hn]
          unfold eIf
          rw [t3]
          simpa using ix hn
      · rw [decide_eq_false h1] at t2
        rw [if_neg h1, seq_skip t2]
        have t4 : tVB (Z.e2 fEq (eV 2) (eC (.str "-"))) ρ2 S = .ok (decide (m.run = [45])) S := tvb_i ((e2_ok w2 rfl).trans (by rw [minusStr]; exact eq_St _ _ _ r7 (.one (by decide))))
        by_cases h2 : m.run = [45]
        · rw [decide_eq_true h2] at t4
          rw [if_pos h2]
          exact seq_rt ((if_t t4).trans (ret_rt (txt_i (show ("123456789" : Str) = St [49, 50, 51, 52, 53, 54, 55, 56, 57] from by decide +kernel) (by decide))))
        · rw [decide_eq_false h2] at t4
          rw [if_neg h2, seq_skip t4]
          have t5 : tVB (Z.e2 fNe (eV 2) (eC (.str "0"))) ρ2 S = .ok (!decide (m.run = [48])) S := tvb_i ((e2_ok w2 rfl).trans (by rw [zeroStr]; exact ne_St _ _ _ r7 (.one (by decide))))
          have t6 : tVB (Z.e2 fLt (Z.e1 fLenS (Z.e1 (fRepl "-" "") (eV 2))) (eC (.int 12))) ρ2 S = .ok (decide ((m.run.filter (· ≠ 45)).length < 12)) S := by
            have r1 : Z.e1 (fRepl "-" "") (eV 2) ρ2 S = .ok (.str (St (m.run.filter (· ≠ 45)))) S := (e1_ok w2).trans (repl_St _ _ (by omega))
            have fl : (m.run.filter (· ≠ 45)).length ≤ m.run.length := List.length_filter_le ..
            have r2 : Z.e1 fLenS (Z.e1 (fRepl "-" "") (eV 2)) ρ2 S = .ok (.int ((m.run.filter (· ≠ 45)).length : Nat)) S := (e1_ok r1).trans (by
              have e : (m.run.filter (· ≠ 45)).length ≤ 16777216 := by omega
              simp only [fLenS, St_len, e, if_true])
            refine tvb_i ((e2_ok r2 rfl).trans ?_)
            rw [fLt_ii]
            have e : decide ((((m.run.filter (· ≠ 45)).length : Nat) : Int) < 12) = decide ((m.run.filter (· ≠ 45)).length < 12) := by
              rw [decide_eq_decide]
              omega
            rw [e]
          have t7 : tAnd (tVB (Z.e2 fNe (eV 2) (eC (.str "0")))) (tVB (Z.e2 fLt (Z.e1 fLenS (Z.e1 (fRepl "-" "") (eV 2))) (eC (.int 12)))) ρ2 S = .ok (decide (m.run ≠ [48] ∧ (m.run.filter (· ≠ 45)).length < 12)) S := by
            unfold tAnd
            rw [t5]
            simp only [R.bind_ok]
            by_cases q : m.run = [48]
            · simp only [q, decide_true, Bool.not_true, Bool.false_eq_true, if_false, ne_eq, not_true, false_and, decide_false]
            · simp only [q, decide_false, Bool.not_false, if_true, t6, ne_eq, not_false_eq_true, true_and]
          have i3 := if_i t7 (fun _ => txt_i (ρ := ρ2) (S := S) digStr (by decide)) (fun _ => (show eLV aN ρ2 S = .ok (.lst (LS [])) S from rfl))
          have e3 : (if decide (m.run ≠ [48] ∧ (m.run.filter (· ≠ 45)).length < 12) = true then D.lst (LS (ones digits)) else .lst (LS [])) = .lst (LS (if m.run ≠ [48] ∧ (m.run.filter (· ≠ 45)).length < 12 then ones digits else [])) := by
            by_cases q : m.run ≠ [48] ∧ (m.run.filter (· ≠ 45)).length < 12
            · rw [decide_eq_true q, if_pos rfl, if_pos q]
            · rw [decide_eq_false q, if_neg (by decide), if_neg q]
          rw [e3] at i3
          have b3 : (if m.run ≠ [48] ∧ (m.run.filter (· ≠ 45)).length < 12 then ones digits else [] : List (List Nat)).length ≤ 10 := by split <;> simp [ones, digits]
          exact ret_rt (cat_LS i3 w6 (by omega))
end Z.k67
namespace Z.k67
open PySem L2 Z TL
variable {c : Ad}
/-! ### values written -/
def dg (r : Nat) : List Nat := if r = 0 then [] else numL r
theorem dg_step {r : Nat} (h : 0 < r) (F : List Nat) : dg (r / 10) ++ ((48 + r % 10) :: F) = dg r ++ F := by
  unfold dg
  rw [if_neg (show ¬ r = 0 by omega)]
  by_cases h9 : r < 10
  · rw [if_pos (show r / 10 = 0 by omega), numL_lt h9, show r % 10 = r by omega]
    rfl
  · rw [if_neg (show ¬ r / 10 = 0 by omega), numL_step (n := r) (by omega)]
    simp
theorem digit_ix (j : Nat) (h : j < 10) (S : Sto) : fIx (.str "0123456789") (.int (j : Nat)) S = .ok (.str (St [48 + j])) S := by
  have e4 : (("0123456789" : Str)).length ≤ 16777216 := by decide +kernel
  have e5 : (("0123456789" : Str)).cps.toList = digits := by decide +kernel
  simp only [fIx, e4, if_true, e5, atI_nat]
  have : j = 0 ∨ j = 1 ∨ j = 2 ∨ j = 3 ∨ j = 4 ∨ j = 5 ∨ j = 6 ∨ j = 7 ∨ j = 8 ∨ j = 9 := by omega
  rcases this with rfl | rfl | rfl | rfl | rfl | rfl | rfl | rfl | rfl | rfl <;> rfl
theorem fig_loop : ∀ (k r : Nat) (F : List Nat) (fuel : Nat) (a0 a1 a2 a3 : Option D) (S : Sto), r < 10 ^ k → k < fuel → F.length + k ≤ 1000 →
    whileI (tVB (Z.e2 fGt (eV 5) (eC (.int 0)))) (sPar 4 5 (Z.e2 fPlus (Z.e2 fIx (eC (.str "0123456789")) (Z.e2 fMod (eCall fInt (aC (eV 5) aN)) (eC (.int 10)))) (eV 4)) (Z.e2 fDiv (eV 5) (eC (.int 10)))) fuel [a0, a1, a2, a3, some (.str (St F)), some (.int (r : Nat))] S
      = .nx [a0, a1, a2, a3, some (.str (St (dg r ++ F))), some (.int 0)] S
  | k, r, F, 0, a0, a1, a2, a3, S, h1, h2, h3 => by omega
  | k, r, F, fuel + 1, a0, a1, a2, a3, S, h1, h2, h3 => by
    have t : tVB (Z.e2 fGt (eV 5) (eC (.int 0))) [a0, a1, a2, a3, some (.str (St F)), some (.int (r : Nat))] S = .ok (decide ((0 : Int) < (r : Nat))) S := tvb_i ((e2_ok rfl rfl).trans (by rw [fGt_ii]))
    by_cases h0 : r = 0
    · subst h0
      rw [show decide ((0 : Int) < ((0 : Nat) : Int)) = false from rfl] at t
      unfold whileI
      rw [t]
      rfl
    · have hk : k ≠ 0 := fun z => by subst z; simp at h1; exact h0 h1
      obtain ⟨k', rfl⟩ : ∃ k', k = k' + 1 := ⟨k - 1, by omega⟩
      rw [decide_eq_true (by omega)] at t
      have m1 : Z.e2 fMod (eCall fInt (aC (eV 5) aN)) (eC (.int 10)) [a0, a1, a2, a3, some (.str (St F)), some (.int (r : Nat))] S = .ok (.int ((r % 10 : Nat))) S := by
        rw [e2_ok (call1_ok (f := fInt) (show eV 5 [a0, a1, a2, a3, some (.str (St F)), some (.int (r : Nat))] S = .ok (.int (r : Nat)) S from rfl)) (show eC (.int 10) _ S = .ok (.int 10) S from rfl)]
        rw [fMod_ii, if_pos (by decide)]
        rfl
      have i1 : Z.e2 fIx (eC (.str "0123456789")) (Z.e2 fMod (eCall fInt (aC (eV 5) aN)) (eC (.int 10))) [a0, a1, a2, a3, some (.str (St F)), some (.int (r : Nat))] S = .ok (.str (St [48 + r % 10])) S := (e2_ok rfl m1).trans (digit_ix _ (Nat.mod_lt _ (by decide)) S)
      have p1 : Z.e2 fPlus (Z.e2 fIx (eC (.str "0123456789")) (Z.e2 fMod (eCall fInt (aC (eV 5) aN)) (eC (.int 10)))) (eV 4) [a0, a1, a2, a3, some (.str (St F)), some (.int (r : Nat))] S = .ok (.str (St ((48 + r % 10) :: F))) S := (e2_ok i1 rfl).trans (plus_St _ _ _ (by simp; omega))
      have d1 : Z.e2 fDiv (eV 5) (eC (.int 10)) [a0, a1, a2, a3, some (.str (St F)), some (.int (r : Nat))] S = .ok (.int ((r / 10 : Nat))) S := by
        rw [e2_ok (show eV 5 [a0, a1, a2, a3, some (.str (St F)), some (.int (r : Nat))] S = .ok (.int (r : Nat)) S from rfl) (show eC (.int 10) _ S = .ok (.int 10) S from rfl)]
        rw [fDiv_ii, if_pos (divOk_of (by decide) (by decide +kernel))]
        rfl
      have b : sPar 4 5 (Z.e2 fPlus (Z.e2 fIx (eC (.str "0123456789")) (Z.e2 fMod (eCall fInt (aC (eV 5) aN)) (eC (.int 10)))) (eV 4)) (Z.e2 fDiv (eV 5) (eC (.int 10))) [a0, a1, a2, a3, some (.str (St F)), some (.int (r : Nat))] S = .nx [a0, a1, a2, a3, some (.str (St ((48 + r % 10) :: F))), some (.int ((r / 10 : Nat)))] S := by
        unfold sPar
        rw [p1]
        simp only [R.to_ok]
        rw [d1]
        rfl
      rw [while_t t b]
      have hr : r / 10 < 10 ^ k' := by
        rw [Nat.pow_succ] at h1
        omega
      rw [fig_loop k' (r / 10) ((48 + r % 10) :: F) fuel a0 a1 a2 a3 S hr (by omega) (by simp; omega), dg_step (by omega)]
theorem numL_0 : numL 0 = [48] := numL_lt (by decide)
theorem num_dg (i : Int) : num i = (if i < 0 then [45] else []) ++ (if dg i.natAbs ≠ [] then dg i.natAbs else [48]) := by
  have e : (if dg i.natAbs ≠ [] then dg i.natAbs else [48]) = numL i.natAbs := by
    by_cases h : i.natAbs = 0
    · rw [h]
      simp [dg, numL_0]
    · have : dg i.natAbs = numL i.natAbs := by unfold dg; rw [if_neg h]
      rw [this, if_pos (numL_ne _)]
  rw [e]
  unfold num
  split <;> rfl
theorem wr_len_mem : ∀ {ds : List D} {d : D}, d ∈ ds → (wr d).length ≤ (wrr ds).length
  | [], _, h => by simp at h
  | e :: ds, d, h => by
    simp only [wrr, List.length_cons, List.length_append]
    rcases List.mem_cons.mp h with rfl | h
    · omega
    · have := wr_len_mem h
      omega
theorem wrs_len : ∀ (ds : List D), (wrr ds).length ≤ (wrs ds).length + 1
  | [] => by simp [wrr]
  | d :: ds => by simp [wrr, wrs]
theorem wrs_le (ds : List D) : (wrs ds).length ≤ (wrr ds).length := by
  cases ds with
  | nil => simp [wrs]
  | cons d ds => simp [wrr, wrs]
theorem num_ok7 {i : Int} (h : i.natAbs < 1000000000000) : Ok7 (num i) := (num_run h).ok7
theorem wr_ok7 : ∀ (n : Nat) (d : D), Pl n d → Ok7 (wr d)
  | n, .non, _ => by simp only [wr]; exact .none
  | n, .int i, h => by
    simp only [wr]
    exact num_ok7 (by cases n <;> exact h)
  | n + 1, .tup ds, h => by
    have h' : ∀ d ∈ ds, Pl n d := h
    have key : ∀ es : List D, (∀ d ∈ es, Pl n d) → Ok7 (wrr es) := by
      intro es
      induction es with
      | nil => intro _; simp only [wrr]; exact .nil
      | cons d es ih =>
        intro he
        simp only [wrr]
        have a := wr_ok7 n d (he d (List.mem_cons_self ..))
        have b := ih fun x hx => he x (List.mem_cons_of_mem _ hx)
        exact Ok7.app (a := [32]) (.one (by decide)) (a.app b)
    simp only [wr]
    refine Ok7.app (a := [40]) (.one (by decide)) (Ok7.app ?_ (.one (by decide)))
    cases ds with
    | nil => simp only [wrs]; exact .nil
    | cons d ds =>
      simp only [wrs]
      exact (wr_ok7 n d (h' d (List.mem_cons_self ..))).app (key ds fun x hx => h' x (List.mem_cons_of_mem _ hx))
  | 0, .tup ds, h => h.elim
  | 0, .bl _, h | 0, .str _, h | 0, .lst _, h | 0, .scr _, h | 0, .ref _, h | 0, .adr _, h | 0, .ty _, h => h.elim
  | n + 1, .bl _, h | n + 1, .str _, h | n + 1, .lst _, h | n + 1, .scr _, h | n + 1, .ref _, h | n + 1, .adr _, h | n + 1, .ty _, h => h.elim
/-- the loop of the law's writing -/
theorem wr_loop {F : List D → Sto → R D} {S : Sto} : ∀ (ds : List D) (k : Nat) (T : List Nat) (a0 a2 a3 a4 a5 : Option D), (∀ d ∈ ds, F [d] S = .ok (.str (St (wr d))) S) → 1 ≤ k → T.length + (wrr ds).length ≤ 16000000 →
    ∃ b2 b3, forI (.tp [(.nm 2), (.nm 3)]) (sSet 1 (Z.e2 fPlus (Z.e2 fPlus (eV 1) (eIf (tVB (Z.e2 fGt (eV 2) (eC (.int 0)))) (eC (.str " ")) (eC (.str "")))) (eFn 1 F (dl__law_written.drop 0) (aC (eV 3) aN)))) (fun _ => True) (enumF k ds) [a0, some (.str (St T)), a2, a3, a4, a5] S = .nx [a0, some (.str (St (T ++ wrr ds))), b2, b3, a4, a5] S
  | [], k, T, a0, a2, a3, a4, a5, hF, hk, hl => by
    refine ⟨a2, a3, ?_⟩
    simp [forI, enumF, wrr]
  | d :: ds, k, T, a0, a2, a3, a4, a5, hF, hk, hl => by
    simp only [wrr, List.length_cons, List.length_append] at hl
    obtain ⟨b2, b3, f⟩ := wr_loop ds (k + 1) (T ++ 32 :: wr d) a0 (some (.int (k : Nat))) (some d) a4 a5 (fun x hx => hF x (List.mem_cons_of_mem _ hx)) (by omega) (by simp; omega)
    refine ⟨b2, b3, ?_⟩
    have ea : Tg.asg S (.tp [.nm 2, .nm 3]) (.tup [.int (k : Nat), d]) [a0, some (.str (St T)), a2, a3, a4, a5] = some [a0, some (.str (St T)), some (.int (k : Nat)), some d, a4, a5] := asg_p2 ..
    have i1 : eIf (tVB (Z.e2 fGt (eV 2) (eC (.int 0)))) (eC (.str " ")) (eC (.str "")) [a0, some (.str (St T)), some (.int (k : Nat)), some d, a4, a5] S = .ok (.str (St [32])) S := by
      have t : tVB (Z.e2 fGt (eV 2) (eC (.int 0))) [a0, some (.str (St T)), some (.int (k : Nat)), some d, a4, a5] S = .ok true S := tvb_i ((e2_ok rfl rfl).trans (by rw [fGt_ii, decide_eq_true (by omega)]))
      unfold eIf
      rw [t, blankStr]
      rfl
    have p1 : Z.e2 fPlus (eV 1) (eIf (tVB (Z.e2 fGt (eV 2) (eC (.int 0)))) (eC (.str " ")) (eC (.str ""))) [a0, some (.str (St T)), some (.int (k : Nat)), some d, a4, a5] S = .ok (.str (St (T ++ [32]))) S := (e2_ok rfl i1).trans (plus_St _ _ _ (by simp; omega))
    have p2 : eFn 1 F (dl__law_written.drop 0) (aC (eV 3) aN) [a0, some (.str (St T)), some (.int (k : Nat)), some d, a4, a5] S = .ok (.str (St (wr d))) S := (fn1_ok (F := F) rfl).trans (hF d (List.mem_cons_self ..))
    have p3 : Z.e2 fPlus (Z.e2 fPlus (eV 1) (eIf (tVB (Z.e2 fGt (eV 2) (eC (.int 0)))) (eC (.str " ")) (eC (.str "")))) (eFn 1 F (dl__law_written.drop 0) (aC (eV 3) aN)) [a0, some (.str (St T)), some (.int (k : Nat)), some d, a4, a5] S = .ok (.str (St (T ++ 32 :: wr d))) S := by
      rw [e2_ok p1 p2, plus_St _ _ _ (by simp; omega)]
      simp
    have st : sSet 1 (Z.e2 fPlus (Z.e2 fPlus (eV 1) (eIf (tVB (Z.e2 fGt (eV 2) (eC (.int 0)))) (eC (.str " ")) (eC (.str "")))) (eFn 1 F (dl__law_written.drop 0) (aC (eV 3) aN))) [a0, some (.str (St T)), some (.int (k : Nat)), some d, a4, a5] S = .nx [a0, some (.str (St (T ++ 32 :: wr d))), some (.int (k : Nat)), some d, a4, a5] S := by
      unfold sSet
      rw [p3]
      rfl
    rw [enumF_cons]
    simp only [forI, ea, st, if_true]
    rw [f]
    simp [wrr]
theorem wr_loop0 {F : List D → Sto → R D} {S : Sto} (ds : List D) (a0 a2 a3 a4 a5 : Option D) (hF : ∀ d ∈ ds, F [d] S = .ok (.str (St (wr d))) S) (hl : (wrr ds).length ≤ 16000000) :
    ∃ b2 b3, forI (.tp [(.nm 2), (.nm 3)]) (sSet 1 (Z.e2 fPlus (Z.e2 fPlus (eV 1) (eIf (tVB (Z.e2 fGt (eV 2) (eC (.int 0)))) (eC (.str " ")) (eC (.str "")))) (eFn 1 F (dl__law_written.drop 0) (aC (eV 3) aN)))) (fun _ => True) (enumF 0 ds) [a0, some (.str (St [])), a2, a3, a4, a5] S = .nx [a0, some (.str (St (wrs ds))), b2, b3, a4, a5] S := by
  cases ds with
  | nil => exact ⟨a2, a3, by simp [forI, enumF, wrs]⟩
  | cons d ds =>
    simp only [wrr, List.length_cons, List.length_append] at hl
    obtain ⟨b2, b3, f⟩ := wr_loop (F := F) (S := S) ds 1 (wr d) a0 (some (.int (0 : Nat))) (some d) a4 a5 (fun x hx => hF x (List.mem_cons_of_mem _ hx)) (by omega) (by omega)
    refine ⟨b2, b3, ?_⟩
    have ea : Tg.asg S (.tp [.nm 2, .nm 3]) (.tup [.int (0 : Nat), d]) [a0, some (.str (St [])), a2, a3, a4, a5] = some [a0, some (.str (St [])), some (.int (0 : Nat)), some d, a4, a5] := asg_p2 ..
    have i1 : eIf (tVB (Z.e2 fGt (eV 2) (eC (.int 0)))) (eC (.str " ")) (eC (.str "")) [a0, some (.str (St [])), some (.int (0 : Nat)), some d, a4, a5] S = .ok (.str (St [])) S := by
      have t : tVB (Z.e2 fGt (eV 2) (eC (.int 0))) [a0, some (.str (St [])), some (.int (0 : Nat)), some d, a4, a5] S = .ok false S := tvb_i ((e2_ok rfl rfl).trans (by rw [fGt_ii]; rfl))
      unfold eIf
      rw [t, emptyStr]
      rfl
    have p1 : Z.e2 fPlus (eV 1) (eIf (tVB (Z.e2 fGt (eV 2) (eC (.int 0)))) (eC (.str " ")) (eC (.str ""))) [a0, some (.str (St [])), some (.int (0 : Nat)), some d, a4, a5] S = .ok (.str (St [])) S := (e2_ok rfl i1).trans (plus_St _ _ _ (by simp))
    have p2 : eFn 1 F (dl__law_written.drop 0) (aC (eV 3) aN) [a0, some (.str (St [])), some (.int (0 : Nat)), some d, a4, a5] S = .ok (.str (St (wr d))) S := (fn1_ok (F := F) rfl).trans (hF d (List.mem_cons_self ..))
    have p3 := (e2_ok (f := fPlus) p1 p2).trans (plus_St _ _ _ (by simp; omega))
    have st : sSet 1 (Z.e2 fPlus (Z.e2 fPlus (eV 1) (eIf (tVB (Z.e2 fGt (eV 2) (eC (.int 0)))) (eC (.str " ")) (eC (.str "")))) (eFn 1 F (dl__law_written.drop 0) (aC (eV 3) aN))) [a0, some (.str (St [])), some (.int (0 : Nat)), some d, a4, a5] S = .nx [a0, some (.str (St (wr d))), some (.int (0 : Nat)), some d, a4, a5] S := by
      unfold sSet
      rw [p3]
      rfl
    rw [enumF_cons]
    simp only [forI, ea, st, if_true]
    rw [f]
    simp [wrs]
theorem isN_i {d : D} {a : DE} {ρ : Env} {S : Sto} (h : a ρ S = .ok d S) (hd : d ≠ .non) : tVB (Z.e1 fIsN a) ρ S = .ok false S := by
  refine tvb_i ((e1_ok h).trans ?_)
  cases d <;> first | rfl | exact absurd rfl hd
theorem written_i : ∀ (q n : Nat) (d : D), n < q → Pl n d → (wr d).length ≤ 1000000 → ∀ S, F__law_written c q [d] S = .ok (.str (St (wr d))) S
  | 0, n, d, hq, _, _, _ => by omega
  | q + 1, n, d, hq, hp, hl, S => by
    show runB 6 (den__law_written c (F__law_written c q)) [d] S = _
    refine run_rt ?_
    unfold den__law_written
    cases d with
    | non =>
      have t : tVB (Z.e1 fIsN (eV 0)) (env0 6 [.non]) S = .ok true S := rfl
      refine seq_rt ((if_t t).trans ?_)
      simp only [wr, noneStr]
      rfl
    | int i =>
      have hi : i.natAbs < 1000000000000 := by cases n <;> exact hp
      rw [seq_skip (isN_i (show eV 0 (env0 6 [.int i]) S = .ok (.int i) S from rfl) (by simp))]
      have t2 : tV (eCall (fIsi c.cs) (aC (eV 0) (aC (eC (.ty "tuple")) aN))) (env0 6 [.int i]) S = .ok false S := by
        simp [tV, eCall, aC, aN, eV, eC, env0, fIsi, tyD, isK, tNames, rB, tru]
      rw [seq_skip t2]
      have ab : eCall fAbs (aC (eV 0) aN) (env0 6 [.int i]) S = .ok (.int (i.natAbs : Nat)) S := (call1_ok (show eV 0 (env0 6 [.int i]) S = .ok (.int i) S from rfl)).trans (by
        simp only [fAbs]
        congr 2
        split <;> omega)
      rw [seq_par (d := .str "") (S1 := S) rfl ab]
      have e0 : (((env0 6 [.int i]).set 4 (some (.str ""))).set 5 (some (.int (i.natAbs : Nat)))) = [some (.int i), none, none, none, some (.str (St [])), some (.int (i.natAbs : Nat))] := by
        rw [← emptyStr]
        rfl
      rw [e0, seq_nx (fig_loop 12 i.natAbs [] 16 _ _ _ _ S (by simpa using hi) (by decide) (by simp))]
      rw [List.append_nil]
      have g7 : Ok7 (dg i.natAbs) := by
        unfold dg
        split
        · exact .nil
        · exact .dig (numL_digits _)
      have gl : (dg i.natAbs).length ≤ 13 := by
        unfold dg
        split
        · simp
        · have := numL_len (n := i.natAbs) (k := 12) (by decide) (by simpa using hi)
          omega
      refine ret_rt ?_
      have x1 : eIf (tVB (Z.e2 fLt (eV 0) (eC (.int 0)))) (eC (.str "-")) (eC (.str "")) [some (.int i), none, none, none, some (.str (St (dg i.natAbs))), some (.int 0)] S = .ok (.str (St (if i < 0 then [45] else []))) S := by
        have t : tVB (Z.e2 fLt (eV 0) (eC (.int 0))) [some (.int i), none, none, none, some (.str (St (dg i.natAbs))), some (.int 0)] S = .ok (decide (i < 0)) S := tvb_i ((e2_ok rfl rfl).trans (by rw [fLt_ii]))
        unfold eIf
        rw [t, minusStr, emptyStr]
        by_cases h : i < 0 <;> simp [h, eC]
      have x2 : eIf (tVB (Z.e2 fNe (eV 4) (eC (.str "")))) (eV 4) (eC (.str "0")) [some (.int i), none, none, none, some (.str (St (dg i.natAbs))), some (.int 0)] S = .ok (.str (St (if dg i.natAbs ≠ [] then dg i.natAbs else [48]))) S := by
        have t : tVB (Z.e2 fNe (eV 4) (eC (.str ""))) [some (.int i), none, none, none, some (.str (St (dg i.natAbs))), some (.int 0)] S = .ok (!decide (dg i.natAbs = [])) S := tvb_i ((e2_ok rfl rfl).trans (by rw [emptyStr]; exact ne_St _ _ _ g7 .nil))
        unfold eIf
        rw [t, zeroStr]
        by_cases h : dg i.natAbs = []
        · simp only [h, decide_true, Bool.not_true, R.bind_ok, Bool.false_eq_true, if_false, ne_eq, not_true]
          rfl
        · simp only [h, decide_false, Bool.not_false, R.bind_ok, if_true, ne_eq, not_false_eq_true]
          rfl
      rw [e2_ok x1 x2, plus_St _ _ _ (by
        have l1 : (if i < 0 then [45] else [] : List Nat).length ≤ 1 := by split <;> simp
        have l2 : (if dg i.natAbs ≠ [] then dg i.natAbs else [48]).length ≤ 13 := by split <;> first | exact gl | simp
        omega), ← num_dg]
      simp only [wr]
    | tup ds =>
      cases n with
      | zero => exact hp.elim
      | succ n =>
        have hp' : ∀ d ∈ ds, Pl n d := hp
        simp only [wr, List.length_cons, List.length_append] at hl
        have wl := wrs_len ds
        have ih : ∀ d ∈ ds, F__law_written c q [d] S = .ok (.str (St (wr d))) S := fun d hd => written_i q n d (by omega) (hp' d hd) (by have := wr_len_mem hd; omega) S
        rw [seq_skip (isN_i (show eV 0 (env0 6 [.tup ds]) S = .ok (.tup ds) S from rfl) (by simp))]
        have t2 : tV (eCall (fIsi c.cs) (aC (eV 0) (aC (eC (.ty "tuple")) aN))) (env0 6 [.tup ds]) S = .ok true S := by
          simp [tV, eCall, aC, aN, eV, eC, env0, fIsi, tyD, isK, tNames, rB, tru]
        obtain ⟨b2, b3, lp⟩ := wr_loop0 (F := F__law_written c q) (S := S) ds (some (.tup ds)) none none none none ih (by omega)
        refine seq_rt ((if_t t2).trans ?_)
        rw [seq_set (d := .str "") (S' := S) rfl]
        have e0 : (env0 6 [.tup ds]).set 1 (some (.str "")) = [some (.tup ds), some (.str (St [])), none, none, none, none] := by
          rw [← emptyStr]
          rfl
        rw [e0]
        have fo : sFor (.tp [(.nm 2), (.nm 3)]) (iCall fEnum (aC (eV 0) aN)) (sSet 1 (Z.e2 fPlus (Z.e2 fPlus (eV 1) (eIf (tVB (Z.e2 fGt (eV 2) (eC (.int 0)))) (eC (.str " ")) (eC (.str "")))) (eFn 1 (F__law_written c q) (dl__law_written.drop 0) (aC (eV 3) aN)))) [some (.tup ds), some (.str (St [])), none, none, none, none] S = .nx [some (.tup ds), some (.str (St (wrs ds))), b2, b3, none, none] S := by
          rw [for_nx (ds := enumF 0 ds) (chk := fun _ => True) (S1 := S) rfl]
          exact lp
        rw [seq_nx fo]
        refine ret_rt ?_
        have p1 : Z.e2 fPlus (eC (.str "(")) (eV 1) [some (.tup ds), some (.str (St (wrs ds))), b2, b3, none, none] S = .ok (.str (St ([40] ++ wrs ds))) S := (e2_ok rfl rfl).trans (by rw [openStr]; exact plus_St _ _ _ (by simp; omega))
        rw [e2_ok p1 (show eC (.str ")") _ S = .ok (.str ")") S from rfl), closeStr, plus_St _ _ _ (by simp; omega)]
        simp [wr]
    | bl _ => cases n <;> exact hp.elim
    | str _ => cases n <;> exact hp.elim
    | lst _ => cases n <;> exact hp.elim
    | scr _ => cases n <;> exact hp.elim
    | ref _ => cases n <;> exact hp.elim
    | adr _ => cases n <;> exact hp.elim
    | ty _ => cases n <;> exact hp.elim
end Z.k67
namespace Z.k67
open PySem L2 Z TL
variable {c : Ad}
theorem few_of (ds : List D) : ds.length ≤ (wrr ds).length := by
  induction ds with
  | nil => simp
  | cons d ds ih => simp [wrr]; omega
theorem join_wr : ∀ ds : List D, joinL [32] (ds.map wr) = wrs ds
  | [] => rfl
  | [d] => by simp [joinL, wrs, wrr]
  | d :: e :: ds => by
    have ih := join_wr (e :: ds)
    simp only [List.map_cons, joinL] at ih ⊢
    rw [ih]
    simp [wrs, wrr]
theorem strsD_wr : ∀ ds : List D, strsD (ds.map fun d => D.str (St (wr d))) = some (ds.map fun d => St (wr d))
  | [] => rfl
  | d :: ds => by simp [strsD, isStr, strsD_wr ds]
theorem sum_wr : ∀ ds : List D, ((ds.map fun d => St (wr d)).map (·.length)).sum + ds.length = (wrr ds).length
  | [] => rfl
  | d :: ds => by
    have := sum_wr ds
    simp only [List.map_cons, List.sum_cons, List.length_cons, St_len, wrr, List.length_append]
    omega
theorem join_i (ds : List D) (S : Sto) (hl : (wrr ds).length ≤ 16000000) : fJoin (.str " ") (.lst (ds.map fun d => D.str (St (wr d)))) S = .ok (.str (St (wrs ds))) S := by
  have e1 : (lstOf S (.lst (ds.map fun d => D.str (St (wr d))))).bind strsD = some (ds.map fun d => St (wr d)) := by
    simp only [lstOf, Option.bind]
    exact strsD_wr ds
  have e2 : Txt.join (" " : Str) (ds.map fun d => St (wr d)) = St (wrs ds) := by
    refine St_eq ?_
    show tl (Builtin.Str.glued (" " : Str) (ds.map fun d => St (wr d))) = _
    rw [StrLaws.glued_eq_join, tl_join, show tl (" " : Str) = [32] from by decide +kernel, ← join_wr]
    congr 1
    simp [tl_St, Function.comp_def]
  have s := sum_wr ds
  have e3 : ((ds.map fun d => St (wr d)).map (·.length)).sum + (ds.map fun d => St (wr d)).length * (" " : Str).length ≤ 16777216 := by
    rw [show ((" " : Str)).length = 1 from by decide +kernel, List.length_map]
    omega
  unfold fJoin
  rw [e1]
  simp only [e3, if_true, e2]
theorem plain_text_i : ∀ (q n : Nat) (d : D), n < q → Pl n d → (wr d).length ≤ 1000000 → ∀ S, F_plain_text c q [d] S = .ok (.str (St (wr d))) S
  | 0, n, d, hq, _, _, _ => by omega
  | q + 1, n, d, hq, hp, hl, S => by
    show runB 2 (den_plain_text c (F_plain_text c q)) [d] S = _
    refine run_rt ?_
    unfold den_plain_text
    cases d with
    | non =>
      have t : tVB (Z.e1 fIsN (eV 0)) (env0 2 [.non]) S = .ok true S := rfl
      refine seq_rt ((if_t t).trans ?_)
      simp only [wr, noneStr]
      rfl
    | int i =>
      have hi : i.natAbs < 1000000000000 := by cases n <;> exact hp
      rw [seq_skip (isN_i (show eV 0 (env0 2 [.int i]) S = .ok (.int i) S from rfl) (by simp))]
      have t2 : tV (eCall (fIsi c.cs) (aC (eV 0) (aC (eC (.ty "tuple")) aN))) (env0 2 [.int i]) S = .ok false S := by
        simp [tV, eCall, aC, aN, eV, eC, env0, fIsi, tyD, isK, tNames, rB, tru]
      rw [seq_skip t2]
      exact ret_rt ((call1_ok (show eV 0 (env0 2 [.int i]) S = .ok (.int i) S from rfl)).trans (str_i hi S))
    | tup ds =>
      cases n with
      | zero => exact hp.elim
      | succ n =>
        have hp' : ∀ d ∈ ds, Pl n d := hp
        simp only [wr, List.length_cons, List.length_append] at hl
        have wl := wrs_len ds
        have fl := few_of ds
        rw [seq_skip (isN_i (show eV 0 (env0 2 [.tup ds]) S = .ok (.tup ds) S from rfl) (by simp))]
        have t2 : tV (eCall (fIsi c.cs) (aC (eV 0) (aC (eC (.ty "tuple")) aN))) (env0 2 [.tup ds]) S = .ok true S := by
          simp [tV, eCall, aC, aN, eV, eC, env0, fIsi, tyD, isK, tNames, rB, tru]
        refine seq_rt ((if_t t2).trans (ret_rt ?_))
        have lc : eLV (lLc (.nm 1) (iSeq (eV 0)) tYes (eFn 1 (F_plain_text c q) (dl_plain_text.drop 0) (aC (eV 1) aN)) [1]) (env0 2 [.tup ds]) S = .ok (.lst (ds.map fun d => D.str (St (wr d)))) S := by
          refine elv_ok (llc_ok (S1 := S) (ds := ds) (chk := fun _ => True) rfl (by omega) ?_)
          refine lcI_map (fun d => D.str (St (wr d))) trivial _ fun d hd => ⟨_, asg_nm .., ?_⟩
          exact (fn1_ok (F := F_plain_text c q) (eV_ws (by simp [env0]) d)).trans (plain_text_i q n d (by omega) (hp' d hd) (by have := wr_len_mem hd; omega) S)
        have j : eS1 fJoin (eC (.str " ")) (eLV (lLc (.nm 1) (iSeq (eV 0)) tYes (eFn 1 (F_plain_text c q) (dl_plain_text.drop 0) (aC (eV 1) aN)) [1])) (env0 2 [.tup ds]) S = .ok (.str (St (wrs ds))) S := by
          unfold eS1
          simp only [eC, R.bind_ok]
          rw [lc]
          exact join_i ds S (by omega)
        have p1 : Z.e2 fPlus (eC (.str "(")) (eS1 fJoin (eC (.str " ")) (eLV (lLc (.nm 1) (iSeq (eV 0)) tYes (eFn 1 (F_plain_text c q) (dl_plain_text.drop 0) (aC (eV 1) aN)) [1]))) (env0 2 [.tup ds]) S = .ok (.str (St ([40] ++ wrs ds))) S := (e2_ok rfl j).trans (by rw [openStr]; exact plus_St _ _ _ (by simp; omega))
        rw [e2_ok p1 (show eC (.str ")") _ S = .ok (.str ")") S from rfl), closeStr, plus_St _ _ _ (by simp; omega)]
        simp [wr]
    | bl _ => cases n <;> exact hp.elim
    | str _ => cases n <;> exact hp.elim
    | lst _ => cases n <;> exact hp.elim
    | scr _ => cases n <;> exact hp.elim
    | ref _ => cases n <;> exact hp.elim
    | adr _ => cases n <;> exact hp.elim
    | ty _ => cases n <;> exact hp.elim
/-! ### which values are plain -/
theorem pow12 (ρ : Env) (S : Sto) : Z.e2 fPow (eC (.int 10)) (eC (.int 12)) ρ S = .ok (.int 1000000000000) S := by
  rw [e2_ok (show eC (.int 10) ρ S = .ok (.int 10) S from rfl) (show eC (.int 12) ρ S = .ok (.int 12) S from rfl), fPow_ii, if_pos (by decide +kernel)]
  rfl
theorem isp_tail {q : Nat} {d k : D} {S : Sto} {b : Bool} (h1 : d ≠ .non) (h2 : tV (eCall (fIsi c.cs) (aC (eV 0) (aC (eC (.ty "tuple")) aN))) (env0 3 [d, k]) S = .ok false S)
    (h3 : eAnd (eFn 1 (F_is_integer c) (dl_is_integer.drop 0) (aC (eV 0) aN)) (Z.e2 fLt (eCall fAbs (aC (eV 0) aN)) (Z.e2 fPow (eC (.int 10)) (eC (.int 12)))) (env0 3 [d, k]) S = .ok (.bl b) S) : F_is_plain c (q + 1) [d, k] S = .ok (.bl b) S := by
  show runB 3 (den_is_plain c (F_is_plain c q)) [d, k] S = _
  refine run_rt ?_
  unfold den_is_plain
  rw [seq_skip (isN_i (show eV 0 (env0 3 [d, k]) S = .ok d S from rfl) h1), seq_skip h2, ret_rt h3]
theorem isp_int (q : Nat) (i : Int) (k : D) (S : Sto) : F_is_plain c (q + 1) [.int i, k] S = .ok (.bl (decide (i.natAbs < 1000000000000))) S := by
  refine isp_tail (by simp) ?_ ?_
  · simp [tV, eCall, aC, aN, eV, eC, env0, fIsi, tyD, isK, tNames, rB, tru]
  · have f1 : eFn 1 (F_is_integer c) (dl_is_integer.drop 0) (aC (eV 0) aN) (env0 3 [.int i, k]) S = .ok (.bl true) S := (fn1_ok (F := F_is_integer c) (show eV 0 (env0 3 [.int i, k]) S = .ok (.int i) S from rfl)).trans (is_integer_i c S i)
    have f2 : eCall fAbs (aC (eV 0) aN) (env0 3 [.int i, k]) S = .ok (.int (i.natAbs : Nat)) S := (call1_ok (show eV 0 (env0 3 [.int i, k]) S = .ok (.int i) S from rfl)).trans (by
      simp only [fAbs]
      congr 2
      split <;> omega)
    unfold eAnd
    rw [f1]
    simp only [R.bind_ok, tru, if_true]
    rw [e2_ok f2 (pow12 _ S), fLt_ii]
    congr 3
    exact propext (by omega)
theorem isp_noI {q : Nat} {d k : D} {S : Sto} (h1 : d ≠ .non) (h2 : ∀ S, fIsi c.cs [d, .ty "tuple"] S = .ok (.bl false) S) (h3 : F_is_integer c [d] S = .ok (.bl false) S) : F_is_plain c (q + 1) [d, k] S = .ok (.bl false) S := by
  refine isp_tail h1 ?_ ?_
  · refine tv_i ?_
    have : eCall (fIsi c.cs) (aC (eV 0) (aC (eC (.ty "tuple")) aN)) (env0 3 [d, k]) S = fIsi c.cs [d, .ty "tuple"] S := rfl
    rw [this]
    exact h2 S
  · have f1 : eFn 1 (F_is_integer c) (dl_is_integer.drop 0) (aC (eV 0) aN) (env0 3 [d, k]) S = .ok (.bl false) S := (fn1_ok (F := F_is_integer c) (show eV 0 (env0 3 [d, k]) S = .ok d S from rfl)).trans h3
    unfold eAnd
    rw [f1]
    rfl
theorem isp_tup {q : Nat} {ds : List D} {k : Nat} {S : Sto} (hk : k < 16) (hn : ds.length ≤ 16777216) (g : D → Bool) (h : ∀ d ∈ ds, F_is_plain c q [d, .int ((k + 1 : Nat))] S = .ok (.bl (g d)) S) : F_is_plain c (q + 1) [.tup ds, .int (k : Nat)] S = .ok (.bl ((ds.map g).all id)) S := by
  show runB 3 (den_is_plain c (F_is_plain c q)) [.tup ds, .int (k : Nat)] S = _
  refine run_rt ?_
  unfold den_is_plain
  rw [seq_skip (isN_i (show eV 0 (env0 3 [.tup ds, .int (k : Nat)]) S = .ok (.tup ds) S from rfl) (by simp))]
  have t2 : tV (eCall (fIsi c.cs) (aC (eV 0) (aC (eC (.ty "tuple")) aN))) (env0 3 [.tup ds, .int (k : Nat)]) S = .ok true S := by
    simp [tV, eCall, aC, aN, eV, eC, env0, fIsi, tyD, isK, tNames, rB, tru]
  refine seq_rt ((if_t t2).trans (ret_rt ?_))
  have l1 : Z.e2 fLt (eV 1) (eC (.int 16)) (env0 3 [.tup ds, .int (k : Nat)]) S = .ok (.bl true) S := (e2_ok rfl rfl).trans (by rw [fLt_ii, decide_eq_true (by omega)])
  unfold eAnd
  rw [l1]
  simp only [R.bind_ok, tru, if_true]
  have lc : lcI (.nm 2) (fun _ => True) tYes (eFn 2 (F_is_plain c q) (dl_is_plain.drop 1) (aC (eV 2) (aC (Z.e2 fPlus (eV 1) (eC (.int 1))) aN))) (wipeD (env0 3 [.tup ds, .int (k : Nat)]) [2]) ds S = .ok (ds.map fun d => .bl (g d)) S := by
    refine lcI_map (fun d => .bl (g d)) trivial _ fun d hd => ⟨_, asg_nm .., ?_⟩
    have pl : Z.e2 fPlus (eV 1) (eC (.int 1)) ((wipeD (env0 3 [.tup ds, .int (k : Nat)]) [2]).set 2 (some d)) S = .ok (.int ((k + 1 : Nat))) S := by
      rw [e2_ok ((eV_w (by decide) d).trans rfl) (show eC (.int 1) _ S = .ok (.int 1) S from rfl)]
      simp [fPlus]
    exact (fn2_ok (F := F_is_plain c q) (eV_ws (by simp [env0]) d) pl).trans (h d hd)
  have y := call1_ok (f := fAll) (elv_ok (llc_ok (i := iSeq (eV 0)) (ρ := env0 3 [.tup ds, .int (k : Nat)]) (S := S) (ds := ds) (chk := fun _ => True) rfl hn lc))
  rw [y]
  simp [fAll, lstOf, bools_map]
theorem isp_i : ∀ (q n : Nat) (d : D) (k : Nat), n < q → Pl n d → (wr d).length ≤ 1000000 → k + n ≤ 16 → ∀ S, F_is_plain c q [d, .int (k : Nat)] S = .ok (.bl true) S
  | 0, n, d, k, hq, _, _, _, _ => by omega
  | q + 1, n, d, k, hq, hp, hl, hk, S => by
    cases d with
    | non =>
      show runB 3 (den_is_plain c (F_is_plain c q)) [.non, .int (k : Nat)] S = _
      refine run_rt ?_
      unfold den_is_plain
      have t : tVB (Z.e1 fIsN (eV 0)) (env0 3 [.non, .int (k : Nat)]) S = .ok true S := rfl
      exact seq_rt ((if_t t).trans rfl)
    | int i =>
      have hi : i.natAbs < 1000000000000 := by cases n <;> exact hp
      rw [isp_int, decide_eq_true hi]
    | tup ds =>
      cases n with
      | zero => exact hp.elim
      | succ n =>
        have hp' : ∀ d ∈ ds, Pl n d := hp
        simp only [wr, List.length_cons, List.length_append] at hl
        have wl := wrs_len ds
        have fl := few_of ds
        rw [isp_tup (by omega) (by omega) (fun _ => true) fun d hd => isp_i q n d (k + 1) (by omega) (hp' d hd) (by have := wr_len_mem hd; omega) (by omega) S]
        simp
    | bl _ => cases n <;> exact hp.elim
    | str _ => cases n <;> exact hp.elim
    | lst _ => cases n <;> exact hp.elim
    | scr _ => cases n <;> exact hp.elim
    | ref _ => cases n <;> exact hp.elim
    | adr _ => cases n <;> exact hp.elim
    | ty _ => cases n <;> exact hp.elim
/-! ### alike is what is the same -/
def Lk : Nat → D → Prop
  | q + 1, .non => True
  | q + 1, .int _ => True
  | q + 1, .str s => SeqAt.shaped (.str s) = true
  | q + 1, .tup ds => ds.length ≤ 10000000 ∧ ∀ d ∈ ds, Lk q d
  | _, _ => False
theorem zipD_same : ∀ (ds : List D) (d : D), d ∈ zipD ds ds → ∃ x ∈ ds, d = .tup [x, x]
  | [], _, h => by simp [zipD] at h
  | y :: ys, d, h => by
    simp only [zipD, List.mem_cons] at h
    rcases h with rfl | h
    · exact ⟨y, List.mem_cons_self .., rfl⟩
    · obtain ⟨x, hx, e⟩ := zipD_same ys d h
      exact ⟨x, List.mem_cons_of_mem _ hx, e⟩
theorem eqD_strs (S : Sto) (s : Str) (h : SeqAt.shaped (.str s) = true) : eqD S (.str s) (.str s) = some true := by
  unfold eqD
  simp only [toP, h, and_self, if_true, PyData.eqv]
  simp
theorem like_same (S : Sto) : ∀ (q : Nat) (d : D), Lk q d → F__law_like c q [d, d] S = .ok (.bl true) S
  | 0, d, h => by cases d <;> exact h.elim
  | q + 1, .non, _ => by simp [F__law_like, den__law_like, runB, env0, sSeq, sRet, sRetN, sIf, sSet, sDrop, sNx, sPar, sAsg, sAttr, sPut, sRaise, Tg.asg, Tg.asgs, eAnd, eOr, eNot, eIf, tAnd, tOr, tNot, tV, tVB, tYes, eCall, eFn, eMk, eMt, eFld, eBM, aC, aN, eV, eC, Z.e1, Z.e2, eTup, eLV, eLN, eChain, eSl, fIsi, tyD, isK, anyK, tNames, rB, tru, fLen, fTuple, fAbs, fInt, fAll, fAny, fIsN, fNotN, fIsB, fNotB, fNeg, seqOf, lstOf, isL, fLt_ii, fLe_ii, fGt_ii, fGe_ii, fSub_ii, fPlus, fMod_ii, fMul_ii, fDiv_ii, fEq, fNe, eqD_int, fIx, atI_0, atI_1, atI_2, lLc, lLc2, iSeq, iCall, fEnum, fZip, wipeD, putD, lSl, lRev, R.to_ok, R.bind_ok]
  | q + 1, .int i, _ => by simp [F__law_like, den__law_like, runB, env0, sSeq, sRet, sRetN, sIf, sSet, sDrop, sNx, sPar, sAsg, sAttr, sPut, sRaise, Tg.asg, Tg.asgs, eAnd, eOr, eNot, eIf, tAnd, tOr, tNot, tV, tVB, tYes, eCall, eFn, eMk, eMt, eFld, eBM, aC, aN, eV, eC, Z.e1, Z.e2, eTup, eLV, eLN, eChain, eSl, fIsi, tyD, isK, anyK, tNames, rB, tru, fLen, fTuple, fAbs, fInt, fAll, fAny, fIsN, fNotN, fIsB, fNotB, fNeg, seqOf, lstOf, isL, fLt_ii, fLe_ii, fGt_ii, fGe_ii, fSub_ii, fPlus, fMod_ii, fMul_ii, fDiv_ii, fEq, fNe, eqD_int, fIx, atI_0, atI_1, atI_2, lLc, lLc2, iSeq, iCall, fEnum, fZip, wipeD, putD, lSl, lRev, R.to_ok, R.bind_ok]
  | q + 1, .str s, h => by
    have h' : SeqAt.shaped (.str s) = true := h
    simp [F__law_like, den__law_like, eqD_strs S s h', runB, env0, sSeq, sRet, sRetN, sIf, sSet, sDrop, sNx, sPar, sAsg, sAttr, sPut, sRaise, Tg.asg, Tg.asgs, eAnd, eOr, eNot, eIf, tAnd, tOr, tNot, tV, tVB, tYes, eCall, eFn, eMk, eMt, eFld, eBM, aC, aN, eV, eC, Z.e1, Z.e2, eTup, eLV, eLN, eChain, eSl, fIsi, tyD, isK, anyK, tNames, rB, tru, fLen, fTuple, fAbs, fInt, fAll, fAny, fIsN, fNotN, fIsB, fNotB, fNeg, seqOf, lstOf, isL, fLt_ii, fLe_ii, fGt_ii, fGe_ii, fSub_ii, fPlus, fMod_ii, fMul_ii, fDiv_ii, fEq, fNe, eqD_int, fIx, atI_0, atI_1, atI_2, lLc, lLc2, iSeq, iCall, fEnum, fZip, wipeD, putD, lSl, lRev, R.to_ok, R.bind_ok]
  | q + 1, .tup ds, h => by
    obtain ⟨h1, h2⟩ := h
    have g : ∀ a b, lcI (.tp [.nm 2, .nm 3]) (fun _ => True ∧ True) tYes (eFn 2 (F__law_like c q) dl__law_like (aC (eV 2) (aC (eV 3) aN))) [a, b, none, none] (zipD ds ds) S = .ok ((zipD ds ds).map fun _ => .bl true) S := fun a b => by
      refine lcI_map (fun _ => .bl true) ⟨trivial, trivial⟩ _ fun d hd => ?_
      obtain ⟨x, hx, rfl⟩ := zipD_same ds d hd
      refine ⟨_, asg_p2 .., ?_⟩
      simp [dl__law_like, like_same S q x (h2 x hx), runB, env0, sSeq, sRet, sRetN, sIf, sSet, sDrop, sNx, sPar, sAsg, sAttr, sPut, sRaise, Tg.asg, Tg.asgs, eAnd, eOr, eNot, eIf, tAnd, tOr, tNot, tV, tVB, tYes, eCall, eFn, eMk, eMt, eFld, eBM, aC, aN, eV, eC, Z.e1, Z.e2, eTup, eLV, eLN, eChain, eSl, fIsi, tyD, isK, anyK, tNames, rB, tru, fLen, fTuple, fAbs, fInt, fAll, fAny, fIsN, fNotN, fIsB, fNotB, fNeg, seqOf, lstOf, isL, fLt_ii, fLe_ii, fGt_ii, fGe_ii, fSub_ii, fPlus, fMod_ii, fMul_ii, fDiv_ii, fEq, fNe, eqD_int, fIx, atI_0, atI_1, atI_2, lLc, lLc2, iSeq, iCall, fEnum, fZip, wipeD, putD, lSl, lRev, R.to_ok, R.bind_ok]
    have g2 : bools ((zipD ds ds).map fun _ => D.bl true) = some ((zipD ds ds).map fun _ => true) := bools_true _
    have g3 : (zipD ds ds).length ≤ 16777216 := by rw [zipD_len]; omega
    have g' := g (some (.tup ds)) (some (.tup ds))
    simp only [and_self] at g'
    simp [F__law_like, den__law_like, g', g2, g3, runB, env0, sSeq, sRet, sRetN, sIf, sSet, sDrop, sNx, sPar, sAsg, sAttr, sPut, sRaise, Tg.asg, Tg.asgs, eAnd, eOr, eNot, eIf, tAnd, tOr, tNot, tV, tVB, tYes, eCall, eFn, eMk, eMt, eFld, eBM, aC, aN, eV, eC, Z.e1, Z.e2, eTup, eLV, eLN, eChain, eSl, fIsi, tyD, isK, anyK, tNames, rB, tru, fLen, fTuple, fAbs, fInt, fAll, fAny, fIsN, fNotN, fIsB, fNotB, fNeg, seqOf, lstOf, isL, fLt_ii, fLe_ii, fGt_ii, fGe_ii, fSub_ii, fPlus, fMod_ii, fMul_ii, fDiv_ii, fEq, fNe, eqD_int, fIx, atI_0, atI_1, atI_2, lLc, lLc2, iSeq, iCall, fEnum, fZip, wipeD, putD, lSl, lRev, R.to_ok, R.bind_ok]
  | q + 1, .bl _, h => h.elim
  | q + 1, .lst _, h => h.elim
  | q + 1, .scr _, h => h.elim
  | q + 1, .ref _, h => h.elim
  | q + 1, .adr _, h => h.elim
  | q + 1, .ty _, h => h.elim
theorem lk_pl : ∀ (q n : Nat) (d : D), n < q → Pl n d → (wr d).length ≤ 1000000 → Lk q d
  | 0, n, d, hq, _, _ => by omega
  | q + 1, n, .non, _, _, _ => trivial
  | q + 1, n, .int i, _, _, _ => trivial
  | q + 1, n + 1, .tup ds, hq, hp, hl => by
    simp only [wr, List.length_cons, List.length_append] at hl
    have wl := wrs_len ds
    have fl := few_of ds
    exact ⟨by omega, fun d hd => lk_pl q n d (by omega) (hp d hd) (by have := wr_len_mem hd; omega)⟩
  | q + 1, 0, .tup ds, _, h, _ => h.elim
  | q + 1, 0, .bl _, _, h, _ | q + 1, 0, .str _, _, h, _ | q + 1, 0, .lst _, _, h, _ | q + 1, 0, .scr _, _, h, _ | q + 1, 0, .ref _, _, h, _ | q + 1, 0, .adr _, _, h, _ | q + 1, 0, .ty _, _, h, _ => h.elim
  | q + 1, n + 1, .bl _, _, h, _ | q + 1, n + 1, .str _, _, h, _ | q + 1, n + 1, .lst _, _, h, _ | q + 1, n + 1, .scr _, _, h, _ | q + 1, n + 1, .ref _, _, h, _ | q + 1, n + 1, .adr _, _, h, _ | q + 1, n + 1, .ty _, _, h, _ => h.elim
end Z.k67
namespace Z.k67
open PySem L2 Z TL
variable {c : Ad}
/-! ### drawn values -/
theorem drw {T S : Sto} {ρ : Env} {a b : DE} {many : Nat} (h0 : 0 < many) (h1 : many ≤ 1000000000000) (hS : Hp2 T S) (ha : a ρ S = .ok (.ref 1) S) (hb : b ρ S = .ok (.int (many : Nat)) S) : ∃ (r : Nat) (S' : Sto), r < many ∧ eFn 2 (F__law_draw c) (dl__law_draw.drop 0) (aC a (aC b aN)) ρ S = .ok (.int (r : Nat)) S' ∧ Hp2 T S' := by
  obtain ⟨r, S', hr, f, h⟩ := draw_i c T many h0 h1 S hS
  exact ⟨r, S', hr, (fn2_ok (F := F__law_draw c) ha hb).trans f, h⟩
theorem pck {T S S1 : Sto} {ρ : Env} {a b : DE} {ds : List D} (h0 : 0 < ds.length) (h1 : ds.length ≤ 1000000) (ha : a ρ S = .ok (.ref 1) S) (hb : b ρ S = .ok (.lst ds) S1) (hS : Hp2 T S1) : ∃ (d : D) (S' : Sto), d ∈ ds ∧ eFn 2 (F__law_pick c) (dl__law_pick.drop 0) (aC a (aC b aN)) ρ S = .ok d S' ∧ Hp2 T S' := by
  obtain ⟨r, S', d, hr, f, h⟩ := pick_l c T ds h0 h1 S1 hS
  exact ⟨d, S', List.mem_of_getElem? hr, (fn2_ok (F := F__law_pick c) ha hb).trans f, h⟩
def Lf (d : D) : Prop := d = .non ∨ ∃ i, d = .int i ∧ i.natAbs < 1000000000000
theorem Lf.pl {d : D} (h : Lf d) (n : Nat) : Pl n d := by
  rcases h with rfl | ⟨i, rfl, h⟩
  · cases n <;> trivial
  · cases n <;> exact h
theorem Lf.len {d : D} (h : Lf d) : (wr d).length ≤ 13 := by
  rcases h with rfl | ⟨i, rfl, h⟩
  · simp [wr, noneL]
  · simp only [wr]
    exact (num_run h).len
def Bd : Nat → Nat
  | 0 => 13
  | n + 1 => 3 * Bd n + 4
theorem Bd_ge : ∀ n, 13 ≤ Bd n
  | 0 => by simp [Bd]
  | n + 1 => by
    have := Bd_ge n
    simp only [Bd]
    omega
theorem wrr_few {B : Nat} : ∀ {ds : List D}, (∀ d ∈ ds, (wr d).length ≤ B) → (wrr ds).length ≤ ds.length * (B + 1)
  | [], _ => by simp [wrr]
  | d :: ds, h => by
    have a := h d (List.mem_cons_self ..)
    have b := wrr_few (ds := ds) fun x hx => h x (List.mem_cons_of_mem _ hx)
    simp only [wrr, List.length_cons, List.length_append, Nat.add_mul, Nat.one_mul]
    omega
theorem tup_few {B : Nat} {ds : List D} (h : ∀ d ∈ ds, (wr d).length ≤ B) (h3 : ds.length ≤ 3) : (wr (.tup ds)).length ≤ 3 * B + 4 := by
  simp only [wr, List.length_cons, List.length_append, List.length_nil]
  cases ds with
  | nil => simp [wrs]
  | cons d ds =>
    have a := h d (List.mem_cons_self ..)
    have b := wrr_few (ds := ds) fun x hx => h x (List.mem_cons_of_mem _ hx)
    simp only [wrs, List.length_append]
    simp at h3
    have : ds.length * (B + 1) ≤ 2 * (B + 1) := Nat.mul_le_mul_right _ (by omega)
    omega
theorem leaf_i {T S : Sto} {ρ : Env} (hS : Hp2 T S) (h0 : ∀ S, eV 0 ρ S = .ok (.ref 1) S) : ∃ d S', eFn 2 (F__law_pick c) (dl__law_pick.drop 0) (aC (eV 0) (aC (eLV (aC (eC (.int 0)) (aC (eC .non) (aC (eFn 2 (F__law_draw c) (dl__law_draw.drop 0) (aC (eV 0) (aC (eC (.int 10)) aN))) (aC (Z.e2 fSub (eC (.int 0)) (eFn 2 (F__law_draw c) (dl__law_draw.drop 0) (aC (eV 0) (aC (Z.e2 fPow (eC (.int 10)) (eC (.int 12))) aN)))) (aC (eFn 2 (F__law_draw c) (dl__law_draw.drop 0) (aC (eV 0) (aC (Z.e2 fPow (eC (.int 10)) (eC (.int 12))) aN))) (aC (Z.e2 fSub (Z.e2 fPow (eC (.int 10)) (eC (.int 12))) (eC (.int 1))) (aC (Z.e2 fSub (eC (.int 1)) (Z.e2 fPow (eC (.int 10)) (eC (.int 12)))) aN)))))))) aN)) ρ S = .ok d S' ∧ Hp2 T S' ∧ Lf d := by
  obtain ⟨r1, S1, hr1, f1, h1⟩ := drw (c := c) (many := 10) (b := eC (.int 10)) (by decide) (by decide) hS (h0 _) rfl
  obtain ⟨r2, S2, hr2, f2, h2⟩ := drw (c := c) (many := 1000000000000) (b := Z.e2 fPow (eC (.int 10)) (eC (.int 12))) (by decide) (by decide) h1 (h0 _) (pow12 ρ S1)
  obtain ⟨r3, S3, hr3, f3, h3⟩ := drw (c := c) (many := 1000000000000) (b := Z.e2 fPow (eC (.int 10)) (eC (.int 12))) (by decide) (by decide) h2 (h0 _) (pow12 ρ S2)
  have s2 : Z.e2 fSub (eC (.int 0)) (eFn 2 (F__law_draw c) (dl__law_draw.drop 0) (aC (eV 0) (aC (Z.e2 fPow (eC (.int 10)) (eC (.int 12))) aN))) ρ S1 = .ok (.int (0 - (r2 : Nat))) S2 := (e2_ok rfl f2).trans (fSub_ii ..)
  have s6 : Z.e2 fSub (Z.e2 fPow (eC (.int 10)) (eC (.int 12))) (eC (.int 1)) ρ S3 = .ok (.int 999999999999) S3 := (e2_ok (pow12 ρ S3) rfl).trans (by rw [fSub_ii]; rfl)
  have s7 : Z.e2 fSub (eC (.int 1)) (Z.e2 fPow (eC (.int 10)) (eC (.int 12))) ρ S3 = .ok (.int (-999999999999)) S3 := (e2_ok rfl (pow12 ρ S3)).trans (by rw [fSub_ii]; rfl)
  have l := elv_ok (acs (show eC (.int 0) ρ S = .ok (.int 0) S from rfl) (acs (show eC .non ρ S = .ok .non S from rfl) (acs f1 (acs s2 (acs f3 (acs s6 (acs s7 acn)))))))
  obtain ⟨d, S', hd, f, h⟩ := pck (c := c) (by simp) (by simp) (h0 S) l h3
  refine ⟨d, S', f, h, ?_⟩
  simp at hd
  rcases hd with rfl | rfl | rfl | rfl | rfl | rfl | rfl
  · exact .inr ⟨_, rfl, by decide⟩
  · exact .inl rfl
  · exact .inr ⟨_, rfl, by omega⟩
  · exact .inr ⟨_, rfl, by omega⟩
  · exact .inr ⟨_, rfl, by omega⟩
  · exact .inr ⟨_, rfl, by decide⟩
  · exact .inr ⟨_, rfl, by decide⟩
theorem value_i : ∀ (q n : Nat) (T S : Sto), n < q → n ≤ 1000 → Hp2 T S → ∃ d S', F__law_value c q [.ref 1, .int (n : Nat)] S = .ok d S' ∧ Hp2 T S' ∧ Pl n d ∧ (wr d).length ≤ Bd n
  | 0, n, T, S, h, _, _ => by omega
  | q + 1, n, T, S, hq, hn, hS => by
    obtain ⟨ρ, hρ⟩ : ∃ ρ, ρ = env0 3 [.ref 1, .int (n : Nat)] := ⟨_, rfl⟩
    have v0 : ∀ S, eV 0 ρ S = .ok (.ref 1) S := fun _ => by rw [hρ]; rfl
    have v1 : ∀ S, eV 1 ρ S = .ok (.int (n : Nat)) S := fun _ => by rw [hρ]; rfl
    have t1 : ∀ S, tVB (Z.e2 fGt (eV 1) (eC (.int 0))) ρ S = .ok (decide ((0 : Int) < (n : Nat))) S := fun S => tvb_i ((e2_ok (v1 S) rfl).trans (by rw [fGt_ii]))
    have run : ∀ {d S'}, den__law_value c (F__law_value c q) ρ S = .rt d S' → F__law_value c (q + 1) [.ref 1, .int (n : Nat)] S = .ok d S' := fun {d S'} h => by
      show runB 3 (den__law_value c (F__law_value c q)) [.ref 1, .int (n : Nat)] S = _
      rw [hρ] at h
      exact run_rt h
    have leaf : ∀ {S1}, Hp2 T S1 → tAnd (tVB (Z.e2 fGt (eV 1) (eC (.int 0)))) (tVB (Z.e2 fGt (eFn 2 (F__law_draw c) (dl__law_draw.drop 0) (aC (eV 0) (aC (eC (.int 3)) aN))) (eC (.int 0)))) ρ S = .ok false S1 → ∃ d S', F__law_value c (q + 1) [.ref 1, .int (n : Nat)] S = .ok d S' ∧ Hp2 T S' ∧ Pl n d ∧ (wr d).length ≤ Bd n := fun {S1} h1 ht => by
      obtain ⟨d, S', f, h, l⟩ := leaf_i (c := c) h1 v0
      refine ⟨d, S', run ?_, h, l.pl n, Nat.le_trans l.len (Bd_ge n)⟩
      unfold den__law_value
      rw [seq_skip ht]
      exact ret_rt f
    cases n with
    | zero =>
      refine leaf hS ?_
      unfold tAnd
      rw [t1 S]
      rfl
    | succ n =>
      obtain ⟨r, S1, hr, f, h1⟩ := drw (c := c) (many := 3) (b := eC (.int 3)) (by decide) (by decide) hS (v0 _) rfl
      have t2 : tVB (Z.e2 fGt (eFn 2 (F__law_draw c) (dl__law_draw.drop 0) (aC (eV 0) (aC (eC (.int 3)) aN))) (eC (.int 0))) ρ S = .ok (decide ((0 : Int) < (r : Nat))) S1 := tvb_i ((e2_ok f rfl).trans (by rw [fGt_ii]))
      have ta : tAnd (tVB (Z.e2 fGt (eV 1) (eC (.int 0)))) (tVB (Z.e2 fGt (eFn 2 (F__law_draw c) (dl__law_draw.drop 0) (aC (eV 0) (aC (eC (.int 3)) aN))) (eC (.int 0)))) ρ S = .ok (decide ((0 : Int) < (r : Nat))) S1 := by
        unfold tAnd
        rw [t1 S, decide_eq_true (show (0 : Int) < ((n + 1 : Nat) : Int) by omega)]
        simp only [R.bind_ok, if_true]
        exact t2
      by_cases h0 : r = 0
      · subst h0
        exact leaf h1 ta
      · rw [decide_eq_true (show (0 : Int) < (r : Nat) by omega)] at ta
        obtain ⟨r2, S2, hr2, f2, h2⟩ := drw (c := c) (many := 4) (b := eC (.int 4)) (by decide) (by decide) h1 (v0 _) rfl
        have i2 : iR1 (eFn 2 (F__law_draw c) (dl__law_draw.drop 0) (aC (eV 0) (aC (eC (.int 4)) aN))) ρ S1 = .ok (iRow 0 r2, fun _ => True) S2 := by
          unfold iR1
          rw [f2]
          simp [rgOk_nat (n := r2) (by omega)]
        obtain ⟨ys, S3, e1, h3, e3, e4⟩ := lcI_state (tg := .nm 2) (chk := fun _ => True) (e := eFn 2 (F__law_value c q) (dl__law_value.drop 0) (aC (eV 0) (aC (Z.e2 fSub (eV 1) (eC (.int 1))) aN))) (ρ0 := wipeD ρ [2]) (Hp2 T) (fun _ y => Pl n y ∧ (wr y).length ≤ Bd n) (fun _ _ => trivial) (iRow 0 r2) S2 h2 fun d hd S4 h4 => by
          obtain ⟨y, S5, f5, h5, p5, b5⟩ := value_i q n T S4 (by omega) (by omega) h4
          refine ⟨_, asg_nm .., y, S5, ?_, h5, p5, b5⟩
          have sb : Z.e2 fSub (eV 1) (eC (.int 1)) ((wipeD ρ [2]).set 2 (some d)) S4 = .ok (.int (n : Nat)) S4 := by
            rw [e2_ok ((eV_w (by decide) d).trans (v1 S4)) (show eC (.int 1) _ S4 = .ok (.int 1) S4 from rfl), fSub_ii]
            congr 2
            omega
          exact (fn2_ok (F := F__law_value c q) ((eV_w (by decide) d).trans (v0 S4)) sb).trans f5
        rw [iRow_len] at e3
        have all : ∀ y ∈ ys, Pl n y ∧ (wr y).length ≤ Bd n := fun y hy => by
          obtain ⟨i, hi, hy'⟩ := List.mem_iff_getElem.mp hy
          have : i < (iRow 0 r2).length := by rw [iRow_len]; omega
          exact e4 i _ y (List.getElem?_eq_getElem this) (by rw [List.getElem?_eq_getElem hi, hy'])
        refine ⟨.tup ys, S3, run ?_, h3, fun y hy => (all y hy).1, ?_⟩
        · unfold den__law_value
          refine seq_rt ((if_t ta).trans (ret_rt ?_))
          exact (call1_ok (elv_ok (llc_ok i2 (by rw [iRow_len]; omega) e1))).trans (tup_lst _ _)
        · exact tup_few (fun y hy => (all y hy).2) (by omega)
/-! ### within so many tuples -/
def nst : Nat → D → D
  | 0, d => d
  | n + 1, d => .tup [nst n d]
theorem nst_out (n : Nat) (d : D) : nst n (.tup [d]) = .tup [nst n d] := by
  induction n with
  | zero => rfl
  | succ n ih => simp only [nst]; rw [ih]
theorem nst_pl {d : D} (h : Lf d) : ∀ n, Pl n (nst n d)
  | 0 => h.pl 0
  | n + 1 => fun x hx => by
    rw [List.mem_singleton.mp hx]
    exact nst_pl h n
theorem nst_len {d : D} (h : Lf d) : ∀ n, (wr (nst n d)).length ≤ 13 + 2 * n
  | 0 => h.len
  | n + 1 => by
    have := nst_len h n
    simp only [nst, wr, wrs, wrr, List.length_cons, List.length_append, List.length_nil]
    omega
theorem nested_i (d : D) (n : Nat) (hn : n ≤ 1000) (S : Sto) : F__law_nested c [d, .int (n : Nat)] S = .ok (nst n d) S := by
  refine run_rt ?_
  unfold den__law_nested
  have lp : ∀ (m : Nat) (ds : List D) (d : D) (x : Option D), ds.length = m → ∃ x', forI (.nm 2) (lb__law_nested_1 c) (fun _ => True) ds [some d, some (.int (n : Nat)), x] S = .nx [some (nst m d), some (.int (n : Nat)), x'] S := by
    intro m
    induction m with
    | zero =>
      intro ds d x hm
      rw [List.length_eq_zero_iff.mp hm]
      exact ⟨x, rfl⟩
    | succ m ih =>
      intro ds d x hm
      cases ds with
      | nil => cases hm
      | cons e ds =>
        obtain ⟨x', f⟩ := ih ds (.tup [d]) (some e) (by simpa using hm)
        refine ⟨x', ?_⟩
        have ea : Tg.asg S (.nm 2) e [some d, some (.int (n : Nat)), x] = some [some d, some (.int (n : Nat)), some e] := asg_nm ..
        have st : lb__law_nested_1 c [some d, some (.int (n : Nat)), some e] S = .nx [some (.tup [d]), some (.int (n : Nat)), some e] S := rfl
        simp only [forI, ea, st, if_true]
        rw [f, nst_out]
        rfl
  obtain ⟨x', f⟩ := lp n (iRow 0 n) d none (iRow_len ..)
  have fo : sFor (.nm 2) (iR1 (eV 1)) (lb__law_nested_1 c) (env0 3 [d, .int (n : Nat)]) S = .nx [some (nst n d), some (.int (n : Nat)), x'] S := by
    rw [for_nx (ds := iRow 0 n) (chk := fun _ => True) (S1 := S) (by simp [iR1, eV, env0, rgOk_nat (n := n) (by omega)])]
    exact f
  rw [seq_nx fo]
  rfl
end Z.k67
namespace Z.k67
open PySem L2 Z TL
variable {c : Ad}
/-! ### tools -/
theorem cutS_hi (l : List Nat) (v : Nat) : cutS (St l) none (some (v : Int)) = St (l.take v) := by
  have h := cutA_hi l v
  unfold cutA at h
  unfold cutS
  rw [St_len]
  show St ((l.drop _).take _) = _
  rw [h]
theorem cutS_lo (l : List Nat) (v : Nat) : cutS (St l) (some (v : Int)) none = St (l.drop v) := by
  have h := cutA_lo l v
  unfold cutA at h
  unfold cutS
  rw [St_len]
  show St ((l.drop _).take _) = _
  rw [h]
def HpE (S : Sto) : Prop := ∃ T, Hp2 T S
theorem HpE.fx {S S' : Sto} (h : HpE S) (f : Fx S S') : HpE S' := by
  obtain ⟨T, h⟩ := h
  obtain ⟨X, rfl⟩ := f
  exact ⟨T ++ X, hp_push h X⟩
theorem depth_strs : ∀ ls : List (List Nat), PyData.depthAll (ls.map fun t => PyData.str (St t)) ≤ 1
  | [] => by simp [PyData.depthAll]
  | l :: ls => by
    have := depth_strs ls
    simp [PyData.depthAll, PyData.depth]
    omega
theorem lay_strs : ∀ ls : List (List Nat), (∀ t ∈ ls, Ok7 t) → PyData.canLayAll0 (ls.map fun t => PyData.str (St t)) = true
  | [], _ => by simp [PyData.canLayAll0]
  | l :: ls, h => by
    have a := shaped_St l (h l (List.mem_cons_self ..))
    have b := lay_strs ls fun t ht => h t (List.mem_cons_of_mem _ ht)
    simp [SeqAt.shaped] at a
    simp [PyData.canLayAll0, b, a.1]
theorem shaped_strs {ls : List (List Nat)} (h : ∀ t ∈ ls, Ok7 t) : SeqAt.shaped (.list (ls.map fun t => PyData.str (St t))) = true := by
  have a := lay_strs ls h
  have b := depth_strs ls
  unfold SeqAt.shaped
  rw [Bool.and_eq_true_iff]
  refine ⟨by simp only [PyData.canLay0]; exact a, decide_eq_true ?_⟩
  simp only [PyData.depth]
  omega
theorem toPs_LS (S : Sto) : ∀ ls : List (List Nat), toPs S (LS ls) = some (ls.map fun t => PyData.str (St t))
  | [] => rfl
  | l :: ls => by
    have ih := toPs_LS S ls
    unfold LS at ih ⊢
    simp [toPs, toP, ih]
theorem any_LS (t : List Nat) (ls : List (List Nat)) : ((ls.map fun t => PyData.str (St t)).any fun z => PyData.eqv z (.str (St t))) = decide (t ∈ ls) := by
  rw [Bool.eq_iff_iff, List.any_eq_true, decide_eq_true_eq]
  constructor
  · rintro ⟨x, hx, e⟩
    obtain ⟨u, hu, rfl⟩ := List.mem_map.mp hx
    have : St u = St t := by simpa [PyData.eqv] using e
    rw [← St_inj this]
    exact hu
  · exact fun h => ⟨_, List.mem_map.mpr ⟨t, h, rfl⟩, by simp [PyData.eqv]⟩
theorem in_LS {t : List Nat} {ls : List (List Nat)} (h : Ok7 t) (hl : ∀ t ∈ ls, Ok7 t) (S : Sto) : fIn (.str (St t)) (.lst (LS ls)) S = .ok (.bl (decide (t ∈ ls))) S := by
  unfold fIn
  simp only [toP, toPs_LS, Option.map_some, shaped_St t h, shaped_strs hl, and_self, if_true, any_LS]
theorem notin_LS {t : List Nat} {ls : List (List Nat)} (h : Ok7 t) (hl : ∀ t ∈ ls, Ok7 t) (S : Sto) : fNotIn (.str (St t)) (.lst (LS ls)) S = .ok (.bl (!decide (t ∈ ls))) S := by
  unfold fNotIn
  simp only [toP, toPs_LS, Option.map_some, shaped_St t h, shaped_strs hl, and_self, if_true, any_LS]
theorem ones_ok7 {l : List Nat} (h : Ok7 l) : ∀ t ∈ ones l, Ok7 t := fun t ht => by
  obtain ⟨k, hk, rfl⟩ := List.mem_map.mp ht
  exact .one (h k hk)
theorem digits_ok7 : Ok7 digits := by unfold Ok7 digits; decide
theorem endsL_ok7 {op : Int} : ∀ t ∈ endsL op, Ok7 t := fun t ht => by
  unfold endsL at ht
  split at ht
  · rcases List.mem_cons.mp ht with rfl | ht
    · exact .one (by decide)
    · rw [List.mem_singleton.mp ht]; exact .one (by decide)
  · rw [List.mem_singleton.mp ht]; exact .nil
theorem noneL_get (k : Nat) : noneL.getD k 0 < 128 ∧ noneL.getD k 0 ≠ 46 := by
  unfold noneL
  match k with
  | 0 => decide
  | 1 => decide
  | 2 => decide
  | 3 => decide
  | k + 4 => simp
theorem mayl_ok (m : M4) : (∀ t ∈ mayl m, Ok7 t) ∧ [46] ∉ mayl m := by
  have d46 : [46] ∉ ones digits := by decide
  have e46 : ∀ op, [46] ∉ endsL op := fun op h => by
    have := (mem_endsL.mp h).2
    omega
  unfold mayl
  split
  · refine ⟨fun t ht => ?_, fun ht => ?_⟩
    · rcases List.mem_append.mp ht with ht | ht
      · rcases List.mem_append.mp ht with ht | ht
        · rcases List.mem_append.mp ht with ht | ht
          · rcases List.mem_cons.mp ht with rfl | ht
            · exact .one (by decide)
            · rw [List.mem_singleton.mp ht]; exact .one (by decide)
          · exact ones_ok7 digits_ok7 t ht
        · split at ht
          · rw [List.mem_singleton.mp ht]; exact .one (by decide)
          · cases ht
      · split at ht
        · rw [List.mem_singleton.mp ht]; exact .one (by decide)
        · cases ht
    · rcases List.mem_append.mp ht with ht | ht
      · rcases List.mem_append.mp ht with ht | ht
        · rcases List.mem_append.mp ht with ht | ht
          · simp at ht
          · exact d46 ht
        · exact absurd (mem_ifl.mp ht).2 (by decide)
      · exact absurd (mem_ifl.mp ht).2 (by decide)
  · split
    · exact ⟨endsL_ok7, e46 _⟩
    · split
      · split
        · exact ⟨endsL_ok7, e46 _⟩
        · have g := noneL_get m.run.length
          refine ⟨fun t ht => by rw [List.mem_singleton.mp ht]; exact .one g.1, fun ht => ?_⟩
          have := List.mem_singleton.mp ht
          simp at this
          exact g.2 (by simpa using this.symm)
      · split
        · exact ⟨ones_ok7 (by unfold Ok7; decide), by decide⟩
        · refine ⟨fun t ht => ?_, fun ht => ?_⟩
          · rcases List.mem_append.mp ht with ht | ht
            · split at ht
              · exact ones_ok7 digits_ok7 t ht
              · cases ht
            · exact endsL_ok7 t ht
          · rcases List.mem_append.mp ht with ht | ht
            · split at ht
              · exact d46 ht
              · cases ht
            · exact e46 _ ht
theorem pl_mono : ∀ (n m : Nat) (d : D), n ≤ m → Pl n d → Pl m d
  | n, m, .non, _, _ => by cases m <;> trivial
  | n, m, .int i, _, h => by
    have h' : i.natAbs < 1000000000000 := by cases n <;> exact h
    cases m <;> exact h'
  | n + 1, m, .tup ds, hm, h => by
    obtain ⟨m', rfl⟩ : ∃ m', m = m' + 1 := ⟨m - 1, by omega⟩
    exact fun d hd => pl_mono n m' d (by omega) (h d hd)
  | 0, m, .tup ds, _, h => h.elim
  | 0, _, .bl _, _, h | 0, _, .str _, _, h | 0, _, .lst _, _, h | 0, _, .scr _, _, h | 0, _, .ref _, _, h | 0, _, .adr _, _, h | 0, _, .ty _, _, h => h.elim
  | n + 1, _, .bl _, _, h | n + 1, _, .str _, _, h | n + 1, _, .lst _, _, h | n + 1, _, .scr _, _, h | n + 1, _, .ref _, _, h | n + 1, _, .adr _, _, h | n + 1, _, .ty _, _, h => h.elim
theorem lf_of {d : D} (h : Pl 0 d) : Lf d := by
  cases d with
  | non => exact .inl rfl
  | int i => exact .inr ⟨i, rfl, h⟩
  | _ => exact h.elim
section
variable {ρ : Env} {S S1 S2 : Sto} {a b : DE}
theorem like_e {d : D} (ha : a ρ S = .ok d S1) (hb : b ρ S1 = .ok d S2) (hd : Lk 19 d) : eFn 2 (F__law_like c 19) (dl__law_like.drop 0) (aC a (aC b aN)) ρ S = .ok (.bl true) S2 := (fn2_ok (F := F__law_like c 19) ha hb).trans (like_same S2 19 d hd)
theorem nlike_e {d : D} (ha : a ρ S = .ok d S1) (hb : b ρ S1 = .ok d S2) (hd : Lk 19 d) : tNot (tV (eFn 2 (F__law_like c 19) (dl__law_like.drop 0) (aC a (aC b aN)))) ρ S = .ok false S2 := not_i (tv_i (like_e ha hb hd))
end
theorem lk_wrong (i : Int) : Lk 19 (.tup [.str "wrong", .int i]) := by
  refine ⟨by simp, fun d hd => ?_⟩
  rcases List.mem_cons.mp hd with rfl | hd
  · show SeqAt.shaped (.str "wrong") = true
    decide +kernel
  · rw [List.mem_singleton.mp hd]
    trivial
theorem lk_told {n : Nat} {d : D} (h : Pl n d) (hn : n ≤ 16) (hl : (wr d).length ≤ 1000000) : Lk 19 (.tup [.str "told", d]) := by
  refine ⟨by simp, fun x hx => ?_⟩
  rcases List.mem_cons.mp hx with rfl | hx
  · show SeqAt.shaped (.str "told") = true
    decide +kernel
  · rw [List.mem_singleton.mp hx]
    exact lk_pl 18 n d (by omega) h hl
end Z.k67
namespace Z.k67
open PySem L2 Z TL
variable {c : Ad}
def alpha : List Nat := [48, 49, 50, 51, 52, 53, 54, 55, 56, 57, 45, 40, 41, 32, 110, 111, 120, 44, 46, 78, 10, 91]
theorem alphaStr : ("0123456789-() nox,.N\n[" : Str) = St alpha := by decide +kernel
theorem alpha_ok : Ok7 alpha := by unfold Ok7 alpha; decide
def pD (m : M4) : D → Bool
  | .str t => !decide (tl t ∈ mayl m)
  | _ => false
/-- a drawn value -/
theorem value_t {T S : Sto} {ρ : Env} (h1 : ∀ S, eV 1 ρ S = .ok (.ref 1) S) (hS : Hp2 T S) : ∃ v S', eFn 2 (F__law_pick c) (dl__law_pick.drop 0) (aC (eV 1) (aC (eLV (aC (eFn 2 (F__law_value c 6) (dl__law_value.drop 0) (aC (eV 1) (aC (eC (.int 4)) aN))) (aC (eFn 2 (F__law_nested c) (dl__law_nested.drop 0) (aC (eFn 2 (F__law_value c 6) (dl__law_value.drop 0) (aC (eV 1) (aC (eC (.int 0)) aN))) (aC (eFn 2 (F__law_pick c) (dl__law_pick.drop 0) (aC (eV 1) (aC (eLV (aC (eC (.int 1)) (aC (eC (.int 15)) (aC (eC (.int 16)) aN)))) aN))) aN))) aN))) aN)) ρ S = .ok v S' ∧ Hp2 T S' ∧ Pl 16 v ∧ (wr v).length ≤ 1213 := by
  obtain ⟨d1, S1, f1, g1, p1, b1⟩ := value_i (c := c) 6 4 T S (by decide) (by decide) hS
  obtain ⟨d0, S2, f2, g2, p2, b2⟩ := value_i (c := c) 6 0 T S1 (by decide) (by decide) g1
  have y1 : eFn 2 (F__law_value c 6) (dl__law_value.drop 0) (aC (eV 1) (aC (eC (.int 4)) aN)) ρ S = .ok d1 S1 := (fn2_ok (F := F__law_value c 6) (h1 S) (show eC (.int 4) ρ S = .ok (.int ((4 : Nat) : Int)) S from rfl)).trans f1
  have y2 : eFn 2 (F__law_value c 6) (dl__law_value.drop 0) (aC (eV 1) (aC (eC (.int 0)) aN)) ρ S1 = .ok d0 S2 := (fn2_ok (F := F__law_value c 6) (h1 S1) (show eC (.int 0) ρ S1 = .ok (.int ((0 : Nat) : Int)) S1 from rfl)).trans f2
  have l3 : eLV (aC (eC (.int 1)) (aC (eC (.int 15)) (aC (eC (.int 16)) aN))) ρ S2 = .ok (.lst [.int 1, .int 15, .int 16]) S2 := rfl
  obtain ⟨x, S3, hx, y3, g3⟩ := pck (c := c) (by simp) (by simp) (h1 S2) l3 g2
  obtain ⟨k, rfl, hk⟩ : ∃ k : Nat, x = .int (k : Nat) ∧ k ≤ 16 := by
    simp at hx
    rcases hx with rfl | rfl | rfl
    · exact ⟨1, rfl, by decide⟩
    · exact ⟨15, rfl, by decide⟩
    · exact ⟨16, rfl, by decide⟩
  have y4 := (fn2_ok (F := F__law_nested c) y2 y3).trans (nested_i d0 k (by omega) S3)
  have l5 := elv_ok (acs y1 (acs y4 acn))
  obtain ⟨v, S5, hv, y5, g5⟩ := pck (c := c) (by simp) (by simp) (h1 S) l5 g3
  refine ⟨v, S5, y5, g5, ?_⟩
  simp at hv
  rcases hv with rfl | rfl
  · exact ⟨pl_mono 4 16 _ (by decide) p1, b1⟩
  · have lf := lf_of p2
    have := nst_len lf k
    exact ⟨pl_mono k 16 _ hk (nst_pl lf k), by omega⟩
theorem told_ne (S : Sto) : fNe (.str "told") (.str "told") S = .ok (.bl false) S := by
  unfold fNe
  rw [eqD_strs S "told" (by decide +kernel)]
  rfl
theorem feed_take {s s1 : MS} {l : List Nat} (k : Nat) (h : feed s l = some s1) : ∃ s2, feed s (l.take k) = some s2 := by
  rw [← List.take_append_drop k l, feed_app] at h
  cases e : feed s (l.take k) with
  | none => rw [e] at h; cases h
  | some s2 => exact ⟨s2, rfl⟩
theorem turn_i {ρ : Env} {S : Sto} (hl : ρ.length = 11) (h1 : ∀ S, eV 1 ρ S = .ok (.ref 1) S) (hS : HpE S) : ∃ ρ' S', lb_law_1 c ρ S = .nx ρ' S' ∧ Ag [3, 4, 5, 6, 7, 8] ρ ρ' ∧ HpE S' := by
  obtain ⟨T, hT⟩ := hS
  obtain ⟨v, S1, y1, g1, pv, bv⟩ := value_t (c := c) h1 hT
  -- the value
  obtain ⟨ρ3, e3⟩ : ∃ ρ3, ρ3 = ρ.set 3 (some v) := ⟨_, rfl⟩
  have l3 : ρ3.length = 11 := by rw [e3, List.length_set, hl]
  have a3 : Ag [3, 4, 5, 6, 7, 8] ρ ρ3 := by rw [e3]; exact (Ag.rfl' _ ρ).set (by simp) _
  have v3 : ∀ S, eV 3 ρ3 S = .ok v S := fun S => by rw [e3]; exact eV_set (by omega) _
  -- its text
  obtain ⟨w, hw⟩ : ∃ w, w = wr v := ⟨_, rfl⟩
  have bw : w.length ≤ 1213 := by rw [hw]; exact bv
  have w7 : Ok7 w := by rw [hw]; exact wr_ok7 16 v pv
  have y2 : eFn 1 (F__law_written c 18) (dl__law_written.drop 0) (aC (eV 3) aN) ρ3 S1 = .ok (.str (St w)) S1 := by
    rw [hw]
    exact (fn1_ok (F := F__law_written c 18) (v3 S1)).trans (written_i 18 16 v (by decide) pv (by omega) S1)
  obtain ⟨ρ4, e4⟩ : ∃ ρ4, ρ4 = ρ3.set 4 (some (.str (St w))) := ⟨_, rfl⟩
  have l4 : ρ4.length = 11 := by rw [e4, List.length_set, l3]
  have a4 : Ag [3, 4, 5, 6, 7, 8] ρ ρ4 := by rw [e4]; exact a3.set (by simp) _
  have v43 : ∀ S, eV 3 ρ4 S = .ok v S := fun S => by rw [e4]; exact (eV_ne (by decide) _).trans (v3 S)
  have v44 : ∀ S, eV 4 ρ4 S = .ok (.str (St w)) S := fun S => by rw [e4]; exact eV_set (by omega) _
  -- plain, its text, its reading
  have z1 : tVB (Z.e2 fNotC (eFn 2 (F_is_plain c 18) (dl_is_plain.drop 0) (aC (eV 3) aN)) (eC (.bl true))) ρ4 S1 = .ok false S1 := by
    have p := isp_i (c := c) 18 16 v 0 (by decide) pv (by omega) (by decide) S1
    have f : eFn 2 (F_is_plain c 18) (dl_is_plain.drop 0) (aC (eV 3) aN) ρ4 S1 = .ok (.bl true) S1 := by
      simp only [eFn, aC, v43, aN, R.bind_ok, dl_is_plain, List.drop, List.cons_append, List.nil_append, List.length_cons, List.length_nil, if_true]
      exact p
    refine tvb_i ((e2_ok f rfl).trans ?_)
    rfl
  have z2 : tNot (tV (eFn 2 (F__law_like c 19) (dl__law_like.drop 0) (aC (eFn 1 (F_plain_text c 18) (dl_plain_text.drop 0) (aC (eV 3) aN)) (aC (eV 4) aN)))) ρ4 S1 = .ok false S1 := by
    have f : eFn 1 (F_plain_text c 18) (dl_plain_text.drop 0) (aC (eV 3) aN) ρ4 S1 = .ok (.str (St w)) S1 := by
      rw [hw]
      exact (fn1_ok (F := F_plain_text c 18) (v43 S1)).trans (plain_text_i 18 16 v (by decide) pv (by omega) S1)
    exact nlike_e f (v44 S1) (show SeqAt.shaped (.str (St w)) = true from shaped_St w w7)
  obtain ⟨s1, fd, gs1, ws1, ms1⟩ := read_wr pv
  rw [← hw] at fd
  obtain ⟨S2, x2, r2⟩ := of_ok (c := c) w7 (by omega) fd S1
  rw [if_pos ws1, ms1] at r2
  have r2 : F_plain_of c [.str (St w)] S1 = .ok v S2 := r2
  have z3 : tNot (tV (eFn 2 (F__law_like c 19) (dl__law_like.drop 0) (aC (eFn 1 (F__law_read c) (dl__law_read.drop 0) (aC (eV 4) aN)) (aC (eTup (aC (eC (.str "told")) (aC (eV 3) aN))) aN)))) ρ4 S1 = .ok false S2 :=
    nlike_e ((fn1_ok (F := F__law_read c) (v44 S1)).trans (read_told r2)) (etup_ok (acs rfl (acs (v43 S2) acn))) (lk_told pv (by decide) (by omega))
  have h2 : HpE S2 := HpE.fx ⟨T, g1⟩ x2
  obtain ⟨T2, h2'⟩ := h2
  -- a place
  have hl1 : Z.e2 fPlus (eCall fLen (aC (eV 4) aN)) (eC (.int 1)) ρ4 S2 = .ok (.int ((w.length + 1 : Nat))) S2 := by
    have f : eCall fLen (aC (eV 4) aN) ρ4 S2 = .ok (.int (w.length : Nat)) S2 := (call1_ok (v44 S2)).trans (by
      have e : w.length ≤ 16777216 := by omega
      simp only [fLen, St_len, e, if_true])
    rw [e2_ok f (show eC (.int 1) ρ4 S2 = .ok (.int 1) S2 from rfl)]
    simp [fPlus]
  obtain ⟨at', S3, hat, y3, h3⟩ := drw (c := c) (a := eV 1) (by omega) (by omega) h2' ((a4.ev (by decide) _).trans (h1 _)) hl1
  obtain ⟨ρ5, e5⟩ : ∃ ρ5, ρ5 = ρ4.set 5 (some (.int (at' : Nat))) := ⟨_, rfl⟩
  have l5 : ρ5.length = 11 := by rw [e5, List.length_set, l4]
  have a5 : Ag [3, 4, 5, 6, 7, 8] ρ ρ5 := by rw [e5]; exact a4.set (by simp) _
  have v54 : ∀ S, eV 4 ρ5 S = .ok (.str (St w)) S := fun S => by rw [e5]; exact (eV_ne (by decide) _).trans (v44 S)
  have v55 : ∀ S, eV 5 ρ5 S = .ok (.int (at' : Nat)) S := fun S => by rw [e5]; exact eV_set (by omega) _
  -- the beginning
  obtain ⟨p, hp⟩ : ∃ p, p = w.take at' := ⟨_, rfl⟩
  have lp : p.length = at' := by rw [hp, List.length_take]; omega
  have p7 : Ok7 p := by rw [hp]; exact w7.take _
  obtain ⟨s2, f2⟩ := feed_take at' fd
  rw [← hp] at f2
  obtain ⟨gs2, as2⟩ := feed_good _ good0 f2
  have am : abs s2 = p.foldl mstep ⟨0, [], true, false⟩ := as2
  have my : ∀ S, F__law_may c [.str (St p)] S = .ok (.lst (LS (mayl (abs s2)))) S := fun S => may_i p7 (by omega) S am gs2.run
  have sl : ∀ {ρ' : Env} S, (∀ S, eV 4 ρ' S = .ok (.str (St w)) S) → (∀ S, eV 5 ρ' S = .ok (.int (at' : Nat)) S) → eSl (eV 4) oN (oS (eV 5)) ρ' S = .ok (.str (St p)) S := fun {ρ'} S q1 q2 => by
    have e : (St w).length ≤ 16777216 := by rw [St_len]; omega
    simp only [eSl, q1, R.bind_ok, oN, oS, q2, fSl, e, if_true, cutS_hi, hp]
  have mo := mayl_ok (abs s2)
  have t5 : tVB (Z.e2 fIn (eC (.str "")) (eFn 1 (F__law_may c) (dl__law_may.drop 0) (aC (eSl (eV 4) oN (oS (eV 5))) aN))) ρ5 S3 = .ok (decide ([] ∈ mayl (abs s2))) S3 := by
    refine tvb_i ((e2_ok (show eC (.str "") ρ5 S3 = .ok (.str "") S3 from rfl) ((fn1_ok (F := F__law_may c) (sl S3 v54 v55)).trans (my S3))).trans ?_)
    rw [emptyStr]
    exact in_LS .nil mo.1 S3
  obtain ⟨S4, x4, r4⟩ := of_ok (c := c) p7 (by omega) f2 S3
  have st5 : sIf (tVB (Z.e2 fIn (eC (.str "")) (eFn 1 (F__law_may c) (dl__law_may.drop 0) (aC (eSl (eV 4) oN (oS (eV 5))) aN)))) (sIf (tVB (Z.e2 fNe (Z.e2 fIx (eFn 1 (F__law_read c) (dl__law_read.drop 0) (aC (eSl (eV 4) oN (oS (eV 5))) aN)) (eC (.int 0))) (eC (.str "told")))) (sRet (eC (.bl false))) sNx) (sIf (tNot (tV (eFn 2 (F__law_like c 19) (dl__law_like.drop 0) (aC (eFn 1 (F__law_read c) (dl__law_read.drop 0) (aC (eSl (eV 4) oN (oS (eV 5))) aN)) (aC (eTup (aC (eC (.str "wrong")) (aC (eV 5) aN))) aN))))) (sRet (eC (.bl false))) sNx) ρ5 S3 = .nx ρ5 S4 := by
    by_cases he : [] ∈ mayl (abs s2)
    · rw [decide_eq_true he] at t5
      rw [if_pos ((acc_end gs2).mpr he)] at r4
      rw [if_t t5]
      have rd := (fn1_ok (F := F__law_read c) (sl S3 v54 v55)).trans (read_told r4)
      have ix : Z.e2 fIx (eFn 1 (F__law_read c) (dl__law_read.drop 0) (aC (eSl (eV 4) oN (oS (eV 5))) aN)) (eC (.int 0)) ρ5 S3 = .ok (.str "told") S4 := (e2_ok rd rfl).trans (by simp only [fIx, atI_0])
      have tn : tVB (Z.e2 fNe (Z.e2 fIx (eFn 1 (F__law_read c) (dl__law_read.drop 0) (aC (eSl (eV 4) oN (oS (eV 5))) aN)) (eC (.int 0))) (eC (.str "told"))) ρ5 S3 = .ok false S4 := tvb_i ((e2_ok ix rfl).trans (told_ne S4))
      rw [if_f tn]
      rfl
    · rw [decide_eq_false he] at t5
      have wn : ¬ s2.whole.1 = true := fun z => he ((acc_end gs2).mp z)
      rw [if_neg wn, lp] at r4
      rw [if_f t5]
      have tn := nlike_e (c := c) ((fn1_ok (F := F__law_read c) (sl S3 v54 v55)).trans (read_wrong r4)) (etup_ok (acs (show eC (.str "wrong") ρ5 S4 = .ok (.str "wrong") S4 from rfl) (acs (v55 S4) acn))) (lk_wrong _)
      exact (if_f tn).trans rfl
  -- the wrong signs
  obtain ⟨W, hW⟩ : ∃ W, W = (LS (ones alpha)).filter (pD (abs s2)) := ⟨_, rfl⟩
  have mem_W : ∀ d, d ∈ W ↔ ∃ k, k ∈ alpha ∧ [k] ∉ mayl (abs s2) ∧ d = .str (St [k]) := fun d => by
    rw [hW, List.mem_filter]
    constructor
    · rintro ⟨q1, q2⟩
      obtain ⟨t, ht, rfl⟩ := List.mem_map.mp q1
      obtain ⟨k, hk, rfl⟩ := List.mem_map.mp ht
      refine ⟨k, hk, fun z => ?_, rfl⟩
      have e : pD (abs s2) (.str (St [k])) = !decide ([k] ∈ mayl (abs s2)) := rfl
      rw [e, decide_eq_true z] at q2
      cases q2
    · rintro ⟨k, hk, q, rfl⟩
      exact ⟨List.mem_map.mpr ⟨[k], List.mem_map.mpr ⟨k, hk, rfl⟩, rfl⟩, by
        have e : pD (abs s2) (.str (St [k])) = !decide ([k] ∈ mayl (abs s2)) := rfl
        rw [e, decide_eq_false q]
        rfl⟩
  have lW : W.length ≤ 22 := by
    rw [hW]
    refine Nat.le_trans (List.length_filter_le ..) ?_
    rw [LS_len]
    simp [ones, alpha]
  have W0 : 0 < W.length := by
    have : D.str (St [46]) ∈ W := (mem_W _).mpr ⟨46, by decide, mo.2, rfl⟩
    exact List.length_pos_of_mem this
  have y6 : eLV (lLc (.nm 7) (iSeq (eLV (lTxt (eC (.str "0123456789-() nox,.N\n["))))) (tVB (Z.e2 fNotIn (eV 7) (eFn 1 (F__law_may c) (dl__law_may.drop 0) (aC (eSl (eV 4) oN (oS (eV 5))) aN)))) (eV 7) [7]) ρ5 S4 = .ok (.lst W) S4 := by
    have it : iSeq (eLV (lTxt (eC (.str "0123456789-() nox,.N\n[")))) ρ5 S4 = .ok (LS (ones alpha), fun _ => True) S4 := by
      unfold iSeq
      rw [txt_i alphaStr (by decide)]
      rfl
    refine elv_ok (llc_ok it (by rw [LS_len]; simp [ones, alpha]) ?_)
    rw [hW]
    have key := lcI_filter (tg := .nm 7) (chk := fun _ => True) (t := tVB (Z.e2 fNotIn (eV 7) (eFn 1 (F__law_may c) (dl__law_may.drop 0) (aC (eSl (eV 4) oN (oS (eV 5))) aN)))) (e := eV 7) (ρ0 := wipeD ρ5 [7]) (S := S4) (pD (abs s2)) (fun d => d) trivial (LS (ones alpha)) fun d hd => by
      obtain ⟨t, ht, rfl⟩ := List.mem_map.mp hd
      obtain ⟨k, hk, rfl⟩ := List.mem_map.mp ht
      refine ⟨_, asg_nm .., ?_, fun _ => eV_ws (by omega) _⟩
      have q4 : ∀ S, eV 4 ((wipeD ρ5 [7]).set 7 (some (.str (St [k])))) S = .ok (.str (St w)) S := fun S => (eV_w (by decide) _).trans (v54 S)
      have q5 : ∀ S, eV 5 ((wipeD ρ5 [7]).set 7 (some (.str (St [k])))) S = .ok (.int (at' : Nat)) S := fun S => (eV_w (by decide) _).trans (v55 S)
      exact tvb_i ((e2_ok (eV_ws (by omega) _) ((fn1_ok (F := F__law_may c) (sl S4 q4 q5)).trans (my S4))).trans (notin_LS (.one (alpha_ok k hk)) mo.1 S4))
    simpa using key
  obtain ⟨ρ6, e6⟩ : ∃ ρ6, ρ6 = ρ5.set 6 (some (.lst W)) := ⟨_, rfl⟩
  have l6 : ρ6.length = 11 := by rw [e6, List.length_set, l5]
  have a6 : Ag [3, 4, 5, 6, 7, 8] ρ ρ6 := by rw [e6]; exact a5.set (by simp) _
  have v64 : ∀ S, eV 4 ρ6 S = .ok (.str (St w)) S := fun S => by rw [e6]; exact (eV_ne (by decide) _).trans (v54 S)
  have v65 : ∀ S, eV 5 ρ6 S = .ok (.int (at' : Nat)) S := fun S => by rw [e6]; exact (eV_ne (by decide) _).trans (v55 S)
  have v66 : ∀ S, eV 6 ρ6 S = .ok (.lst W) S := fun S => by rw [e6]; exact eV_set (by omega) _
  -- the bent text
  obtain ⟨T4, h4⟩ := HpE.fx ⟨T2, h3⟩ x4
  obtain ⟨dk, S5, hdk, y7, h5⟩ := pck (c := c) W0 (by omega) ((a6.ev (by decide) _).trans (h1 _)) (v66 S4) h4
  obtain ⟨k, hk, nk, rfl⟩ := (mem_W dk).mp hdk
  obtain ⟨r, S6, hr, y8, h6⟩ := drw (c := c) (many := 2) (a := eV 1) (b := eC (.int 2)) (by decide) (by decide) h5 ((a6.ev (by decide) _).trans (h1 _)) rfl
  obtain ⟨rest, hrest⟩ : ∃ rest, rest = w.drop (at' + r) := ⟨_, rfl⟩
  have lr : rest.length ≤ w.length := by rw [hrest, List.length_drop]; omega
  have y9 : Z.e2 fPlus (Z.e2 fPlus (eSl (eV 4) oN (oS (eV 5))) (eFn 2 (F__law_pick c) (dl__law_pick.drop 0) (aC (eV 1) (aC (eV 6) aN)))) (eSl (eV 4) (oS (Z.e2 fPlus (eV 5) (eFn 2 (F__law_draw c) (dl__law_draw.drop 0) (aC (eV 1) (aC (eC (.int 2)) aN))))) oN) ρ6 S4 = .ok (.str (St (p ++ k :: rest))) S6 := by
    have q1 : Z.e2 fPlus (eSl (eV 4) oN (oS (eV 5))) (eFn 2 (F__law_pick c) (dl__law_pick.drop 0) (aC (eV 1) (aC (eV 6) aN))) ρ6 S4 = .ok (.str (St (p ++ [k]))) S5 := (e2_ok (sl S4 v64 v65) y7).trans (plus_St _ _ _ (by simp; omega))
    have q2 : Z.e2 fPlus (eV 5) (eFn 2 (F__law_draw c) (dl__law_draw.drop 0) (aC (eV 1) (aC (eC (.int 2)) aN))) ρ6 S5 = .ok (.int ((at' + r : Nat))) S6 := (e2_ok (v65 S5) y8).trans (by simp [fPlus])
    have q3 : eSl (eV 4) (oS (Z.e2 fPlus (eV 5) (eFn 2 (F__law_draw c) (dl__law_draw.drop 0) (aC (eV 1) (aC (eC (.int 2)) aN))))) oN ρ6 S5 = .ok (.str (St rest)) S6 := by
      have e : (St w).length ≤ 16777216 := by rw [St_len]; omega
      simp only [eSl, v64, R.bind_ok, oN, oS, q2, fSl, e, if_true, cutS_lo, hrest]
    rw [e2_ok q1 q3, plus_St _ _ _ (by simp; omega)]
    simp
  obtain ⟨ρ8, e8⟩ : ∃ ρ8, ρ8 = ρ6.set 8 (some (.str (St (p ++ k :: rest)))) := ⟨_, rfl⟩
  have l8 : ρ8.length = 11 := by rw [e8, List.length_set, l6]
  have a8 : Ag [3, 4, 5, 6, 7, 8] ρ ρ8 := by rw [e8]; exact a6.set (by simp) _
  have v85 : ∀ S, eV 5 ρ8 S = .ok (.int (at' : Nat)) S := fun S => by rw [e8]; exact (eV_ne (by decide) _).trans (v65 S)
  have v88 : ∀ S, eV 8 ρ8 S = .ok (.str (St (p ++ k :: rest))) S := fun S => by rw [e8]; exact eV_set (by omega) _
  have tk : (s2.takes k).1 = false := by
    cases hb : (s2.takes k).1 with
    | false => rfl
    | true => exact absurd ((acc gs2 k).mp hb) nk
  obtain ⟨S7, x7, r7⟩ := of_bad (c := c) rest p7 (alpha_ok k hk) (by omega) f2 tk S6
  rw [lp] at r7
  have st8 : sIf (tNot (tV (eFn 2 (F__law_like c 19) (dl__law_like.drop 0) (aC (eFn 1 (F__law_read c) (dl__law_read.drop 0) (aC (eV 8) aN)) (aC (eTup (aC (eC (.str "wrong")) (aC (eV 5) aN))) aN))))) (sRet (eC (.bl false))) sNx ρ8 S6 = .nx ρ8 S7 := by
    have tn := nlike_e (c := c) ((fn1_ok (F := F__law_read c) (v88 S6)).trans (read_wrong r7)) (etup_ok (acs (show eC (.str "wrong") ρ8 S7 = .ok (.str "wrong") S7 from rfl) (acs (v85 S7) acn))) (lk_wrong _)
    exact (if_f tn).trans rfl
  refine ⟨ρ8, S7, ?_, a8, HpE.fx ⟨T4, h6⟩ x7⟩
  unfold lb_law_1
  rw [seq_set y1, ← e3]
  rw [seq_set y2, ← e4]
  rw [seq_skip (or_ff z1 (or_ff z2 z3))]
  rw [seq_set y3, ← e5]
  rw [seq_nx st5]
  rw [seq_set y6, ← e6]
  rw [seq_set y9, ← e8]
  exact st8
end Z.k67
namespace Z.k67
open PySem L2 Z TL
variable {c : Ad}
/-! ### what is not plain -/
theorem isp_no {q : Nat} {d k : D} {S : Sto} (h1 : d ≠ .non) (h2 : fIsi c.cs [d, .ty "tuple"] S = .ok (.bl false) S) (h3 : F_is_integer c [d] S = .ok (.bl false) S) : F_is_plain c (q + 1) [d, k] S = .ok (.bl false) S := by
  refine isp_tail h1 (tv_i ?_) ?_
  · have : eCall (fIsi c.cs) (aC (eV 0) (aC (eC (.ty "tuple")) aN)) (env0 3 [d, k]) S = fIsi c.cs [d, .ty "tuple"] S := rfl
    rw [this]
    exact h2
  · have f1 : eFn 1 (F_is_integer c) (dl_is_integer.drop 0) (aC (eV 0) aN) (env0 3 [d, k]) S = .ok (.bl false) S := (fn1_ok (F := F_is_integer c) (show eV 0 (env0 3 [d, k]) S = .ok d S from rfl)).trans h3
    unfold eAnd
    rw [f1]
    rfl
theorem isp_bl (q : Nat) (b : Bool) (k : D) (S : Sto) : F_is_plain c (q + 1) [.bl b, k] S = .ok (.bl false) S := isp_no (by simp) (by simp [fIsi, tyD, isK, tNames, rB]) (noI_bl c b S)
theorem isp_str (q : Nat) (b : Str) (k : D) (S : Sto) : F_is_plain c (q + 1) [.str b, k] S = .ok (.bl false) S := isp_no (by simp) (by simp [fIsi, tyD, isK, tNames, rB]) (noI_str c b S)
theorem isp_lst (q : Nat) (b : List D) (k : D) (S : Sto) : F_is_plain c (q + 1) [.lst b, k] S = .ok (.bl false) S := isp_no (by simp) (by simp [fIsi, tyD, isK, tNames, rB]) (noI_lst c b S)
theorem isp_dct (q n : Nat) (k : D) (S : Sto) {kvs : List (Key × D)} (h : S[n]? = some (.dct kvs)) : F_is_plain c (q + 1) [.ref n, k] S = .ok (.bl false) S := isp_no (by simp) (by simp [fIsi, tyD, h, isK, tNames, rB]) (by simp [F_is_integer, den_is_integer, tyD, h, runB, env0, sSeq, sRet, sRetN, sIf, sSet, sDrop, sNx, sPar, sAsg, sAttr, sPut, sRaise, Tg.asg, Tg.asgs, eAnd, eOr, eNot, eIf, tAnd, tOr, tNot, tV, tVB, tYes, eCall, eFn, eMk, eMt, eFld, eBM, aC, aN, eV, eC, Z.e1, Z.e2, eTup, eLV, eLN, eChain, eSl, fIsi, tyD, isK, anyK, tNames, rB, tru, fLen, fTuple, fAbs, fInt, fAll, fAny, fIsN, fNotN, fIsB, fNotB, fNeg, seqOf, lstOf, isL, fLt_ii, fLe_ii, fGt_ii, fGe_ii, fSub_ii, fPlus, fMod_ii, fMul_ii, fDiv_ii, fEq, fNe, eqD_int, fIx, atI_0, atI_1, atI_2, lLc, lLc2, iSeq, iCall, fEnum, fZip, wipeD, putD, lSl, lRev, R.to_ok, R.bind_ok])
theorem isp_non (q : Nat) (k : D) (S : Sto) : F_is_plain c (q + 1) [.non, k] S = .ok (.bl true) S := by
  show runB 3 (den_is_plain c (F_is_plain c q)) [.non, k] S = _
  refine run_rt ?_
  unfold den_is_plain
  have t : tVB (Z.e1 fIsN (eV 0)) (env0 3 [.non, k]) S = .ok true S := rfl
  exact seq_rt ((if_t t).trans rfl)
theorem isp_top (q : Nat) (ds : List D) (S : Sto) : F_is_plain c (q + 1) [.tup ds, .int ((16 : Nat))] S = .ok (.bl false) S := by
  show runB 3 (den_is_plain c (F_is_plain c q)) [.tup ds, .int ((16 : Nat))] S = _
  refine run_rt ?_
  unfold den_is_plain
  rw [seq_skip (isN_i (show eV 0 (env0 3 [.tup ds, .int ((16 : Nat))]) S = .ok (.tup ds) S from rfl) (by simp))]
  have t2 : tV (eCall (fIsi c.cs) (aC (eV 0) (aC (eC (.ty "tuple")) aN))) (env0 3 [.tup ds, .int ((16 : Nat))]) S = .ok true S := by
    simp [tV, eCall, aC, aN, eV, eC, env0, fIsi, tyD, isK, tNames, rB, tru]
  refine seq_rt ((if_t t2).trans (ret_rt ?_))
  have l1 : Z.e2 fLt (eV 1) (eC (.int 16)) (env0 3 [.tup ds, .int ((16 : Nat))]) S = .ok (.bl false) S := (e2_ok rfl rfl).trans (by rw [fLt_ii]; rfl)
  unfold eAnd
  rw [l1]
  rfl
theorem isp_deep (d : D) (S : Sto) : ∀ (j k q : Nat), k + j = 16 → j + 1 ≤ q → F_is_plain c q [nst (j + 1) d, .int (k : Nat)] S = .ok (.bl false) S
  | 0, k, q, h, hq => by
    obtain ⟨q', rfl⟩ : ∃ q', q = q' + 1 := ⟨q - 1, by omega⟩
    have : k = 16 := by omega
    subst this
    exact isp_top q' _ S
  | j + 1, k, q, h, hq => by
    obtain ⟨q', rfl⟩ : ∃ q', q = q' + 1 := ⟨q - 1, by omega⟩
    have r := isp_tup (c := c) (q := q') (ds := [nst (j + 1) d]) (k := k) (S := S) (by omega) (by simp) (fun _ => false) fun x hx => by
      rw [List.mem_singleton.mp hx]
      exact isp_deep d S j (k + 1) q' (by omega) (by omega)
    exact r
/-- the odd values -/
def oddD (n : Nat) : List D := [.int 1000000000000, .int (-1000000000000), .bl true, .str "1", .str "a", .lst [.int 1], .tup [.int 1, .lst [.int 2]], .tup [.non, .str "none"], nst 17 (.int 0), .ref n, .tup [.bl true]]
theorem odd_no {n : Nat} {S : Sto} (hn : S[n]? = some (.dct [])) : ∀ d ∈ oddD n, F_is_plain c 18 [d, .int ((0 : Nat))] S = .ok (.bl false) S := by
  intro d hd
  simp only [oddD, List.mem_cons, List.mem_nil_iff, or_false] at hd
  rcases hd with rfl | rfl | rfl | rfl | rfl | rfl | rfl | rfl | rfl | rfl | rfl
  · exact (isp_int 17 _ _ S).trans rfl
  · exact (isp_int 17 _ _ S).trans rfl
  · exact isp_bl 17 _ _ S
  · exact isp_str 17 _ _ S
  · exact isp_str 17 _ _ S
  · exact isp_lst 17 _ _ S
  · refine (isp_tup (q := 17) (k := 0) (by decide) (by decide) (fun d => match d with | .int _ => true | _ => false) fun x hx => ?_).trans rfl
    simp only [List.mem_cons, List.mem_nil_iff, or_false] at hx
    rcases hx with rfl | rfl
    · exact (isp_int 16 _ _ S).trans rfl
    · exact isp_lst 16 _ _ S
  · refine (isp_tup (q := 17) (k := 0) (by decide) (by decide) (fun d => match d with | .non => true | _ => false) fun x hx => ?_).trans rfl
    simp only [List.mem_cons, List.mem_nil_iff, or_false] at hx
    rcases hx with rfl | rfl
    · exact isp_non 16 _ S
    · exact isp_str 16 _ _ S
  · exact isp_deep (.int 0) S 16 0 18 (by decide) (by decide)
  · exact isp_dct 17 _ _ S hn
  · refine (isp_tup (q := 17) (k := 0) (by decide) (by decide) (fun _ => false) fun x hx => ?_).trans rfl
    rw [List.mem_singleton.mp hx]
    exact isp_bl 16 _ _ S
/-! ### no texts, and the last three -/
theorem not_text {d : D} {S : Sto} (h : fIsi c.cs [d, .ty "str"] S = .ok (.bl false) S) : F__law_read c [d] S = .ok (.tup [.str "wrong", .int (-1)]) S := by
  refine read_wrong (of_no (not_i (b := false) (tv_i ?_)))
  have : eCall (fIsi c.cs) (aC (eV 0) (aC (eC (.ty "str")) aN)) (env0 4 [d]) S = fIsi c.cs [d, .ty "str"] S := rfl
  rw [this]
  exact h
theorem turn2_i {ρ : Env} {S : Sto} {d : D} (h3 : eV 3 ρ S = .ok d S) (h : fIsi c.cs [d, .ty "str"] S = .ok (.bl false) S) : lb_law_2 c ρ S = .nx ρ S := by
  have tn := nlike_e (c := c) ((fn1_ok (F := F__law_read c) h3).trans (not_text h)) (etup_ok (acs (show eC (.str "wrong") ρ S = .ok (.str "wrong") S from rfl) (acs (show Z.e1 fNeg (eC (.int 1)) ρ S = .ok (.int (-1)) S from rfl) acn))) (lk_wrong _)
  exact (if_f tn).trans rfl
theorem many_open : Txt.mul ("(" : Str) 17 = St (List.replicate 16 40 ++ 40 :: []) := by decide +kernel
theorem many_one : Txt.mul ("1" : Str) 13 = St (List.replicate 12 49 ++ 49 :: []) := by decide +kernel
theorem feed_open : ∃ s1, feed i0 (List.replicate 16 40) = some s1 ∧ (s1.takes 40).1 = false := ⟨_, rfl, rfl⟩
theorem feed_one : ∃ s1, feed i0 (List.replicate 12 49) = some s1 ∧ (s1.takes 49).1 = false := ⟨_, rfl, rfl⟩
end Z.k67
namespace Z.k67
open PySem L2 Z TL
theorem law_true (c : Ad) (ns : List Int) (hn : ns.length ≤ 63) : ∃ S, F_law c [.scr (scrD ns)] [] = .ok (.bl true) S := by
  obtain ⟨S0, eh, h0⟩ := heap_i c ns
  have e1' : F__law_heap c [.scr (scrD ns)] [] = .ok (.ref 1) S0 := eh
  obtain ⟨SC, hSC⟩ : ∃ SC, SC = D.scr (scrD ns) := ⟨_, rfl⟩
  rw [← hSC] at e1' ⊢
  obtain ⟨ρ0, hρ0⟩ : ∃ ρ0 : Env, ρ0 = env0 11 [SC] := ⟨_, rfl⟩
  have l0 : ρ0.length = 11 := by rw [hρ0]; rfl
  have y0 : eFn 1 (F__law_heap c) (dl__law_heap.drop 0) (aC (eV 0) aN) ρ0 [] = .ok (.ref 1) S0 := by
    rw [hρ0]
    exact (fn1_ok (F := F__law_heap c) (x := SC) (S1 := []) rfl).trans e1'
  obtain ⟨ρ1, hρ1⟩ : ∃ ρ1, ρ1 = ρ0.set 1 (some (.ref 1)) := ⟨_, rfl⟩
  have l1 : ρ1.length = 11 := by rw [hρ1, List.length_set, l0]
  have a1 : ∀ S, eV 1 ρ1 S = .ok (.ref 1) S := fun S => by rw [hρ1]; exact eV_set (by omega) _
  -- four turns
  obtain ⟨ρ2, S2, q2, ag2, h2⟩ := forI_idx (tg := .nm 2) (chk := fun _ => True) (b := lb_law_1 c) (fun j ρ' S' => Ag [2, 3, 4, 5, 6, 7, 8] ρ1 ρ' ∧ HpE S') (iRow 0 4) ρ1 S0 ⟨.rfl' _ _, _, h0⟩ fun j d hd ρ' S' hP => by
    obtain ⟨ag, hS'⟩ := hP
    have agx : Ag [2, 3, 4, 5, 6, 7, 8] ρ1 (ρ'.set 2 (some d)) := ag.set (by simp) _
    obtain ⟨ρ3, S3, f3, ag3, h3⟩ := turn_i (c := c) (agx.len.trans l1) (fun S => (agx.ev (by decide) S).trans (a1 S)) hS'
    exact ⟨_, asg_nm .., _, _, .inl f3, trivial, agx.trans ⟨ag3.len, fun i hi => ag3.eq i (by simp at hi ⊢; omega)⟩, h3⟩
  have i4 : iR1 (eC (.int 4)) ρ1 S0 = .ok (iRow 0 4, fun _ => True) S0 := iR1_nat (n := 4) rfl (by omega)
  have l2 : ρ2.length = 11 := ag2.len.trans l1
  -- the odd ones
  have nst17 : eFn 2 (F__law_nested c) (dl__law_nested.drop 0) (aC (eC (.int 0)) (aC (eC (.int 17)) aN)) ρ2 S2 = .ok (nst 17 (.int 0)) S2 := (fn2_ok (F := F__law_nested c) (show eC (.int 0) ρ2 S2 = .ok (.int 0) S2 from rfl) (show eC (.int 17) ρ2 S2 = .ok (.int ((17 : Nat) : Int)) S2 from rfl)).trans (nested_i (.int 0) 17 (by decide) S2)
  have ng : Z.e1 fNeg (Z.e2 fPow (eC (.int 10)) (eC (.int 12))) ρ2 S2 = .ok (.int (-1000000000000)) S2 := (e1_ok (pow12 ρ2 S2)).trans rfl
  have lone : ∀ (x : Int) S, eLV (aC (eC (.int x)) aN) ρ2 S = .ok (.lst [.int x]) S := fun x S => rfl
  obtain ⟨S3, hS3⟩ : ∃ S3, S3 = S2 ++ [O.dct []] := ⟨_, rfl⟩
  have y9 : eLV (aC (e2 fPow (eC (.int 10)) (eC (.int 12))) (aC (Z.e1 fNeg (e2 fPow (eC (.int 10)) (eC (.int 12)))) (aC (eC (.bl true)) (aC (eC (.str "1")) (aC (eC (.str "a")) (aC (eLV (aC (eC (.int 1)) aN)) (aC (eTup (aC (eC (.int 1)) (aC (eLV (aC (eC (.int 2)) aN)) aN))) (aC (eTup (aC (eC .non) (aC (eC (.str "none")) aN))) (aC (eFn 2 (F__law_nested c) (dl__law_nested.drop 0) (aC (eC (.int 0)) (aC (eC (.int 17)) aN))) (aC eDct (aC (eTup (aC (eC (.bl true)) aN)) aN))))))))))) ρ2 S2 = .ok (.lst (oddD S2.length)) S3 := by
    rw [hS3]
    refine elv_ok ?_
    exact acs (pow12 ρ2 S2) (acs ng (acs rfl (acs rfl (acs rfl (acs (lone 1 _) (acs (etup_ok (acs rfl (acs (lone 2 _) acn))) (acs (etup_ok (acs rfl (acs rfl acn))) (acs nst17 (acs rfl (acs (etup_ok (acs rfl acn)) acn))))))))))
  have hd3 : S3[S2.length]? = some (.dct []) := by rw [hS3]; simp
  obtain ⟨ρ9, hρ9⟩ : ∃ ρ9, ρ9 = ρ2.set 9 (some (.lst (oddD S2.length))) := ⟨_, rfl⟩
  have l9 : ρ9.length = 11 := by rw [hρ9, List.length_set, l2]
  have a9 : ∀ S, eV 9 ρ9 S = .ok (.lst (oddD S2.length)) S := fun S => by rw [hρ9]; exact eV_set (by omega) _
  have tany : tV (eCall fAny (aC (eLV (lLc (.nm 10) (iSeq (eV 9)) tYes (e2 fNotC (eFn 2 (F_is_plain c 18) (dl_is_plain.drop 0) (aC (eV 10) aN)) (eC (.bl false))) [10])) aN)) ρ9 S3 = .ok false S3 := by
    have it : iSeq (eV 9) ρ9 S3 = .ok (oddD S2.length, fun _ => True) S3 := by
      unfold iSeq
      rw [a9]
      rfl
    have lc := lcI_map (tg := .nm 10) (chk := fun _ => True) (e := e2 fNotC (eFn 2 (F_is_plain c 18) (dl_is_plain.drop 0) (aC (eV 10) aN)) (eC (.bl false))) (ρ0 := wipeD ρ9 [10]) (S := S3) (fun _ => .bl false) trivial (oddD S2.length) fun d hd => by
      refine ⟨_, asg_nm .., ?_⟩
      have f : eFn 2 (F_is_plain c 18) (dl_is_plain.drop 0) (aC (eV 10) aN) ((wipeD ρ9 [10]).set 10 (some d)) S3 = .ok (.bl false) S3 := by
        have v := eV_ws (ρ := ρ9) (S := S3) (i := 10) (by omega) d
        simp only [eFn, aC, v, aN, R.bind_ok, dl_is_plain, List.drop, List.cons_append, List.nil_append, List.length_cons, List.length_nil, if_true]
        exact odd_no hd3 d hd
      exact (e2_ok f rfl).trans rfl
    refine tv_i ((call1_ok (elv_ok (llc_ok it (by simp [oddD]) lc))).trans ?_)
    have g2 : bools ((oddD S2.length).map fun _ => D.bl false) = some ((oddD S2.length).map fun _ => false) := bools_map (fun _ => false) _
    have g3 : (((oddD S2.length).map fun _ => false).any id) = false := by simp
    simp only [fAny, lstOf, Option.bind, g2, g3]
  -- no texts
  have y10 : eLV (aC (eC .non) (aC (eC (.int 5)) (aC (eTup (aC (eC (.str "1")) aN)) (aC (eLV (aC (eC (.str "1")) aN)) (aC (eC (.bl true)) aN))))) ρ9 S3 = .ok (.lst [.non, .int 5, .tup [.str "1"], .lst [.str "1"], .bl true]) S3 := rfl
  have it3 : iSeq (eLV (aC (eC .non) (aC (eC (.int 5)) (aC (eTup (aC (eC (.str "1")) aN)) (aC (eLV (aC (eC (.str "1")) aN)) (aC (eC (.bl true)) aN)))))) ρ9 S3 = .ok ([.non, .int 5, .tup [.str "1"], .lst [.str "1"], .bl true], fun _ => True) S3 := by
    unfold iSeq
    rw [y10]
    rfl
  obtain ⟨ρ10, S4, q4, ag4, rfl⟩ := forI_idx (tg := .nm 3) (chk := fun _ => True) (b := lb_law_2 c) (fun j ρ' S' => Ag [3] ρ9 ρ' ∧ S' = S3) [.non, .int 5, .tup [.str "1"], .lst [.str "1"], .bl true] ρ9 S3 ⟨.rfl' _ _, rfl⟩ fun j d hd ρ' S' hP => by
    obtain ⟨ag, rfl⟩ := hP
    have agx : Ag [3] ρ9 (ρ'.set 3 (some d)) := ag.set (by simp) _
    have v3 : eV 3 (ρ'.set 3 (some d)) S' = .ok d S' := eV_set (by have := ag.len; omega) d
    have hm : d ∈ [.non, .int 5, .tup [.str "1"], .lst [.str "1"], D.bl true] := List.mem_of_getElem? hd
    have no : fIsi c.cs [d, .ty "str"] S' = .ok (.bl false) S' := by
      simp only [List.mem_cons, List.mem_nil_iff, or_false] at hm
      rcases hm with rfl | rfl | rfl | rfl | rfl <;> simp [fIsi, tyD, isK, tNames, rB]
    exact ⟨_, asg_nm .., _, _, .inl (turn2_i v3 no), trivial, agx, rfl⟩
  -- the last three
  obtain ⟨s5, f5, b5⟩ := feed_open
  obtain ⟨S5, x5, r5⟩ := of_bad (c := c) (l := List.replicate 16 40) (k := 40) [] (by unfold Ok7; decide) (by decide) (by decide) f5 b5 S4
  obtain ⟨s6, f6, b6⟩ := feed_one
  obtain ⟨S6, x6, r6⟩ := of_bad (c := c) (l := List.replicate 12 49) (k := 49) [] (by unfold Ok7; decide) (by decide) (by decide) f6 b6 S5
  obtain ⟨S7, x7, r7⟩ := of_ok (c := c) (l := []) .nil (by decide) (s1 := i0) rfl S6
  have r7 : F_plain_of c [.str (St [])] S6 = .exc c.InvalidText (.int ((0 : Nat))) S7 := r7
  have m1 : e2 fMulS (eC (.str "(")) (eC (.int 17)) ρ10 S4 = .ok (.str (St (List.replicate 16 40 ++ 40 :: []))) S4 := by
    rw [e2_ok (show eC (.str "(") ρ10 S4 = .ok (.str "(") S4 from rfl) (show eC (.int 17) ρ10 S4 = .ok (.int 17) S4 from rfl)]
    have q : (0 : Int) ≤ 17 ∧ (17 : Int) ≤ 1000 ∧ (("(" : Str)).length ≤ 1000 := ⟨by decide, by decide, by decide +kernel⟩
    simp only [fMulS, q, and_self, if_true, many_open]
  have m2 : e2 fMulS (eC (.str "1")) (eC (.int 13)) ρ10 S5 = .ok (.str (St (List.replicate 12 49 ++ 49 :: []))) S5 := by
    rw [e2_ok (show eC (.str "1") ρ10 S5 = .ok (.str "1") S5 from rfl) (show eC (.int 13) ρ10 S5 = .ok (.int 13) S5 from rfl)]
    have q : (0 : Int) ≤ 13 ∧ (13 : Int) ≤ 1000 ∧ (("1" : Str)).length ≤ 1000 := ⟨by decide, by decide, by decide +kernel⟩
    simp only [fMulS, q, and_self, if_true, many_one]
  have z1 := like_e (c := c) ((fn1_ok (F := F__law_read c) m1).trans (read_wrong r5)) (etup_ok (acs (show eC (.str "wrong") ρ10 S5 = .ok (.str "wrong") S5 from rfl) (acs (show eC (.int 16) ρ10 S5 = .ok (.int ((List.replicate 16 40).length : Nat)) S5 from rfl) acn))) (lk_wrong _)
  have z2 := like_e (c := c) ((fn1_ok (F := F__law_read c) m2).trans (read_wrong r6)) (etup_ok (acs (show eC (.str "wrong") ρ10 S6 = .ok (.str "wrong") S6 from rfl) (acs (show eC (.int 12) ρ10 S6 = .ok (.int ((List.replicate 12 49).length : Nat)) S6 from rfl) acn))) (lk_wrong _)
  rw [← emptyStr] at r7
  have z3 := like_e (c := c) ((fn1_ok (F := F__law_read c) (show eC (.str "") ρ10 S6 = .ok (.str "") S6 from rfl)).trans (read_wrong r7)) (etup_ok (acs (show eC (.str "wrong") ρ10 S7 = .ok (.str "wrong") S7 from rfl) (acs (show eC (.int 0) ρ10 S7 = .ok (.int ((0 : Nat) : Int)) S7 from rfl) acn))) (lk_wrong _)
  have an : ∀ {a b : DE} {SA SB SD : Sto}, a ρ10 SA = .ok (.bl true) SB → b ρ10 SB = .ok (.bl true) SD → eAnd a b ρ10 SA = .ok (.bl true) SD := fun {a b SA SB SD} ha hb => by
    unfold eAnd
    rw [ha]
    simpa [tru] using hb
  refine ⟨S7, ?_⟩
  show runB 11 (den_law c) [SC] [] = _
  refine run_rt ?_
  rw [← hρ0]
  unfold den_law
  rw [seq_set y0, ← hρ1]
  rw [seq_nx (Eq.trans (for_nx i4) q2)]
  rw [seq_set y9, ← hρ9]
  rw [seq_skip tany]
  rw [seq_nx (Eq.trans (for_nx it3) q4)]
  exact ret_rt (an z1 (an z2 z3))
end Z.k67
open PySem PySem.W PyProof.Rows
open_top hd67 for PySem.Challenge.rw_wholestrokes_k67_whole_plain_values_as_t
namespace Z.k67
open PySem L2 Z
structure Tx (P : Program) (w : World) (K : PySem.W.Frag) (mg : Str → Option Value) (base : Heap) : Prop where
  d_is_integer : ∃ fd, FunD K "is_integer" "is_integer" (defArgs s_is_integer) (defBody s_is_integer) (defScope s_is_integer) [] [] (He.ga K "is_integer") fd
  m_is_integer : mg "is_integer" = some (.ref (He.ga K "is_integer"))
  d_is_plain : ∃ fd, FunD K "is_plain" "is_plain" (defArgs s_is_plain) (defBody s_is_plain) (defScope s_is_plain) [V.int 0] [] (He.ga K "is_plain") fd
  m_is_plain : mg "is_plain" = some (.ref (He.ga K "is_plain"))
  d_plain_text : ∃ fd, FunD K "plain_text" "plain_text" (defArgs s_plain_text) (defBody s_plain_text) (defScope s_plain_text) [] [] (He.ga K "plain_text") fd
  m_plain_text : mg "plain_text" = some (.ref (He.ga K "plain_text"))
  d_PlainReading_mk : ∃ fd, FunD K "__init__" "PlainReading.__init__" (defArgs s_PlainReading_mk) (defBody s_PlainReading_mk) (defScope s_PlainReading_mk) [] [] (He.ma K (He.ga K "PlainReading") "__init__") fd
  d_PlainReading_put : ∃ fd, FunD K "put" "PlainReading.put" (defArgs s_PlainReading_put) (defBody s_PlainReading_put) (defScope s_PlainReading_put) [] [] (He.ma K (He.ga K "PlainReading") "put") fd
  mt_PlainReading_put : Meth K (He.ga K "PlainReading") "put" (He.ma K (He.ga K "PlainReading") "put")
  d_PlainReading_ends_run : ∃ fd, FunD K "ends_run" "PlainReading.ends_run" (defArgs s_PlainReading_ends_run) (defBody s_PlainReading_ends_run) (defScope s_PlainReading_ends_run) [] [] (He.ma K (He.ga K "PlainReading") "ends_run") fd
  mt_PlainReading_ends_run : Meth K (He.ga K "PlainReading") "ends_run" (He.ma K (He.ga K "PlainReading") "ends_run")
  d_PlainReading_goes_on : ∃ fd, FunD K "goes_on" "PlainReading.goes_on" (defArgs s_PlainReading_goes_on) (defBody s_PlainReading_goes_on) (defScope s_PlainReading_goes_on) [] [] (He.ma K (He.ga K "PlainReading") "goes_on") fd
  mt_PlainReading_goes_on : Meth K (He.ga K "PlainReading") "goes_on" (He.ma K (He.ga K "PlainReading") "goes_on")
  d_PlainReading_begins : ∃ fd, FunD K "begins" "PlainReading.begins" (defArgs s_PlainReading_begins) (defBody s_PlainReading_begins) (defScope s_PlainReading_begins) [] [] (He.ma K (He.ga K "PlainReading") "begins") fd
  mt_PlainReading_begins : Meth K (He.ga K "PlainReading") "begins" (He.ma K (He.ga K "PlainReading") "begins")
  d_PlainReading_closes : ∃ fd, FunD K "closes" "PlainReading.closes" (defArgs s_PlainReading_closes) (defBody s_PlainReading_closes) (defScope s_PlainReading_closes) [] [] (He.ma K (He.ga K "PlainReading") "closes") fd
  mt_PlainReading_closes : Meth K (He.ga K "PlainReading") "closes" (He.ma K (He.ga K "PlainReading") "closes")
  d_PlainReading_parts : ∃ fd, FunD K "parts" "PlainReading.parts" (defArgs s_PlainReading_parts) (defBody s_PlainReading_parts) (defScope s_PlainReading_parts) [] [] (He.ma K (He.ga K "PlainReading") "parts") fd
  mt_PlainReading_parts : Meth K (He.ga K "PlainReading") "parts" (He.ma K (He.ga K "PlainReading") "parts")
  d_PlainReading_takes : ∃ fd, FunD K "takes" "PlainReading.takes" (defArgs s_PlainReading_takes) (defBody s_PlainReading_takes) (defScope s_PlainReading_takes) [] [] (He.ma K (He.ga K "PlainReading") "takes") fd
  mt_PlainReading_takes : Meth K (He.ga K "PlainReading") "takes" (He.ma K (He.ga K "PlainReading") "takes")
  d_PlainReading_is_whole : ∃ fd, FunD K "is_whole" "PlainReading.is_whole" (defArgs s_PlainReading_is_whole) (defBody s_PlainReading_is_whole) (defScope s_PlainReading_is_whole) [] [] (He.ma K (He.ga K "PlainReading") "is_whole") fd
  mt_PlainReading_is_whole : Meth K (He.ga K "PlainReading") "is_whole" (He.ma K (He.ga K "PlainReading") "is_whole")
  d_plain_of : ∃ fd, FunD K "plain_of" "plain_of" (defArgs s_plain_of) (defBody s_plain_of) (defScope s_plain_of) [] [] (He.ga K "plain_of") fd
  m_plain_of : mg "plain_of" = some (.ref (He.ga K "plain_of"))
  d__law_heap : ∃ fd, FunD K "_law_heap" "_law_heap" (defArgs s__law_heap) (defBody s__law_heap) (defScope s__law_heap) [] [] (He.ga K "_law_heap") fd
  m__law_heap : mg "_law_heap" = some (.ref (He.ga K "_law_heap"))
  d__law_draw : ∃ fd, FunD K "_law_draw" "_law_draw" (defArgs s__law_draw) (defBody s__law_draw) (defScope s__law_draw) [] [] (He.ga K "_law_draw") fd
  m__law_draw : mg "_law_draw" = some (.ref (He.ga K "_law_draw"))
  d__law_pick : ∃ fd, FunD K "_law_pick" "_law_pick" (defArgs s__law_pick) (defBody s__law_pick) (defScope s__law_pick) [] [] (He.ga K "_law_pick") fd
  m__law_pick : mg "_law_pick" = some (.ref (He.ga K "_law_pick"))
  d__law_like : ∃ fd, FunD K "_law_like" "_law_like" (defArgs s__law_like) (defBody s__law_like) (defScope s__law_like) [] [] (He.ga K "_law_like") fd
  m__law_like : mg "_law_like" = some (.ref (He.ga K "_law_like"))
  d__law_value : ∃ fd, FunD K "_law_value" "_law_value" (defArgs s__law_value) (defBody s__law_value) (defScope s__law_value) [] [] (He.ga K "_law_value") fd
  m__law_value : mg "_law_value" = some (.ref (He.ga K "_law_value"))
  d__law_nested : ∃ fd, FunD K "_law_nested" "_law_nested" (defArgs s__law_nested) (defBody s__law_nested) (defScope s__law_nested) [] [] (He.ga K "_law_nested") fd
  m__law_nested : mg "_law_nested" = some (.ref (He.ga K "_law_nested"))
  d__law_written : ∃ fd, FunD K "_law_written" "_law_written" (defArgs s__law_written) (defBody s__law_written) (defScope s__law_written) [] [] (He.ga K "_law_written") fd
  m__law_written : mg "_law_written" = some (.ref (He.ga K "_law_written"))
  d__law_read : ∃ fd, FunD K "_law_read" "_law_read" (defArgs s__law_read) (defBody s__law_read) (defScope s__law_read) [] [] (He.ga K "_law_read") fd
  m__law_read : mg "_law_read" = some (.ref (He.ga K "_law_read"))
  d__law_may : ∃ fd, FunD K "_law_may" "_law_may" (defArgs s__law_may) (defBody s__law_may) (defScope s__law_may) [] [] (He.ga K "_law_may") fd
  m__law_may : mg "_law_may" = some (.ref (He.ga K "_law_may"))
  d_law : ∃ fd, FunD K "law" "law" (defArgs s_law) (defBody s_law) (defScope s_law) [] [] (He.ga K "law") fd
  m_law : mg "law" = some (.ref (He.ga K "law"))
  m_PlainReading : mg "PlainReading" = some (.ref (He.ga K "PlainReading"))
  m_StrokesError : mg "StrokesError" = some (.ref (He.ga K "StrokesError"))
  m_InvalidText : mg "InvalidText" = some (.ref (He.ga K "InvalidText"))
  cl_PlainReading : Cls K (He.ga K "PlainReading")
  mk_PlainReading : Mk K (He.ga K "PlainReading") (He.ma K (He.ga K "PlainReading") "__init__")
  b_abs : mg "abs" = none
  b_all : mg "all" = none
  b_any : mg "any" = none
  b_bool : mg "bool" = none
  b_enumerate : mg "enumerate" = none
  b_int : mg "int" = none
  b_isinstance : mg "isinstance" = none
  b_len : mg "len" = none
  b_list : mg "list" = none
  b_range : mg "range" = none
  b_str : mg "str" = none
  b_super : mg "super" = none
  b_tuple : mg "tuple" = none
  b_zip : mg "zip" = none
  c_MOST_NESTED : ∃ t, mg "MOST_NESTED" = some (.int 16 t)
  c_MOST_DIGITS : ∃ t, mg "MOST_DIGITS" = some (.int 12 t)
  c_DIGITS : ∃ t, mg "DIGITS" = some (.str "0123456789" t)
  c_NONE_WORD : ∃ t, mg "NONE_WORD" = some (.str "none" t)
  kit : Kit K (ad K).cs
  na_begun : NoAtt K (ad K).cs "begun"
  na_due : NoAtt K (ad K).cs "due"
  na_made : NoAtt K (ad K).cs "made"
  na_rows : NoAtt K (ad K).cs "rows"
  na_run : NoAtt K (ad K).cs "run"
  e_InvalidText : ErrC K P (He.ga K "InvalidText")
  xa : ∀ C ∈ (ad K).es, XfC K C ∧ PySem.W.findIn K (.ref C) "at" = some none
  mt_StrokesError : ∀ C b, (ad K).mt_StrokesError C = some b → PySem.W.exmOne K (.ref C) (.ref (ad K).StrokesError) = some b
  is_StrokesError : ∀ C b, (ad K).is_StrokesError C = some b → ExcC K C ∧ PySem.W.kitOne K (.ref C) (.ref (ad K).StrokesError) = some b
  mt_InvalidText : ∀ C b, (ad K).mt_InvalidText C = some b → PySem.W.exmOne K (.ref C) (.ref (ad K).InvalidText) = some b
  is_InvalidText : ∀ C b, (ad K).is_InvalidText C = some b → ExcC K C ∧ PySem.W.kitOne K (.ref C) (.ref (ad K).InvalidText) = some b
def dd0 : He.DefD := ⟨("", none), "", "", { posonlyargs := [], args := [], vararg := none, kwonlyargs := [], kw_defaults := [], kwarg := none, defaults := [] }, [], { kind := .function, names := [], isGenerator := false, isCoroutine := false, more := [] }, [], []⟩
def fa_k67 : List He.Fa := [.glo "is_integer", .glo "is_plain", .glo "plain_text", .meth "PlainReading" "put", .meth "PlainReading" "ends_run", .meth "PlainReading" "goes_on", .meth "PlainReading" "begins", .meth "PlainReading" "closes", .meth "PlainReading" "parts", .meth "PlainReading" "takes", .meth "PlainReading" "is_whole", .glo "plain_of", .glo "_law_heap", .glo "_law_draw", .glo "_law_pick", .glo "_law_like", .glo "_law_value", .glo "_law_nested", .glo "_law_written", .glo "_law_read", .glo "_law_may", .glo "law", .glo "PlainReading", .glo "StrokesError", .glo "InvalidText", .cls "PlainReading", .mkr "PlainReading", .free "abs", .free "all", .free "any", .free "bool", .free "enumerate", .free "int", .free "isinstance", .free "len", .free "list", .free "range", .free "str", .free "super", .free "tuple", .free "zip", .int "MOST_NESTED" 16, .int "MOST_DIGITS" 12, .str "DIGITS" "0123456789", .str "NONE_WORD" "none", .noat "InvalidText" "at", .exm "InvalidText" "StrokesError" true, .exm "InvalidText" "InvalidText" true]
def fn_k67 : List He.DefD := [⟨("is_integer", none), "is_integer", "is_integer", defArgs s_is_integer, defBody s_is_integer, defScope s_is_integer, [], []⟩,
  ⟨("is_plain", none), "is_plain", "is_plain", defArgs s_is_plain, defBody s_is_plain, defScope s_is_plain, [.int 0], []⟩,
  ⟨("plain_text", none), "plain_text", "plain_text", defArgs s_plain_text, defBody s_plain_text, defScope s_plain_text, [], []⟩,
  ⟨("PlainReading", some "__init__"), "__init__", "PlainReading.__init__", defArgs s_PlainReading_mk, defBody s_PlainReading_mk, defScope s_PlainReading_mk, [], []⟩,
  ⟨("PlainReading", some "put"), "put", "PlainReading.put", defArgs s_PlainReading_put, defBody s_PlainReading_put, defScope s_PlainReading_put, [], []⟩,
  ⟨("PlainReading", some "ends_run"), "ends_run", "PlainReading.ends_run", defArgs s_PlainReading_ends_run, defBody s_PlainReading_ends_run, defScope s_PlainReading_ends_run, [], []⟩,
  ⟨("PlainReading", some "goes_on"), "goes_on", "PlainReading.goes_on", defArgs s_PlainReading_goes_on, defBody s_PlainReading_goes_on, defScope s_PlainReading_goes_on, [], []⟩,
  ⟨("PlainReading", some "begins"), "begins", "PlainReading.begins", defArgs s_PlainReading_begins, defBody s_PlainReading_begins, defScope s_PlainReading_begins, [], []⟩,
  ⟨("PlainReading", some "closes"), "closes", "PlainReading.closes", defArgs s_PlainReading_closes, defBody s_PlainReading_closes, defScope s_PlainReading_closes, [], []⟩,
  ⟨("PlainReading", some "parts"), "parts", "PlainReading.parts", defArgs s_PlainReading_parts, defBody s_PlainReading_parts, defScope s_PlainReading_parts, [], []⟩,
  ⟨("PlainReading", some "takes"), "takes", "PlainReading.takes", defArgs s_PlainReading_takes, defBody s_PlainReading_takes, defScope s_PlainReading_takes, [], []⟩,
  ⟨("PlainReading", some "is_whole"), "is_whole", "PlainReading.is_whole", defArgs s_PlainReading_is_whole, defBody s_PlainReading_is_whole, defScope s_PlainReading_is_whole, [], []⟩,
  ⟨("plain_of", none), "plain_of", "plain_of", defArgs s_plain_of, defBody s_plain_of, defScope s_plain_of, [], []⟩,
  ⟨("_law_heap", none), "_law_heap", "_law_heap", defArgs s__law_heap, defBody s__law_heap, defScope s__law_heap, [], []⟩,
  ⟨("_law_draw", none), "_law_draw", "_law_draw", defArgs s__law_draw, defBody s__law_draw, defScope s__law_draw, [], []⟩,
  ⟨("_law_pick", none), "_law_pick", "_law_pick", defArgs s__law_pick, defBody s__law_pick, defScope s__law_pick, [], []⟩,
  ⟨("_law_like", none), "_law_like", "_law_like", defArgs s__law_like, defBody s__law_like, defScope s__law_like, [], []⟩,
  ⟨("_law_value", none), "_law_value", "_law_value", defArgs s__law_value, defBody s__law_value, defScope s__law_value, [], []⟩,
  ⟨("_law_nested", none), "_law_nested", "_law_nested", defArgs s__law_nested, defBody s__law_nested, defScope s__law_nested, [], []⟩,
  ⟨("_law_written", none), "_law_written", "_law_written", defArgs s__law_written, defBody s__law_written, defScope s__law_written, [], []⟩,
  ⟨("_law_read", none), "_law_read", "_law_read", defArgs s__law_read, defBody s__law_read, defScope s__law_read, [], []⟩,
  ⟨("_law_may", none), "_law_may", "_law_may", defArgs s__law_may, defBody s__law_may, defScope s__law_may, [], []⟩,
  ⟨("law", none), "law", "law", defArgs s_law, defBody s_law, defScope s_law, [], []⟩]
def ex_k67 (P : Program) (K : PySem.W.Frag) : List Bool := [kitB K ["PlainReading"], noAttB K ["PlainReading"] "begun", noAttB K ["PlainReading"] "due", noAttB K ["PlainReading"] "made", noAttB K ["PlainReading"] "rows", noAttB K ["PlainReading"] "run", errB K P "InvalidText", He_xfB K "InvalidText", kitOneB K "InvalidText" "StrokesError" true, excCB K "InvalidText", kitOneB K "InvalidText" "InvalidText" true]
def hE_InvalidText (K : PySem.W.Frag) : Prop := He.fnW K ("InvalidText", some "__init__") = some ((("__init__" : Str), ("InvalidText.__init__" : Str), eiArgs ⟨6, 17, 6, 21⟩ ⟨6, 23, 6, 25⟩, FuncBody.stmts (eiBody ⟨7, 8, 7, 13⟩ ⟨7, 8, 7, 15⟩ ⟨7, 8, 7, 24⟩ ⟨7, 25, 7, 27⟩ ⟨7, 8, 7, 28⟩ ⟨7, 8, 7, 28⟩ ⟨8, 8, 8, 12⟩ ⟨8, 8, 8, 15⟩ ⟨8, 18, 8, 20⟩ ⟨8, 8, 8, 20⟩), eiScope, mainGlobals, [(("__class__" : Str), cel K "InvalidText")], builtinsNs) : Str × Str × Arguments × FuncBody × Scope × Addr × List (Str × Addr) × Addr)
theorem tx_of {P : Program} {w : World} {K : PySem.W.Frag} {mg : Str → Option Value} {base h : Heap} (X : K.In h) (G : h.Ns mainGlobals mg) (c : He.SaysD fa_k67 fn_k67 K) (e : (ex_k67 P K).all id = true) (h_InvalidText : hE_InvalidText K) : Tx P w K mg base where
  d_is_integer := c.def_ 0 (d := fn_k67.getD 0 dd0) rfl
  m_is_integer := He.glo_ok X G (c.fact 0 (f := .glo "is_integer") rfl)
  d_is_plain := c.def_ 1 (d := fn_k67.getD 1 dd0) rfl
  m_is_plain := He.glo_ok X G (c.fact 1 (f := .glo "is_plain") rfl)
  d_plain_text := c.def_ 2 (d := fn_k67.getD 2 dd0) rfl
  m_plain_text := He.glo_ok X G (c.fact 2 (f := .glo "plain_text") rfl)
  d_PlainReading_mk := c.def_ 3 (d := fn_k67.getD 3 dd0) rfl
  d_PlainReading_put := c.def_ 4 (d := fn_k67.getD 4 dd0) rfl
  mt_PlainReading_put := He.meth_ok (c.fact 3 (f := .meth "PlainReading" "put") rfl)
  d_PlainReading_ends_run := c.def_ 5 (d := fn_k67.getD 5 dd0) rfl
  mt_PlainReading_ends_run := He.meth_ok (c.fact 4 (f := .meth "PlainReading" "ends_run") rfl)
  d_PlainReading_goes_on := c.def_ 6 (d := fn_k67.getD 6 dd0) rfl
  mt_PlainReading_goes_on := He.meth_ok (c.fact 5 (f := .meth "PlainReading" "goes_on") rfl)
  d_PlainReading_begins := c.def_ 7 (d := fn_k67.getD 7 dd0) rfl
  mt_PlainReading_begins := He.meth_ok (c.fact 6 (f := .meth "PlainReading" "begins") rfl)
  d_PlainReading_closes := c.def_ 8 (d := fn_k67.getD 8 dd0) rfl
  mt_PlainReading_closes := He.meth_ok (c.fact 7 (f := .meth "PlainReading" "closes") rfl)
  d_PlainReading_parts := c.def_ 9 (d := fn_k67.getD 9 dd0) rfl
  mt_PlainReading_parts := He.meth_ok (c.fact 8 (f := .meth "PlainReading" "parts") rfl)
  d_PlainReading_takes := c.def_ 10 (d := fn_k67.getD 10 dd0) rfl
  mt_PlainReading_takes := He.meth_ok (c.fact 9 (f := .meth "PlainReading" "takes") rfl)
  d_PlainReading_is_whole := c.def_ 11 (d := fn_k67.getD 11 dd0) rfl
  mt_PlainReading_is_whole := He.meth_ok (c.fact 10 (f := .meth "PlainReading" "is_whole") rfl)
  d_plain_of := c.def_ 12 (d := fn_k67.getD 12 dd0) rfl
  m_plain_of := He.glo_ok X G (c.fact 11 (f := .glo "plain_of") rfl)
  d__law_heap := c.def_ 13 (d := fn_k67.getD 13 dd0) rfl
  m__law_heap := He.glo_ok X G (c.fact 12 (f := .glo "_law_heap") rfl)
  d__law_draw := c.def_ 14 (d := fn_k67.getD 14 dd0) rfl
  m__law_draw := He.glo_ok X G (c.fact 13 (f := .glo "_law_draw") rfl)
  d__law_pick := c.def_ 15 (d := fn_k67.getD 15 dd0) rfl
  m__law_pick := He.glo_ok X G (c.fact 14 (f := .glo "_law_pick") rfl)
  d__law_like := c.def_ 16 (d := fn_k67.getD 16 dd0) rfl
  m__law_like := He.glo_ok X G (c.fact 15 (f := .glo "_law_like") rfl)
  d__law_value := c.def_ 17 (d := fn_k67.getD 17 dd0) rfl
  m__law_value := He.glo_ok X G (c.fact 16 (f := .glo "_law_value") rfl)
  d__law_nested := c.def_ 18 (d := fn_k67.getD 18 dd0) rfl
  m__law_nested := He.glo_ok X G (c.fact 17 (f := .glo "_law_nested") rfl)
  d__law_written := c.def_ 19 (d := fn_k67.getD 19 dd0) rfl
  m__law_written := He.glo_ok X G (c.fact 18 (f := .glo "_law_written") rfl)
  d__law_read := c.def_ 20 (d := fn_k67.getD 20 dd0) rfl
  m__law_read := He.glo_ok X G (c.fact 19 (f := .glo "_law_read") rfl)
  d__law_may := c.def_ 21 (d := fn_k67.getD 21 dd0) rfl
  m__law_may := He.glo_ok X G (c.fact 20 (f := .glo "_law_may") rfl)
  d_law := c.def_ 22 (d := fn_k67.getD 22 dd0) rfl
  m_law := He.glo_ok X G (c.fact 21 (f := .glo "law") rfl)
  m_PlainReading := He.glo_ok X G (c.fact 22 (f := .glo "PlainReading") rfl)
  m_StrokesError := He.glo_ok X G (c.fact 23 (f := .glo "StrokesError") rfl)
  m_InvalidText := He.glo_ok X G (c.fact 24 (f := .glo "InvalidText") rfl)
  cl_PlainReading := He.cls_ok (c.fact 25 (f := .cls "PlainReading") rfl)
  mk_PlainReading := He.mkr_ok (c.fact 26 (f := .mkr "PlainReading") rfl)
  b_abs := He.free_ok X G (c.fact 27 (f := .free "abs") rfl)
  b_all := He.free_ok X G (c.fact 28 (f := .free "all") rfl)
  b_any := He.free_ok X G (c.fact 29 (f := .free "any") rfl)
  b_bool := He.free_ok X G (c.fact 30 (f := .free "bool") rfl)
  b_enumerate := He.free_ok X G (c.fact 31 (f := .free "enumerate") rfl)
  b_int := He.free_ok X G (c.fact 32 (f := .free "int") rfl)
  b_isinstance := He.free_ok X G (c.fact 33 (f := .free "isinstance") rfl)
  b_len := He.free_ok X G (c.fact 34 (f := .free "len") rfl)
  b_list := He.free_ok X G (c.fact 35 (f := .free "list") rfl)
  b_range := He.free_ok X G (c.fact 36 (f := .free "range") rfl)
  b_str := He.free_ok X G (c.fact 37 (f := .free "str") rfl)
  b_super := He.free_ok X G (c.fact 38 (f := .free "super") rfl)
  b_tuple := He.free_ok X G (c.fact 39 (f := .free "tuple") rfl)
  b_zip := He.free_ok X G (c.fact 40 (f := .free "zip") rfl)
  c_MOST_NESTED := He.int_ok X G (c.fact 41 (f := .int "MOST_NESTED" 16) rfl)
  c_MOST_DIGITS := He.int_ok X G (c.fact 42 (f := .int "MOST_DIGITS" 12) rfl)
  c_DIGITS := He.str_ok X G (c.fact 43 (f := .str "DIGITS" "0123456789") rfl)
  c_NONE_WORD := He.str_ok X G (c.fact 44 (f := .str "NONE_WORD" "none") rfl)
  kit := kitB_ok (exB e 0 (x := kitB K ["PlainReading"]) rfl)
  na_begun := noAttB_ok (exB e 1 (x := noAttB K ["PlainReading"] "begun") rfl)
  na_due := noAttB_ok (exB e 2 (x := noAttB K ["PlainReading"] "due") rfl)
  na_made := noAttB_ok (exB e 3 (x := noAttB K ["PlainReading"] "made") rfl)
  na_rows := noAttB_ok (exB e 4 (x := noAttB K ["PlainReading"] "rows") rfl)
  na_run := noAttB_ok (exB e 5 (x := noAttB K ["PlainReading"] "run") rfl)
  e_InvalidText := errB_ok (exB e 6 (x := errB K P "InvalidText") rfl) (fun env => ⟨_, rfl⟩) ⟨_, h_InvalidText⟩
  xa := fun C hC => by
    simp only [List.mem_cons, List.not_mem_nil, or_false] at hC
    · subst hC; exact ⟨xfB_ok (exB e 7 (x := He_xfB K "InvalidText") rfl), He.noat_ok (c.fact 45 (f := .noat "InvalidText" "at") rfl)⟩
  mt_StrokesError := fun C b h => by
    unfold Ad.mt_StrokesError at h
    by_cases h_InvalidText : C = (ad K).InvalidText
    · rw [if_pos h_InvalidText] at h; cases h; subst h_InvalidText; exact He.exm_ok (c.fact 46 (f := .exm "InvalidText" "StrokesError" true) rfl)
    rw [if_neg h_InvalidText] at h
    cases h
  is_StrokesError := fun C b h => by
    unfold Ad.is_StrokesError at h
    by_cases h_InvalidText : C = (ad K).InvalidText
    · rw [if_pos h_InvalidText] at h; cases h; subst h_InvalidText; exact ⟨excCB_ok (exB e 9 (x := excCB K "InvalidText") rfl), kitOneB_ok (exB e 8 (x := kitOneB K "InvalidText" "StrokesError" true) rfl)⟩
    rw [if_neg h_InvalidText] at h
    cases h
  mt_InvalidText := fun C b h => by
    unfold Ad.mt_InvalidText at h
    by_cases h_InvalidText : C = (ad K).InvalidText
    · rw [if_pos h_InvalidText] at h; cases h; subst h_InvalidText; exact He.exm_ok (c.fact 47 (f := .exm "InvalidText" "InvalidText" true) rfl)
    rw [if_neg h_InvalidText] at h
    cases h
  is_InvalidText := fun C b h => by
    unfold Ad.is_InvalidText at h
    by_cases h_InvalidText : C = (ad K).InvalidText
    · rw [if_pos h_InvalidText] at h; cases h; subst h_InvalidText; exact ⟨excCB_ok (exB e 9 (x := excCB K "InvalidText") rfl), kitOneB_ok (exB e 10 (x := kitOneB K "InvalidText" "InvalidText" true) rfl)⟩
    rw [if_neg h_InvalidText] at h
    cases h
theorem sc_is_integer : FnScope ["value"] ["value"] (defScope s_is_integer) := ⟨rfl, rfl, rfl, by decide +kernel, rfl, by decide +kernel, by decide +kernel⟩
theorem fn_is_integer {P : Program} {w : World} {K : PySem.W.Frag} {mg : Str → Option Value} {base : Heap} (T : Tx P w K mg base) {fd : FuncData} (fdd : FunD K "is_integer" "is_integer" (defArgs s_is_integer) (defBody s_is_integer) (defScope s_is_integer) [] [] (He.ga K "is_integer") fd) : FnOk P w K mg base (L2.CX P w) 1 (He.ga K "is_integer") fd ["value"] (spI K 1 (F_is_integer (ad K))) :=
  zfn (k := 0) (den := den_is_integer (ad K)) fdd sc_is_integer rfl (fun cdv A outer s H E G => (zb_one (zs_ret (ze_and (ze_isi T.kit T.b_isinstance (za_cons (ze_var 0) (za_cons (ze_ty T.b_int) za_nil))) (ze_one (ze_not (ze_isi T.kit T.b_isinstance (za_cons (ze_var 0) (za_cons (ze_ty T.b_bool) za_nil))))))))) (fun ds S _ _ _ => Ref.same rfl)
theorem ok_is_integer {P : Program} {w : World} {K : PySem.W.Frag} {mg : Str → Option Value} {base : Heap} (T : Tx P w K mg base) : Df P w K mg base "is_integer" 1 1 (F_is_integer (ad K)) dl_is_integer := by
  obtain ⟨fd, fdd⟩ := T.d_is_integer
  exact ⟨_, fd, _, fn_is_integer T fdd, T.m_is_integer, fdd.kp, (binds_none fdd fun _ _ _ _ _ _ us hl => match us, hl with | [_], _ => rfl)⟩
theorem sc_is_plain : FnScope ["value", "deep", "one"] ["value", "deep"] (defScope s_is_plain) := ⟨rfl, rfl, rfl, by decide +kernel, rfl, by decide +kernel, by decide +kernel⟩
theorem bd_is_plain {K : PySem.W.Frag} {f : Addr} {fd : FuncData} (F : FunD K "is_plain" "is_plain" (defArgs s_is_plain) (defBody s_is_plain) (defScope s_is_plain) [V.int 0] [] f fd) : ∀ j, j ≤ dl_is_plain.length → ∃ ds dvs, Binds K fd ["value", "deep"] ds ∧ Vals dvs ds ∧ ∀ m B H, RDs K m B H (dl_is_plain.drop j) dvs
  | 0, _ => by
    obtain ⟨ds, h1, h2⟩ := FunD.binds1 (ps := ["value", "deep"]) F 1 0 (by decide) rfl fun _ _ _ _ _ _ _ us its hu hi => match us, its, hu, hi with | [_], [_], _, _ => ⟨_, rfl, rfl⟩
    exact ⟨ds, _, h2, h1, fun _ _ _ => (RDs.cons (RDi _) RDs.nil)⟩
  | 1, _ => by
    obtain ⟨ds, h1, h2⟩ := FunD.binds1 (ps := ["value", "deep"]) F 2 1 (by decide) rfl fun _ _ _ _ _ _ _ us its hu hi => match us, its, hu, hi with | [_, _], [_], _, _ => ⟨_, rfl, rfl⟩
    exact ⟨ds, _, h2, h1, fun _ _ _ => RDs.nil⟩
  | j + 2, h => absurd h (by show ¬ j + 2 ≤ 1; omega)
theorem ok_is_plain {P : Program} {w : World} {K : PySem.W.Frag} {mg : Str → Option Value} {base : Heap} (T : Tx P w K mg base) : ∀ n, Df P w K mg base "is_plain" (n + 2) 2 (F_is_plain (ad K) n) dl_is_plain
  | 0 => by
    obtain ⟨fd, fdd⟩ := T.d_is_plain
    exact ⟨_, fd, _, zfn (den := fun _ _ => .bad) fdd sc_is_plain rfl (fun cdv A outer s H E G => zb_bad) (fun ds S _ _ _ => Ref.same rfl), T.m_is_plain, fdd.kp, bd_is_plain fdd⟩
  | n + 1 => by
    obtain ⟨fd, fdd⟩ := T.d_is_plain
    have IH := ok_is_plain T n
    let c := ad K
    exact ⟨_, fd, _, zfn (k := n + 2) (den := den_is_plain (ad K) (F_is_plain (ad K) n)) fdd sc_is_plain rfl (fun cdv A outer s H E G => (zb_cons (zs_if (zt_isN (ze_var 0)) (zb_one (zs_ret ze_bl)) zb_nil)
  (zb_cons (zs_if (zt_val (ze_isi T.kit T.b_isinstance (za_cons (ze_var 0) (za_cons (ze_ty T.b_tuple) za_nil)))) (zb_one (zs_ret (ze_and (ze_lt (ze_var 1) (ze_glob (v := V.int 16) (T.c_MOST_NESTED).choose_spec ⟨_, rfl⟩ fun _ _ _ => RDi _)) (ze_one (ze_all rfl T.b_all (za_cons (ze_lv (zl_lc (own := [("one", 2)]) rfl sc_is_plain.nd (zi_seq (ze_var 0)) (blkOk_by (own := [("one", 2)]) (by kernel_rfl)) (by decide) (fun _ _ _ _ _ => (zg_nm sc_is_plain.nd)) (fun _ _ _ _ _ => zts_nil) (fun _ _ _ _ _ => (zd_call IH 1 (G.room.mono (Nat.le_refl _)) (za_cons (ze_var 2) (za_cons (ze_plus (ze_var 1) ze_int) za_nil)))))) za_nil)))))) zb_nil)
  (zb_one (zs_ret (ze_and (zd_call (ok_is_integer T) 0 (G.room.mono (by omega)) (za_cons (ze_var 0) za_nil)) (ze_one (ze_lt (ze_abs T.b_abs (za_cons (ze_var 0) za_nil)) (ze_pow ze_int ze_int))))))))) (fun ds S _ _ _ => Ref.same rfl), T.m_is_plain, fdd.kp, bd_is_plain fdd⟩
theorem sc_plain_text : FnScope ["value", "one"] ["value"] (defScope s_plain_text) := ⟨rfl, rfl, rfl, by decide +kernel, rfl, by decide +kernel, by decide +kernel⟩
theorem ok_plain_text {P : Program} {w : World} {K : PySem.W.Frag} {mg : Str → Option Value} {base : Heap} (T : Tx P w K mg base) : ∀ n, Df P w K mg base "plain_text" (n + 1) 1 (F_plain_text (ad K) n) dl_plain_text
  | 0 => by
    obtain ⟨fd, fdd⟩ := T.d_plain_text
    exact ⟨_, fd, _, zfn (den := fun _ _ => .bad) fdd sc_plain_text rfl (fun cdv A outer s H E G => zb_bad) (fun ds S _ _ _ => Ref.same rfl), T.m_plain_text, fdd.kp, (binds_none fdd fun _ _ _ _ _ _ us hl => match us, hl with | [_], _ => rfl)⟩
  | n + 1 => by
    obtain ⟨fd, fdd⟩ := T.d_plain_text
    have IH := ok_plain_text T n
    let c := ad K
    exact ⟨_, fd, _, zfn (k := n + 1) (den := den_plain_text (ad K) (F_plain_text (ad K) n)) fdd sc_plain_text rfl (fun cdv A outer s H E G => (zb_cons (zs_if (zt_isN (ze_var 0)) (zb_one (zs_ret (ze_glob (v := V.str "none") (T.c_NONE_WORD).choose_spec ⟨_, rfl⟩ fun _ _ _ => RDst _))) zb_nil)
  (zb_cons (zs_if (zt_val (ze_isi T.kit T.b_isinstance (za_cons (ze_var 0) (za_cons (ze_ty T.b_tuple) za_nil)))) (zb_one (zs_ret (ze_plus (ze_plus ze_str (ze_join ze_str (ze_lv (zl_lc (own := [("one", 1)]) rfl sc_plain_text.nd (zi_seq (ze_var 0)) (blkOk_by (own := [("one", 1)]) (by kernel_rfl)) (by decide) (fun _ _ _ _ _ => (zg_nm sc_plain_text.nd)) (fun _ _ _ _ _ => zts_nil) (fun _ _ _ _ _ => (zd_call IH 0 (G.room.mono (Nat.le_refl _)) (za_cons (ze_var 1) za_nil))))))) ze_str))) zb_nil)
  (zb_one (zs_ret (ze_strI T.b_str (za_cons (ze_var 0) za_nil))))))) (fun ds S _ _ _ => Ref.same rfl), T.m_plain_text, fdd.kp, (binds_none fdd fun _ _ _ _ _ _ us hl => match us, hl with | [_], _ => rfl)⟩
theorem sc_PlainReading_mk : FnScope ["self"] ["self"] (defScope s_PlainReading_mk) := ⟨rfl, rfl, rfl, by decide +kernel, rfl, by decide +kernel, by decide +kernel⟩
theorem fn_PlainReading_mk {P : Program} {w : World} {K : PySem.W.Frag} {mg : Str → Option Value} {base : Heap} (T : Tx P w K mg base) {fd : FuncData} (fdd : FunD K "__init__" "PlainReading.__init__" (defArgs s_PlainReading_mk) (defBody s_PlainReading_mk) (defScope s_PlainReading_mk) [] [] (He.ma K (He.ga K "PlainReading") "__init__") fd) : FnOk P w K mg base (L2.CX P w) 1 (He.ma K (He.ga K "PlainReading") "__init__") fd ["self"] (spI K 1 (F_PlainReading_mk (ad K))) :=
  zfn (k := 0) (den := den_PlainReading_mk (ad K)) fdd sc_PlainReading_mk rfl (fun cdv A outer s H E G => (zb_cons (zs_attr T.na_rows (ze_var 0) (ze_ln (zl_lst za_nil lenA_nil)))
  (zb_cons (zs_attr T.na_run (ze_var 0) ze_str)
  (zb_cons (zs_attr T.na_due (ze_var 0) ze_bl)
  (zb_cons (zs_attr T.na_begun (ze_var 0) ze_bl)
  (zb_one (zs_attr T.na_made (ze_var 0) (ze_ln (zl_lst za_nil lenA_nil))))))))) (fun ds S _ _ _ => Ref.same rfl)
theorem ok_PlainReading_mk {P : Program} {w : World} {K : PySem.W.Frag} {mg : Str → Option Value} {base : Heap} (T : Tx P w K mg base) : Dk P w K mg base "PlainReading" (ad K).PlainReading 1 1 (F_PlainReading_mk (ad K)) dl_PlainReading_mk := by
  obtain ⟨fd, fdd⟩ := T.d_PlainReading_mk
  exact ⟨⟨_, T.mk_PlainReading, fd, _, fn_PlainReading_mk T fdd, (binds_none fdd fun _ _ _ _ _ _ us hl => match us, hl with | [_], _ => rfl)⟩, T.m_PlainReading⟩
theorem sc_PlainReading_put : FnScope ["self", "value"] ["self", "value"] (defScope s_PlainReading_put) := ⟨rfl, rfl, rfl, by decide +kernel, rfl, by decide +kernel, by decide +kernel⟩
theorem fn_PlainReading_put {P : Program} {w : World} {K : PySem.W.Frag} {mg : Str → Option Value} {base : Heap} (T : Tx P w K mg base) {fd : FuncData} (fdd : FunD K "put" "PlainReading.put" (defArgs s_PlainReading_put) (defBody s_PlainReading_put) (defScope s_PlainReading_put) [] [] (He.ma K (He.ga K "PlainReading") "put") fd) : FnOk P w K mg base (L2.CX P w) 1 (He.ma K (He.ga K "PlainReading") "put") fd ["self", "value"] (spI K 2 (F_PlainReading_put (ad K))) :=
  zfn (k := 0) (den := den_PlainReading_put (ad K)) fdd sc_PlainReading_put rfl (fun cdv A outer s H E G => (zb_cons (zs_attr2 rfl T.na_due T.na_begun (ze_var 0) (ze_var 0) (ze_tup (za_cons ze_bl (za_cons ze_bl za_nil)) (lenA_cons (lenA_cons lenA_nil))))
  (zb_one (zs_if (zt_eqE G.room.units (ze_fld T.na_rows (ze_var 0)) (ze_lv (zl_lst za_nil lenA_nil))) (zb_one (zs_drop (ze_app (ze_fld T.na_made (ze_var 0)) (za_cons (ze_var 1) za_nil)))) (zb_one (zs_drop (ze_app (ze_sub_ix (ze_fld T.na_rows (ze_var 0)) (ze_neg ze_int)) (za_cons (ze_var 1) za_nil)))))))) (fun ds S _ _ _ => Ref.same rfl)
theorem ok_PlainReading_put {P : Program} {w : World} {K : PySem.W.Frag} {mg : Str → Option Value} {base : Heap} (T : Tx P w K mg base) : Dm P w K mg base (ad K).PlainReading "put" 1 2 (F_PlainReading_put (ad K)) dl_PlainReading_put := by
  obtain ⟨fd, fdd⟩ := T.d_PlainReading_put
  exact ⟨T.cl_PlainReading, _, fd, _, T.mt_PlainReading_put, fn_PlainReading_put T fdd, (binds_none fdd fun _ _ _ _ _ _ us hl => match us, hl with | [_, _], _ => rfl)⟩
theorem sc_PlainReading_ends_run : FnScope ["self"] ["self"] (defScope s_PlainReading_ends_run) := ⟨rfl, rfl, rfl, by decide +kernel, rfl, by decide +kernel, by decide +kernel⟩
theorem fn_PlainReading_ends_run {P : Program} {w : World} {K : PySem.W.Frag} {mg : Str → Option Value} {base : Heap} (T : Tx P w K mg base) {fd : FuncData} (fdd : FunD K "ends_run" "PlainReading.ends_run" (defArgs s_PlainReading_ends_run) (defBody s_PlainReading_ends_run) (defScope s_PlainReading_ends_run) [] [] (He.ma K (He.ga K "PlainReading") "ends_run") fd) : FnOk P w K mg base (L2.CX P w) 2 (He.ma K (He.ga K "PlainReading") "ends_run") fd ["self"] (spI K 1 (F_PlainReading_ends_run (ad K))) :=
  zfn (k := 1) (den := den_PlainReading_ends_run (ad K)) fdd sc_PlainReading_ends_run rfl (fun cdv A outer s H E G => (zb_cons (zs_if (zt_eq G.room.units (ze_fld T.na_run (ze_var 0)) ze_str) (zb_one (zs_ret ze_bl)) zb_nil)
  (zb_cons (zs_if (zt_w (zw_or (zt_eq G.room.units (ze_fld T.na_run (ze_var 0)) ze_str) (zw_or1 (zt_w (zw_and (zt_inC (ze_sub_ix (ze_fld T.na_run (ze_var 0)) ze_int) (ze_glob (v := V.str "none") (T.c_NONE_WORD).choose_spec ⟨_, rfl⟩ fun _ _ _ => RDst _)) (zw_and1 (zt_ne G.room.units (ze_fld T.na_run (ze_var 0)) (ze_glob (v := V.str "none") (T.c_NONE_WORD).choose_spec ⟨_, rfl⟩ fun _ _ _ => RDst _)))))))) (zb_one (zs_ret ze_bl)) zb_nil)
  (zb_cons (zs_drop (zd_meth (cs := (ad K).cs) (ok_PlainReading_put T) 0 (G.room.mono (by decide)) (ze_var 0) (za_cons (ze_ifx (zt_eq G.room.units (ze_fld T.na_run (ze_var 0)) (ze_glob (v := V.str "none") (T.c_NONE_WORD).choose_spec ⟨_, rfl⟩ fun _ _ _ => RDst _)) ze_non (ze_intT T.b_int (za_cons (ze_fld T.na_run (ze_var 0)) za_nil))) za_nil)))
  (zb_cons (zs_attr T.na_run (ze_var 0) ze_str)
  (zb_one (zs_ret ze_bl))))))) (fun ds S _ _ _ => Ref.same rfl)
theorem ok_PlainReading_ends_run {P : Program} {w : World} {K : PySem.W.Frag} {mg : Str → Option Value} {base : Heap} (T : Tx P w K mg base) : Dm P w K mg base (ad K).PlainReading "ends_run" 2 1 (F_PlainReading_ends_run (ad K)) dl_PlainReading_ends_run := by
  obtain ⟨fd, fdd⟩ := T.d_PlainReading_ends_run
  exact ⟨T.cl_PlainReading, _, fd, _, T.mt_PlainReading_ends_run, fn_PlainReading_ends_run T fdd, (binds_none fdd fun _ _ _ _ _ _ us hl => match us, hl with | [_], _ => rfl)⟩
theorem sc_PlainReading_goes_on : FnScope ["self", "sign"] ["self", "sign"] (defScope s_PlainReading_goes_on) := ⟨rfl, rfl, rfl, by decide +kernel, rfl, by decide +kernel, by decide +kernel⟩
theorem fn_PlainReading_goes_on {P : Program} {w : World} {K : PySem.W.Frag} {mg : Str → Option Value} {base : Heap} (T : Tx P w K mg base) {fd : FuncData} (fdd : FunD K "goes_on" "PlainReading.goes_on" (defArgs s_PlainReading_goes_on) (defBody s_PlainReading_goes_on) (defScope s_PlainReading_goes_on) [] [] (He.ma K (He.ga K "PlainReading") "goes_on") fd) : FnOk P w K mg base (L2.CX P w) 1 (He.ma K (He.ga K "PlainReading") "goes_on") fd ["self", "sign"] (spI K 2 (F_PlainReading_goes_on (ad K))) :=
  zfn (k := 0) (den := den_PlainReading_goes_on (ad K)) fdd sc_PlainReading_goes_on rfl (fun cdv A outer s H E G => (zb_consK (zsk_if (ztk_inC (zek_ix (ze_fld T.na_run (ze_var 0)) zek_int) (ze_glob (v := V.str "none") (T.c_NONE_WORD).choose_spec ⟨_, rfl⟩ fun _ _ _ => RDst _)) (zb_one (zs_ret (ze_eq G.room.units (ze_plus (ze_fld T.na_run (ze_var 0)) (ze_var 1)) (ze_slice (ze_glob (v := V.str "none") (T.c_NONE_WORD).choose_spec ⟨_, rfl⟩ fun _ _ _ => RDst _) zo_none (zo_some (ze_plus (ze_len T.b_len (za_cons (ze_fld T.na_run (ze_var 0)) za_nil)) ze_int)))))) zb_nil)
  (zbt_cons (zst_if (ztt_w (zwt_or (zt_notinC (ze_var 1) (ze_glob (v := V.str "0123456789") (T.c_DIGITS).choose_spec ⟨_, rfl⟩ fun _ _ _ => RDst _)) (zwt_orT (ztt_eq G.room.units (zet_len T.b_len (zet_repl (ze_fld T.na_run (ze_var 0)))) (ze_glob (v := V.int 12) (T.c_MOST_DIGITS).choose_spec ⟨_, rfl⟩ fun _ _ _ => RDi _)) (zw_or1 (zt_eq G.room.units (ze_fld T.na_run (ze_var 0)) ze_str))))) (zb_one (zs_ret ze_bl)) zb_nil)
  (zb_one (zs_ret (ze_or (ze_ne G.room.units (ze_fld T.na_run (ze_var 0)) ze_str) (ze_one (ze_ne G.room.units (ze_var 1) ze_str)))))))) (fun ds S _ _ _ => Ref.same rfl)
theorem ok_PlainReading_goes_on {P : Program} {w : World} {K : PySem.W.Frag} {mg : Str → Option Value} {base : Heap} (T : Tx P w K mg base) : Dm P w K mg base (ad K).PlainReading "goes_on" 1 2 (F_PlainReading_goes_on (ad K)) dl_PlainReading_goes_on := by
  obtain ⟨fd, fdd⟩ := T.d_PlainReading_goes_on
  exact ⟨T.cl_PlainReading, _, fd, _, T.mt_PlainReading_goes_on, fn_PlainReading_goes_on T fdd, (binds_none fdd fun _ _ _ _ _ _ us hl => match us, hl with | [_, _], _ => rfl)⟩
theorem sc_PlainReading_begins : FnScope ["self", "sign"] ["self", "sign"] (defScope s_PlainReading_begins) := ⟨rfl, rfl, rfl, by decide +kernel, rfl, by decide +kernel, by decide +kernel⟩
theorem fn_PlainReading_begins {P : Program} {w : World} {K : PySem.W.Frag} {mg : Str → Option Value} {base : Heap} (T : Tx P w K mg base) {fd : FuncData} (fdd : FunD K "begins" "PlainReading.begins" (defArgs s_PlainReading_begins) (defBody s_PlainReading_begins) (defScope s_PlainReading_begins) [] [] (He.ma K (He.ga K "PlainReading") "begins") fd) : FnOk P w K mg base (L2.CX P w) 1 (He.ma K (He.ga K "PlainReading") "begins") fd ["self", "sign"] (spI K 2 (F_PlainReading_begins (ad K))) :=
  zfn (k := 0) (den := den_PlainReading_begins (ad K)) fdd sc_PlainReading_begins rfl (fun cdv A outer s H E G => (zb_cons (zs_if (zt_not (zt_val (ze_fld T.na_due (ze_var 0)))) (zb_one (zs_ret ze_bl)) zb_nil)
  (zb_cons (zs_if (zt_eq G.room.units (ze_var 1) ze_str) (zb_cons (zs_if (zt_eq G.room.units (ze_len T.b_len (za_cons (ze_fld T.na_rows (ze_var 0)) za_nil)) (ze_glob (v := V.int 16) (T.c_MOST_NESTED).choose_spec ⟨_, rfl⟩ fun _ _ _ => RDi _)) (zb_one (zs_ret ze_bl)) zb_nil)
  (zb_cons (zs_drop (ze_app (ze_fld T.na_rows (ze_var 0)) (za_cons (ze_ln (zl_lst za_nil lenA_nil)) za_nil)))
  (zb_cons (zs_attr T.na_begun (ze_var 0) ze_bl)
  (zb_one (zs_ret ze_bl))))) zb_nil)
  (zb_cons (zs_if (zt_w (zw_or (zt_inC (ze_var 1) (ze_glob (v := V.str "0123456789") (T.c_DIGITS).choose_spec ⟨_, rfl⟩ fun _ _ _ => RDst _)) (zw_or (zt_eq G.room.units (ze_var 1) ze_str) (zw_or1 (zt_eq G.room.units (ze_var 1) (ze_sub_ix (ze_glob (v := V.str "none") (T.c_NONE_WORD).choose_spec ⟨_, rfl⟩ fun _ _ _ => RDst _) ze_int)))))) (zb_cons (zs_attr2 rfl T.na_run T.na_begun (ze_var 0) (ze_var 0) (ze_tup (za_cons (ze_var 1) (za_cons ze_bl za_nil)) (lenA_cons (lenA_cons lenA_nil))))
  (zb_one (zs_ret ze_bl))) zb_nil)
  (zb_one (zs_ret ze_bl)))))) (fun ds S _ _ _ => Ref.same rfl)
theorem ok_PlainReading_begins {P : Program} {w : World} {K : PySem.W.Frag} {mg : Str → Option Value} {base : Heap} (T : Tx P w K mg base) : Dm P w K mg base (ad K).PlainReading "begins" 1 2 (F_PlainReading_begins (ad K)) dl_PlainReading_begins := by
  obtain ⟨fd, fdd⟩ := T.d_PlainReading_begins
  exact ⟨T.cl_PlainReading, _, fd, _, T.mt_PlainReading_begins, fn_PlainReading_begins T fdd, (binds_none fdd fun _ _ _ _ _ _ us hl => match us, hl with | [_, _], _ => rfl)⟩
theorem sc_PlainReading_closes : FnScope ["self", "found"] ["self"] (defScope s_PlainReading_closes) := ⟨rfl, rfl, rfl, by decide +kernel, rfl, by decide +kernel, by decide +kernel⟩
theorem fn_PlainReading_closes {P : Program} {w : World} {K : PySem.W.Frag} {mg : Str → Option Value} {base : Heap} (T : Tx P w K mg base) {fd : FuncData} (fdd : FunD K "closes" "PlainReading.closes" (defArgs s_PlainReading_closes) (defBody s_PlainReading_closes) (defScope s_PlainReading_closes) [] [] (He.ma K (He.ga K "PlainReading") "closes") fd) : FnOk P w K mg base (L2.CX P w) 3 (He.ma K (He.ga K "PlainReading") "closes") fd ["self"] (spI K 1 (F_PlainReading_closes (ad K))) :=
  zfn (k := 2) (den := den_PlainReading_closes (ad K)) fdd sc_PlainReading_closes rfl (fun cdv A outer s H E G => (zb_cons (zs_if (zt_w (zw_or (zt_not (zt_val (zd_meth0 (cs := (ad K).cs) (ok_PlainReading_ends_run T) 0 (G.room.mono (by decide)) (ze_var 0)))) (zw_or (zt_eqE G.room.units (ze_fld T.na_rows (ze_var 0)) (ze_lv (zl_lst za_nil lenA_nil))) (zw_or1 (zt_w (zw_and (zt_val (ze_fld T.na_due (ze_var 0))) (zw_and1 (zt_not (zt_val (ze_fld T.na_begun (ze_var 0))))))))))) (zb_one (zs_ret ze_bl)) zb_nil)
  (zb_cons (zs_set sc_PlainReading_closes.nd (ze_tuple T.b_tuple (za_cons (ze_pop (ze_fld T.na_rows (ze_var 0))) za_nil)))
  (zb_cons (zs_drop (zd_meth (cs := (ad K).cs) (ok_PlainReading_put T) 0 (G.room.mono (by decide)) (ze_var 0) (za_cons (ze_var 1) za_nil)))
  (zb_one (zs_ret ze_bl)))))) (fun ds S _ _ _ => Ref.same rfl)
theorem ok_PlainReading_closes {P : Program} {w : World} {K : PySem.W.Frag} {mg : Str → Option Value} {base : Heap} (T : Tx P w K mg base) : Dm P w K mg base (ad K).PlainReading "closes" 3 1 (F_PlainReading_closes (ad K)) dl_PlainReading_closes := by
  obtain ⟨fd, fdd⟩ := T.d_PlainReading_closes
  exact ⟨T.cl_PlainReading, _, fd, _, T.mt_PlainReading_closes, fn_PlainReading_closes T fdd, (binds_none fdd fun _ _ _ _ _ _ us hl => match us, hl with | [_], _ => rfl)⟩
theorem sc_PlainReading_parts : FnScope ["self"] ["self"] (defScope s_PlainReading_parts) := ⟨rfl, rfl, rfl, by decide +kernel, rfl, by decide +kernel, by decide +kernel⟩
theorem fn_PlainReading_parts {P : Program} {w : World} {K : PySem.W.Frag} {mg : Str → Option Value} {base : Heap} (T : Tx P w K mg base) {fd : FuncData} (fdd : FunD K "parts" "PlainReading.parts" (defArgs s_PlainReading_parts) (defBody s_PlainReading_parts) (defScope s_PlainReading_parts) [] [] (He.ma K (He.ga K "PlainReading") "parts") fd) : FnOk P w K mg base (L2.CX P w) 3 (He.ma K (He.ga K "PlainReading") "parts") fd ["self"] (spI K 1 (F_PlainReading_parts (ad K))) :=
  zfn (k := 2) (den := den_PlainReading_parts (ad K)) fdd sc_PlainReading_parts rfl (fun cdv A outer s H E G => (zb_cons (zs_if (zt_w (zw_or (zt_not (zt_val (zd_meth0 (cs := (ad K).cs) (ok_PlainReading_ends_run T) 0 (G.room.mono (by decide)) (ze_var 0)))) (zw_or (zt_eqE G.room.units (ze_fld T.na_rows (ze_var 0)) (ze_lv (zl_lst za_nil lenA_nil))) (zw_or1 (zt_val (ze_fld T.na_due (ze_var 0))))))) (zb_one (zs_ret ze_bl)) zb_nil)
  (zb_cons (zs_attr T.na_due (ze_var 0) ze_bl)
  (zb_one (zs_ret ze_bl))))) (fun ds S _ _ _ => Ref.same rfl)
theorem ok_PlainReading_parts {P : Program} {w : World} {K : PySem.W.Frag} {mg : Str → Option Value} {base : Heap} (T : Tx P w K mg base) : Dm P w K mg base (ad K).PlainReading "parts" 3 1 (F_PlainReading_parts (ad K)) dl_PlainReading_parts := by
  obtain ⟨fd, fdd⟩ := T.d_PlainReading_parts
  exact ⟨T.cl_PlainReading, _, fd, _, T.mt_PlainReading_parts, fn_PlainReading_parts T fdd, (binds_none fdd fun _ _ _ _ _ _ us hl => match us, hl with | [_], _ => rfl)⟩
theorem sc_PlainReading_takes : FnScope ["self", "sign"] ["self", "sign"] (defScope s_PlainReading_takes) := ⟨rfl, rfl, rfl, by decide +kernel, rfl, by decide +kernel, by decide +kernel⟩
theorem fn_PlainReading_takes {P : Program} {w : World} {K : PySem.W.Frag} {mg : Str → Option Value} {base : Heap} (T : Tx P w K mg base) {fd : FuncData} (fdd : FunD K "takes" "PlainReading.takes" (defArgs s_PlainReading_takes) (defBody s_PlainReading_takes) (defScope s_PlainReading_takes) [] [] (He.ma K (He.ga K "PlainReading") "takes") fd) : FnOk P w K mg base (L2.CX P w) 4 (He.ma K (He.ga K "PlainReading") "takes") fd ["self", "sign"] (spI K 2 (F_PlainReading_takes (ad K))) :=
  zfn (k := 3) (den := den_PlainReading_takes (ad K)) fdd sc_PlainReading_takes rfl (fun cdv A outer s H E G => (zb_cons (zs_if (zt_w (zw_and (zt_ne G.room.units (ze_fld T.na_run (ze_var 0)) ze_str) (zw_and1 (zt_val (zd_meth (cs := (ad K).cs) (ok_PlainReading_goes_on T) 0 (G.room.mono (by decide)) (ze_var 0) (za_cons (ze_var 1) za_nil)))))) (zb_cons (zs_attr T.na_run (ze_var 0) (ze_plus (ze_fld T.na_run (ze_var 0)) (ze_var 1)))
  (zb_one (zs_ret ze_bl))) zb_nil)
  (zb_cons (zs_if (zt_eq G.room.units (ze_var 1) ze_str) (zb_one (zs_ret (zd_meth0 (cs := (ad K).cs) (ok_PlainReading_closes T) 0 (G.room.mono (by decide)) (ze_var 0)))) zb_nil)
  (zb_cons (zs_if (zt_eq G.room.units (ze_var 1) ze_str) (zb_one (zs_ret (zd_meth0 (cs := (ad K).cs) (ok_PlainReading_parts T) 0 (G.room.mono (by decide)) (ze_var 0)))) zb_nil)
  (zb_one (zs_ret (ze_and (ze_eq G.room.units (ze_fld T.na_run (ze_var 0)) ze_str) (ze_one (zd_meth (cs := (ad K).cs) (ok_PlainReading_begins T) 0 (G.room.mono (by decide)) (ze_var 0) (za_cons (ze_var 1) za_nil)))))))))) (fun ds S _ _ _ => Ref.same rfl)
theorem ok_PlainReading_takes {P : Program} {w : World} {K : PySem.W.Frag} {mg : Str → Option Value} {base : Heap} (T : Tx P w K mg base) : Dm P w K mg base (ad K).PlainReading "takes" 4 2 (F_PlainReading_takes (ad K)) dl_PlainReading_takes := by
  obtain ⟨fd, fdd⟩ := T.d_PlainReading_takes
  exact ⟨T.cl_PlainReading, _, fd, _, T.mt_PlainReading_takes, fn_PlainReading_takes T fdd, (binds_none fdd fun _ _ _ _ _ _ us hl => match us, hl with | [_, _], _ => rfl)⟩
theorem sc_PlainReading_is_whole : FnScope ["self"] ["self"] (defScope s_PlainReading_is_whole) := ⟨rfl, rfl, rfl, by decide +kernel, rfl, by decide +kernel, by decide +kernel⟩
theorem fn_PlainReading_is_whole {P : Program} {w : World} {K : PySem.W.Frag} {mg : Str → Option Value} {base : Heap} (T : Tx P w K mg base) {fd : FuncData} (fdd : FunD K "is_whole" "PlainReading.is_whole" (defArgs s_PlainReading_is_whole) (defBody s_PlainReading_is_whole) (defScope s_PlainReading_is_whole) [] [] (He.ma K (He.ga K "PlainReading") "is_whole") fd) : FnOk P w K mg base (L2.CX P w) 3 (He.ma K (He.ga K "PlainReading") "is_whole") fd ["self"] (spI K 1 (F_PlainReading_is_whole (ad K))) :=
  zfn (k := 2) (den := den_PlainReading_is_whole (ad K)) fdd sc_PlainReading_is_whole rfl (fun cdv A outer s H E G => (zb_one (zs_ret (ze_and (zd_meth0 (cs := (ad K).cs) (ok_PlainReading_ends_run T) 0 (G.room.mono (by decide)) (ze_var 0)) (ze_and (ze_eqE G.room.units (ze_fld T.na_rows (ze_var 0)) (ze_lv (zl_lst za_nil lenA_nil))) (ze_one (ze_eq G.room.units (ze_len T.b_len (za_cons (ze_fld T.na_made (ze_var 0)) za_nil)) ze_int))))))) (fun ds S _ _ _ => Ref.same rfl)
theorem ok_PlainReading_is_whole {P : Program} {w : World} {K : PySem.W.Frag} {mg : Str → Option Value} {base : Heap} (T : Tx P w K mg base) : Dm P w K mg base (ad K).PlainReading "is_whole" 3 1 (F_PlainReading_is_whole (ad K)) dl_PlainReading_is_whole := by
  obtain ⟨fd, fdd⟩ := T.d_PlainReading_is_whole
  exact ⟨T.cl_PlainReading, _, fd, _, T.mt_PlainReading_is_whole, fn_PlainReading_is_whole T fdd, (binds_none fdd fun _ _ _ _ _ _ us hl => match us, hl with | [_], _ => rfl)⟩
theorem sc_plain_of : FnScope ["text", "reading", "at", "sign"] ["text"] (defScope s_plain_of) := ⟨rfl, rfl, rfl, by decide +kernel, rfl, by decide +kernel, by decide +kernel⟩
theorem fn_plain_of {P : Program} {w : World} {K : PySem.W.Frag} {mg : Str → Option Value} {base : Heap} (T : Tx P w K mg base) {fd : FuncData} (fdd : FunD K "plain_of" "plain_of" (defArgs s_plain_of) (defBody s_plain_of) (defScope s_plain_of) [] [] (He.ga K "plain_of") fd) : FnOk P w K mg base (L2.CX P w) 5 (He.ga K "plain_of") fd ["text"] (spI K 1 (F_plain_of (ad K))) :=
  zfn (k := 4) (den := den_plain_of (ad K)) fdd sc_plain_of rfl (fun cdv A outer s H E G => (zb_cons (zs_if (zt_not (zt_val (ze_isi T.kit T.b_isinstance (za_cons (ze_var 0) (za_cons (ze_ty T.b_str) za_nil))))) (zb_one (zs_raise rfl T.e_InvalidText T.m_InvalidText T.b_super G.room (ze_neg ze_int))) zb_nil)
  (zb_cons (zs_set sc_plain_of.nd (zd_mk0 (ok_PlainReading_mk T) 0 (G.room.mono (by decide))))
  (zb_cons (zs_for G.pass rfl (zi_enumS T.b_enumerate (ze_var 0)) (zg_tp rfl (zgs_cons (zg_nm sc_plain_of.nd) (zgs_cons (zg_nm sc_plain_of.nd) zgs_nil))) (zb_one (zs_if (zt_not (zt_val (zd_meth (cs := (ad K).cs) (ok_PlainReading_takes T) 0 (G.room.mono (by decide)) (ze_var 1) (za_cons (ze_var 3) za_nil)))) (zb_one (zs_raise rfl T.e_InvalidText T.m_InvalidText T.b_super G.room (ze_var 2))) zb_nil)))
  (zb_cons (zs_if (zt_not (zt_val (zd_meth0 (cs := (ad K).cs) (ok_PlainReading_is_whole T) 0 (G.room.mono (by decide)) (ze_var 1)))) (zb_one (zs_raise rfl T.e_InvalidText T.m_InvalidText T.b_super G.room (ze_len T.b_len (za_cons (ze_var 0) za_nil)))) zb_nil)
  (zb_one (zs_ret (ze_sub_ix (ze_fld T.na_made (ze_var 1)) ze_int)))))))) (fun ds S _ _ _ => Ref.same rfl)
theorem ok_plain_of {P : Program} {w : World} {K : PySem.W.Frag} {mg : Str → Option Value} {base : Heap} (T : Tx P w K mg base) : Df P w K mg base "plain_of" 5 1 (F_plain_of (ad K)) dl_plain_of := by
  obtain ⟨fd, fdd⟩ := T.d_plain_of
  exact ⟨_, fd, _, fn_plain_of T fdd, T.m_plain_of, fdd.kp, (binds_none fdd fun _ _ _ _ _ _ us hl => match us, hl with | [_], _ => rfl)⟩
theorem sc__law_heap : FnScope ["script", "great", "cells", "stir", "cell"] ["script"] (defScope s__law_heap) := ⟨rfl, rfl, rfl, by decide +kernel, rfl, by decide +kernel, by decide +kernel⟩
theorem fn__law_heap {P : Program} {w : World} {K : PySem.W.Frag} {mg : Str → Option Value} {base : Heap} (T : Tx P w K mg base) {fd : FuncData} (fdd : FunD K "_law_heap" "_law_heap" (defArgs s__law_heap) (defBody s__law_heap) (defScope s__law_heap) [] [] (He.ga K "_law_heap") fd) : FnOk P w K mg base (L2.CX P w) 1 (He.ga K "_law_heap") fd ["script"] (spI K 1 (F__law_heap (ad K))) :=
  zfn (k := 0) (den := den__law_heap (ad K)) fdd sc__law_heap rfl (fun cdv A outer s H E G => (zb_cons (zs_set sc__law_heap.nd (ze_mul (ze_mul (ze_pow ze_int ze_int) (ze_pow ze_int ze_int)) (ze_pow ze_int ze_int)))
  (zb_cons (zs_par rfl sc__law_heap.nd (ze_lv (zl_lc (own := [("cell", 4)]) rfl sc__law_heap.nd (zi_seq (ze_lv (zl_slice (ze_var 0) zo_none (zo_some ze_int)))) (blkOk_by (own := [("cell", 4)]) (by kernel_rfl)) (by decide) (fun _ _ _ _ _ => (zg_nm sc__law_heap.nd)) (fun _ _ _ _ _ => zts_nil) (fun _ _ _ _ _ => (ze_mod (ze_int1 T.b_int (za_cons (ze_plus (ze_mul ze_int (ze_abs T.b_abs (za_cons (ze_var 4) za_nil))) (ze_int1 T.b_int (za_cons (ze_lt (ze_var 4) ze_int) za_nil))) za_nil)) (ze_var 1))))) ze_int)
  (zb_cons (zs_for G.pass rfl (zi_seq (ze_var 2)) (zg_nm sc__law_heap.nd) (zb_one (zs_set sc__law_heap.nd (ze_mod (ze_int1 T.b_int (za_cons (ze_plus (ze_plus (ze_mul (ze_var 3) ze_int) (ze_mod (ze_int1 T.b_int (za_cons (ze_var 4) za_nil)) ze_int)) ze_int) za_nil)) ze_int))))
  (zb_one (zs_ret (ze_ln (zl_lst (za_cons (ze_ln (zl_rev (ze_lv (zl_lc (own := [("cell", 4)]) rfl sc__law_heap.nd (zi_seq (ze_var 2)) (blkOk_by (own := [("cell", 4)]) (by kernel_rfl)) (by decide) (fun _ _ _ _ _ => (zg_nm sc__law_heap.nd)) (fun _ _ _ _ _ => (zts_one (zt_ge (ze_var 4) (ze_pow ze_int ze_int)))) (fun _ _ _ _ _ => (ze_var 4)))))) (za_cons (ze_var 3) za_nil)) (lenA_cons (lenA_cons lenA_nil)))))))))) (fun ds S _ _ _ => Ref.same rfl)
theorem ok__law_heap {P : Program} {w : World} {K : PySem.W.Frag} {mg : Str → Option Value} {base : Heap} (T : Tx P w K mg base) : Df P w K mg base "_law_heap" 1 1 (F__law_heap (ad K)) dl__law_heap := by
  obtain ⟨fd, fdd⟩ := T.d__law_heap
  exact ⟨_, fd, _, fn__law_heap T fdd, T.m__law_heap, fdd.kp, (binds_none fdd fun _ _ _ _ _ _ us hl => match us, hl with | [_], _ => rfl)⟩
theorem sc__law_draw : FnScope ["heap", "many", "rest"] ["heap", "many"] (defScope s__law_draw) := ⟨rfl, rfl, rfl, by decide +kernel, rfl, by decide +kernel, by decide +kernel⟩
theorem fn__law_draw {P : Program} {w : World} {K : PySem.W.Frag} {mg : Str → Option Value} {base : Heap} (T : Tx P w K mg base) {fd : FuncData} (fdd : FunD K "_law_draw" "_law_draw" (defArgs s__law_draw) (defBody s__law_draw) (defScope s__law_draw) [] [] (He.ga K "_law_draw") fd) : FnOk P w K mg base (L2.CX P w) 1 (He.ga K "_law_draw") fd ["heap", "many"] (spI K 2 (F__law_draw (ad K))) :=
  zfn (k := 0) (den := den__law_draw (ad K)) fdd sc__law_draw rfl (fun cdv A outer s H E G => (zb_cons (zs_while 64 G.pass (zt_w (zw_and (zt_ne G.room.units (ze_sub_ix (ze_var 0) ze_int) (ze_lv (zl_lst za_nil lenA_nil))) (zw_and1 (zt_eq G.room.units (ze_sub_ix (ze_sub_ix (ze_var 0) ze_int) (ze_neg ze_int)) ze_int)))) (zb_one (zs_drop (ze_pop (ze_sub_ix (ze_var 0) ze_int)))))
  (zb_cons (zs_if (zt_ne G.room.units (ze_sub_ix (ze_var 0) ze_int) (ze_lv (zl_lst za_nil lenA_nil))) (zb_cons (zs_set sc__law_draw.nd (ze_pop (ze_sub_ix (ze_var 0) ze_int)))
  (zb_cons (zs_drop (ze_app (ze_sub_ix (ze_var 0) ze_int) (za_cons (ze_fdiv (ze_var 2) (ze_var 1)) za_nil)))
  (zb_one (zs_ret (ze_mod (ze_int1 T.b_int (za_cons (ze_var 2) za_nil)) (ze_var 1)))))) zb_nil)
  (zb_cons (zs_put (ze_mod (ze_int1 T.b_int (za_cons (ze_plus (ze_mul (ze_sub_ix (ze_var 0) ze_int) ze_int) ze_int) za_nil)) ze_int) (ze_var 0) ze_int)
  (zb_one (zs_ret (ze_mod (ze_int1 T.b_int (za_cons (ze_fdiv (ze_sub_ix (ze_var 0) ze_int) ze_int) za_nil)) (ze_var 1)))))))) (fun ds S _ _ _ => Ref.same rfl)
theorem ok__law_draw {P : Program} {w : World} {K : PySem.W.Frag} {mg : Str → Option Value} {base : Heap} (T : Tx P w K mg base) : Df P w K mg base "_law_draw" 1 2 (F__law_draw (ad K)) dl__law_draw := by
  obtain ⟨fd, fdd⟩ := T.d__law_draw
  exact ⟨_, fd, _, fn__law_draw T fdd, T.m__law_draw, fdd.kp, (binds_none fdd fun _ _ _ _ _ _ us hl => match us, hl with | [_, _], _ => rfl)⟩
theorem sc__law_pick : FnScope ["heap", "some"] ["heap", "some"] (defScope s__law_pick) := ⟨rfl, rfl, rfl, by decide +kernel, rfl, by decide +kernel, by decide +kernel⟩
theorem fn__law_pick {P : Program} {w : World} {K : PySem.W.Frag} {mg : Str → Option Value} {base : Heap} (T : Tx P w K mg base) {fd : FuncData} (fdd : FunD K "_law_pick" "_law_pick" (defArgs s__law_pick) (defBody s__law_pick) (defScope s__law_pick) [] [] (He.ga K "_law_pick") fd) : FnOk P w K mg base (L2.CX P w) 2 (He.ga K "_law_pick") fd ["heap", "some"] (spI K 2 (F__law_pick (ad K))) :=
  zfn (k := 1) (den := den__law_pick (ad K)) fdd sc__law_pick rfl (fun cdv A outer s H E G => (zb_one (zs_ret (ze_sub_ix (ze_var 1) (zd_call (ok__law_draw T) 0 (G.room.mono (by decide)) (za_cons (ze_var 0) (za_cons (ze_len T.b_len (za_cons (ze_var 1) za_nil)) za_nil))))))) (fun ds S _ _ _ => Ref.same rfl)
theorem ok__law_pick {P : Program} {w : World} {K : PySem.W.Frag} {mg : Str → Option Value} {base : Heap} (T : Tx P w K mg base) : Df P w K mg base "_law_pick" 2 2 (F__law_pick (ad K)) dl__law_pick := by
  obtain ⟨fd, fdd⟩ := T.d__law_pick
  exact ⟨_, fd, _, fn__law_pick T fdd, T.m__law_pick, fdd.kp, (binds_none fdd fun _ _ _ _ _ _ us hl => match us, hl with | [_, _], _ => rfl)⟩
theorem sc__law_like : FnScope ["told", "due", "one", "other"] ["told", "due"] (defScope s__law_like) := ⟨rfl, rfl, rfl, by decide +kernel, rfl, by decide +kernel, by decide +kernel⟩
theorem ok__law_like {P : Program} {w : World} {K : PySem.W.Frag} {mg : Str → Option Value} {base : Heap} (T : Tx P w K mg base) : ∀ n, Df P w K mg base "_law_like" (n + 1) 2 (F__law_like (ad K) n) dl__law_like
  | 0 => by
    obtain ⟨fd, fdd⟩ := T.d__law_like
    exact ⟨_, fd, _, zfn (den := fun _ _ => .bad) fdd sc__law_like rfl (fun cdv A outer s H E G => zb_bad) (fun ds S _ _ _ => Ref.same rfl), T.m__law_like, fdd.kp, (binds_none fdd fun _ _ _ _ _ _ us hl => match us, hl with | [_, _], _ => rfl)⟩
  | n + 1 => by
    obtain ⟨fd, fdd⟩ := T.d__law_like
    have IH := ok__law_like T n
    let c := ad K
    exact ⟨_, fd, _, zfn (k := n + 1) (den := den__law_like (ad K) (F__law_like (ad K) n)) fdd sc__law_like rfl (fun cdv A outer s H E G => (zb_cons (zs_if (zt_val (ze_isi T.kit T.b_isinstance (za_cons (ze_var 1) (za_cons (ze_ty T.b_tuple) za_nil)))) (zb_one (zs_ret (ze_and (ze_isi T.kit T.b_isinstance (za_cons (ze_var 0) (za_cons (ze_ty T.b_tuple) za_nil))) (ze_and (ze_eq G.room.units (ze_len T.b_len (za_cons (ze_var 0) za_nil)) (ze_len T.b_len (za_cons (ze_var 1) za_nil))) (ze_one (ze_all rfl T.b_all (za_cons (ze_lv (zl_lc (own := [("one", 2), ("other", 3)]) rfl sc__law_like.nd (zi_zip T.b_zip (za_cons (ze_var 0) (za_cons (ze_var 1) za_nil))) (blkOk_by (own := [("one", 2), ("other", 3)]) (by kernel_rfl)) (by decide) (fun _ _ _ _ _ => (zg_tp rfl (zgs_cons (zg_nm sc__law_like.nd) (zgs_cons (zg_nm sc__law_like.nd) zgs_nil)))) (fun _ _ _ _ _ => zts_nil) (fun _ _ _ _ _ => (zd_call IH 0 (G.room.mono (Nat.le_refl _)) (za_cons (ze_var 2) (za_cons (ze_var 3) za_nil)))))) za_nil))))))) zb_nil)
  (zb_cons (zs_if (zt_isN (ze_var 1)) (zb_one (zs_ret (ze_isN (ze_var 0)))) zb_nil)
  (zb_cons (zs_if (zt_val (ze_isi T.kit T.b_isinstance (za_cons (ze_var 1) (za_cons (ze_ty T.b_bool) za_nil)))) (zb_one (zs_ret (ze_ifx (zt_val (ze_var 1)) (ze_isC (ze_var 0) ze_bl) (ze_isC (ze_var 0) ze_bl)))) zb_nil)
  (zb_cons (zs_if (zt_val (ze_isi T.kit T.b_isinstance (za_cons (ze_var 1) (za_cons (ze_ty T.b_int) za_nil)))) (zb_one (zs_ret (ze_and (ze_isi T.kit T.b_isinstance (za_cons (ze_var 0) (za_cons (ze_ty T.b_int) za_nil))) (ze_and (ze_not (ze_isi T.kit T.b_isinstance (za_cons (ze_var 0) (za_cons (ze_ty T.b_bool) za_nil)))) (ze_one (ze_eq G.room.units (ze_var 0) (ze_var 1))))))) zb_nil)
  (zb_one (zs_ret (ze_and (ze_isi T.kit T.b_isinstance (za_cons (ze_var 0) (za_cons (ze_ty T.b_str) za_nil))) (ze_and (ze_isi T.kit T.b_isinstance (za_cons (ze_var 1) (za_cons (ze_ty T.b_str) za_nil))) (ze_one (ze_eq G.room.units (ze_var 0) (ze_var 1)))))))))))) (fun ds S _ _ _ => Ref.same rfl), T.m__law_like, fdd.kp, (binds_none fdd fun _ _ _ _ _ _ us hl => match us, hl with | [_, _], _ => rfl)⟩
theorem sc__law_value : FnScope ["heap", "deep", "turn"] ["heap", "deep"] (defScope s__law_value) := ⟨rfl, rfl, rfl, by decide +kernel, rfl, by decide +kernel, by decide +kernel⟩
theorem ok__law_value {P : Program} {w : World} {K : PySem.W.Frag} {mg : Str → Option Value} {base : Heap} (T : Tx P w K mg base) : ∀ n, Df P w K mg base "_law_value" (n + 3) 2 (F__law_value (ad K) n) dl__law_value
  | 0 => by
    obtain ⟨fd, fdd⟩ := T.d__law_value
    exact ⟨_, fd, _, zfn (den := fun _ _ => .bad) fdd sc__law_value rfl (fun cdv A outer s H E G => zb_bad) (fun ds S _ _ _ => Ref.same rfl), T.m__law_value, fdd.kp, (binds_none fdd fun _ _ _ _ _ _ us hl => match us, hl with | [_, _], _ => rfl)⟩
  | n + 1 => by
    obtain ⟨fd, fdd⟩ := T.d__law_value
    have IH := ok__law_value T n
    let c := ad K
    exact ⟨_, fd, _, zfn (k := n + 3) (den := den__law_value (ad K) (F__law_value (ad K) n)) fdd sc__law_value rfl (fun cdv A outer s H E G => (zb_cons (zs_if (zt_w (zw_and (zt_gt (ze_var 1) ze_int) (zw_and1 (zt_gt (zd_call (ok__law_draw T) 0 (G.room.mono (by omega)) (za_cons (ze_var 0) (za_cons ze_int za_nil))) ze_int)))) (zb_one (zs_ret (ze_tuple T.b_tuple (za_cons (ze_lv (zl_lc (own := [("turn", 2)]) rfl sc__law_value.nd (zi_r1 T.b_range (za_cons (zd_call (ok__law_draw T) 0 (G.room.mono (by omega)) (za_cons (ze_var 0) (za_cons ze_int za_nil))) za_nil)) (blkOk_by (own := [("turn", 2)]) (by kernel_rfl)) (by decide) (fun _ _ _ _ _ => (zg_nm sc__law_value.nd)) (fun _ _ _ _ _ => zts_nil) (fun _ _ _ _ _ => (zd_call IH 0 (G.room.mono (Nat.le_refl _)) (za_cons (ze_var 0) (za_cons (ze_sub (ze_var 1) ze_int) za_nil)))))) za_nil)))) zb_nil)
  (zb_one (zs_ret (zd_call (ok__law_pick T) 0 (G.room.mono (by omega)) (za_cons (ze_var 0) (za_cons (ze_lv (zl_lst (za_cons ze_int (za_cons ze_non (za_cons (zd_call (ok__law_draw T) 0 (G.room.mono (by omega)) (za_cons (ze_var 0) (za_cons ze_int za_nil))) (za_cons (ze_sub ze_int (zd_call (ok__law_draw T) 0 (G.room.mono (by omega)) (za_cons (ze_var 0) (za_cons (ze_pow ze_int ze_int) za_nil)))) (za_cons (zd_call (ok__law_draw T) 0 (G.room.mono (by omega)) (za_cons (ze_var 0) (za_cons (ze_pow ze_int ze_int) za_nil))) (za_cons (ze_sub (ze_pow ze_int ze_int) ze_int) (za_cons (ze_sub ze_int (ze_pow ze_int ze_int)) za_nil))))))) (lenA_cons (lenA_cons (lenA_cons (lenA_cons (lenA_cons (lenA_cons (lenA_cons lenA_nil))))))))) za_nil))))))) (fun ds S _ _ _ => Ref.same rfl), T.m__law_value, fdd.kp, (binds_none fdd fun _ _ _ _ _ _ us hl => match us, hl with | [_, _], _ => rfl)⟩
theorem sc__law_nested : FnScope ["value", "many", "turn"] ["value", "many"] (defScope s__law_nested) := ⟨rfl, rfl, rfl, by decide +kernel, rfl, by decide +kernel, by decide +kernel⟩
theorem fn__law_nested {P : Program} {w : World} {K : PySem.W.Frag} {mg : Str → Option Value} {base : Heap} (T : Tx P w K mg base) {fd : FuncData} (fdd : FunD K "_law_nested" "_law_nested" (defArgs s__law_nested) (defBody s__law_nested) (defScope s__law_nested) [] [] (He.ga K "_law_nested") fd) : FnOk P w K mg base (L2.CX P w) 1 (He.ga K "_law_nested") fd ["value", "many"] (spI K 2 (F__law_nested (ad K))) :=
  zfn (k := 0) (den := den__law_nested (ad K)) fdd sc__law_nested rfl (fun cdv A outer s H E G => (zb_cons (zs_for G.pass rfl (zi_r1 T.b_range (za_cons (ze_var 1) za_nil)) (zg_nm sc__law_nested.nd) (zb_one (zs_set sc__law_nested.nd (ze_tup (za_cons (ze_var 0) za_nil) (lenA_cons lenA_nil)))))
  (zb_one (zs_ret (ze_var 0))))) (fun ds S _ _ _ => Ref.same rfl)
theorem ok__law_nested {P : Program} {w : World} {K : PySem.W.Frag} {mg : Str → Option Value} {base : Heap} (T : Tx P w K mg base) : Df P w K mg base "_law_nested" 1 2 (F__law_nested (ad K)) dl__law_nested := by
  obtain ⟨fd, fdd⟩ := T.d__law_nested
  exact ⟨_, fd, _, fn__law_nested T fdd, T.m__law_nested, fdd.kp, (binds_none fdd fun _ _ _ _ _ _ us hl => match us, hl with | [_, _], _ => rfl)⟩
theorem sc__law_written : FnScope ["value", "text", "at", "one", "figures", "rest"] ["value"] (defScope s__law_written) := ⟨rfl, rfl, rfl, by decide +kernel, rfl, by decide +kernel, by decide +kernel⟩
theorem ok__law_written {P : Program} {w : World} {K : PySem.W.Frag} {mg : Str → Option Value} {base : Heap} (T : Tx P w K mg base) : ∀ n, Df P w K mg base "_law_written" (n + 1) 1 (F__law_written (ad K) n) dl__law_written
  | 0 => by
    obtain ⟨fd, fdd⟩ := T.d__law_written
    exact ⟨_, fd, _, zfn (den := fun _ _ => .bad) fdd sc__law_written rfl (fun cdv A outer s H E G => zb_bad) (fun ds S _ _ _ => Ref.same rfl), T.m__law_written, fdd.kp, (binds_none fdd fun _ _ _ _ _ _ us hl => match us, hl with | [_], _ => rfl)⟩
  | n + 1 => by
    obtain ⟨fd, fdd⟩ := T.d__law_written
    have IH := ok__law_written T n
    let c := ad K
    exact ⟨_, fd, _, zfn (k := n + 1) (den := den__law_written (ad K) (F__law_written (ad K) n)) fdd sc__law_written rfl (fun cdv A outer s H E G => (zb_cons (zs_if (zt_isN (ze_var 0)) (zb_one (zs_ret ze_str)) zb_nil)
  (zb_cons (zs_if (zt_val (ze_isi T.kit T.b_isinstance (za_cons (ze_var 0) (za_cons (ze_ty T.b_tuple) za_nil)))) (zb_cons (zs_set sc__law_written.nd ze_str)
  (zb_cons (zs_for G.pass rfl (zi_enum T.b_enumerate (za_cons (ze_var 0) za_nil)) (zg_tp rfl (zgs_cons (zg_nm sc__law_written.nd) (zgs_cons (zg_nm sc__law_written.nd) zgs_nil))) (zb_one (zs_set sc__law_written.nd (ze_plus (ze_plus (ze_var 1) (ze_ifx (zt_gt (ze_var 2) ze_int) ze_str ze_str)) (zd_call IH 0 (G.room.mono (Nat.le_refl _)) (za_cons (ze_var 3) za_nil))))))
  (zb_one (zs_ret (ze_plus (ze_plus ze_str (ze_var 1)) ze_str))))) zb_nil)
  (zb_cons (zs_par rfl sc__law_written.nd ze_str (ze_abs T.b_abs (za_cons (ze_var 0) za_nil)))
  (zb_cons (zs_while 16 G.pass (zt_gt (ze_var 5) ze_int) (zb_one (zs_par rfl sc__law_written.nd (ze_plus (ze_sub_ix ze_str (ze_mod (ze_int1 T.b_int (za_cons (ze_var 5) za_nil)) ze_int)) (ze_var 4)) (ze_fdiv (ze_var 5) ze_int))))
  (zb_one (zs_ret (ze_plus (ze_ifx (zt_lt (ze_var 0) ze_int) ze_str ze_str) (ze_ifx (zt_ne G.room.units (ze_var 4) ze_str) (ze_var 4) ze_str))))))))) (fun ds S _ _ _ => Ref.same rfl), T.m__law_written, fdd.kp, (binds_none fdd fun _ _ _ _ _ _ us hl => match us, hl with | [_], _ => rfl)⟩
theorem sc__law_read : FnScope ["text", "e"] ["text"] (defScope s__law_read) := ⟨rfl, rfl, rfl, by decide +kernel, rfl, by decide +kernel, by decide +kernel⟩
theorem fn__law_read {P : Program} {w : World} {K : PySem.W.Frag} {mg : Str → Option Value} {base : Heap} (T : Tx P w K mg base) {fd : FuncData} (fdd : FunD K "_law_read" "_law_read" (defArgs s__law_read) (defBody s__law_read) (defScope s__law_read) [] [] (He.ga K "_law_read") fd) : FnOk P w K mg base (L2.CX P w) 6 (He.ga K "_law_read") fd ["text"] (spI K 1 (F__law_read (ad K))) :=
  zfn (k := 5) (den := den__law_read (ad K)) fdd sc__law_read rfl (fun cdv A outer s H E G => (zb_one (zs_try rfl rfl sc__law_read.nd T.m_StrokesError T.mt_StrokesError (fun pn xe hp => (zb_one (zs_ret (ze_tup (za_cons ze_str (za_cons (zd_call (ok_plain_of T) 0 (G.room.mono (by decide)) (za_cons (ze_var 0) za_nil)) za_nil)) (lenA_cons (lenA_cons lenA_nil)))))) (zx_tup (zxa_cons (zx_lift fun _ _ => ze_str) (zxa_cons (zx_ifx (zx_is T.is_InvalidText T.b_isinstance T.m_InvalidText) (zx_at T.xa) (zx_lift fun _ _ => ze_non)) zxa_nil)) fun _ _ => (lenA_cons (lenA_cons lenA_nil)))))) (fun ds S _ _ _ => Ref.same rfl)
theorem ok__law_read {P : Program} {w : World} {K : PySem.W.Frag} {mg : Str → Option Value} {base : Heap} (T : Tx P w K mg base) : Df P w K mg base "_law_read" 6 1 (F__law_read (ad K)) dl__law_read := by
  obtain ⟨fd, fdd⟩ := T.d__law_read
  exact ⟨_, fd, _, fn__law_read T fdd, T.m__law_read, fdd.kp, (binds_none fdd fun _ _ _ _ _ _ us hl => match us, hl with | [_], _ => rfl)⟩
theorem sc__law_may : FnScope ["text", "open_rows", "run", "due", "fresh", "sign", "ends"] ["text"] (defScope s__law_may) := ⟨rfl, rfl, rfl, by decide +kernel, rfl, by decide +kernel, by decide +kernel⟩
theorem fn__law_may {P : Program} {w : World} {K : PySem.W.Frag} {mg : Str → Option Value} {base : Heap} (T : Tx P w K mg base) {fd : FuncData} (fdd : FunD K "_law_may" "_law_may" (defArgs s__law_may) (defBody s__law_may) (defScope s__law_may) [] [] (He.ga K "_law_may") fd) : FnOk P w K mg base (L2.CX P w) 1 (He.ga K "_law_may") fd ["text"] (spI K 1 (F__law_may (ad K))) :=
  zfn (k := 0) (den := den__law_may (ad K)) fdd sc__law_may rfl (fun cdv A outer s H E G => (zb_cons (zs_asg (ze_tup (za_cons ze_int (za_cons ze_str (za_cons ze_bl (za_cons ze_bl za_nil)))) (lenA_cons (lenA_cons (lenA_cons (lenA_cons lenA_nil))))) (zg_tp rfl (zgs_cons (zg_nm sc__law_may.nd) (zgs_cons (zg_nm sc__law_may.nd) (zgs_cons (zg_nm sc__law_may.nd) (zgs_cons (zg_nm sc__law_may.nd) zgs_nil))))))
  (zb_cons (zs_for G.pass rfl (zi_seq (ze_var 0)) (zg_nm sc__law_may.nd) (zb_one (zs_if (zt_eq G.room.units (ze_var 5) ze_str) (zb_one (zs_par3 rfl sc__law_may.nd (ze_plus (ze_var 1) ze_int) ze_bl ze_bl)) (zb_one (zs_if (zt_inC (ze_var 5) ze_str) (zb_cons (zs_par3 rfl sc__law_may.nd ze_str (ze_eq G.room.units (ze_var 5) ze_str) ze_bl)
  (zb_one (zs_set sc__law_may.nd (ze_sub (ze_var 1) (ze_int1 T.b_int (za_cons (ze_eq G.room.units (ze_var 5) ze_str) za_nil)))))) (zb_one (zs_par3 rfl sc__law_may.nd (ze_plus (ze_var 2) (ze_var 5)) ze_bl ze_bl)))))))
  (zb_cons (zs_if (zt_val (ze_var 3)) (zb_one (zs_ret (ze_lv (zl_cat (ze_lv (zl_cat (ze_lv (zl_cat (ze_lv (zl_lst (za_cons ze_str (za_cons ze_str za_nil)) (lenA_cons (lenA_cons lenA_nil)))) (ze_lv (zl_txt rfl T.b_list ze_str)))) (ze_ifx (zt_lt (ze_var 1) ze_int) (ze_lv (zl_lst (za_cons ze_str za_nil) (lenA_cons lenA_nil))) (ze_lv (zl_lst za_nil lenA_nil))))) (ze_ifx (zt_val (ze_var 4)) (ze_lv (zl_lst (za_cons ze_str za_nil) (lenA_cons lenA_nil))) (ze_lv (zl_lst za_nil lenA_nil))))))) zb_nil)
  (zb_cons (zs_set sc__law_may.nd (ze_ifx (zt_gt (ze_var 1) ze_int) (ze_lv (zl_lst (za_cons ze_str (za_cons ze_str za_nil)) (lenA_cons (lenA_cons lenA_nil)))) (ze_lv (zl_lst (za_cons ze_str za_nil) (lenA_cons lenA_nil)))))
  (zb_cons (zs_if (zt_eq G.room.units (ze_var 2) ze_str) (zb_one (zs_ret (ze_var 6))) zb_nil)
  (zb_cons (zs_if (zt_eq G.room.units (ze_sub_ix (ze_var 2) ze_int) ze_str) (zb_one (zs_ret (ze_ifx (zt_eq G.room.units (ze_var 2) ze_str) (ze_var 6) (ze_lv (zl_lst (za_cons (ze_sub_ix ze_str (ze_len T.b_len (za_cons (ze_var 2) za_nil))) za_nil) (lenA_cons lenA_nil)))))) zb_nil)
  (zb_cons (zs_if (zt_eq G.room.units (ze_var 2) ze_str) (zb_one (zs_ret (ze_lv (zl_txt rfl T.b_list ze_str)))) zb_nil)
  (zb_one (zs_ret (ze_lv (zl_cat (ze_ifx (zt_w (zw_andK (ztk_ne G.room.units (ze_var 2) zek_str) (zwt_and1 (ztt_lt (zet_len T.b_len (zet_repl (ze_var 2))) ze_int)))) (ze_lv (zl_txt rfl T.b_list ze_str)) (ze_lv (zl_lst za_nil lenA_nil))) (ze_var 6))))))))))))) (fun ds S _ _ _ => Ref.same rfl)
theorem ok__law_may {P : Program} {w : World} {K : PySem.W.Frag} {mg : Str → Option Value} {base : Heap} (T : Tx P w K mg base) : Df P w K mg base "_law_may" 1 1 (F__law_may (ad K)) dl__law_may := by
  obtain ⟨fd, fdd⟩ := T.d__law_may
  exact ⟨_, fd, _, fn__law_may T fdd, T.m__law_may, fdd.kp, (binds_none fdd fun _ _ _ _ _ _ us hl => match us, hl with | [_], _ => rfl)⟩
theorem sc_law : FnScope ["script", "heap", "turn", "value", "text", "at", "wrong", "sign", "bent", "odd", "one"] ["script"] (defScope s_law) := ⟨rfl, rfl, rfl, by decide +kernel, rfl, by decide +kernel, by decide +kernel⟩
theorem fn_law {P : Program} {w : World} {K : PySem.W.Frag} {mg : Str → Option Value} {base : Heap} (T : Tx P w K mg base) {fd : FuncData} (fdd : FunD K "law" "law" (defArgs s_law) (defBody s_law) (defScope s_law) [] [] (He.ga K "law") fd) : FnOk P w K mg base (L2.CX P w) 21 (He.ga K "law") fd ["script"] (spI K 1 (F_law (ad K))) :=
  zfn (k := 20) (den := den_law (ad K)) fdd sc_law rfl (fun cdv A outer s H E G => (zb_cons (zs_set sc_law.nd (zd_call (ok__law_heap T) 0 (G.room.mono (by decide)) (za_cons (ze_var 0) za_nil)))
  (zb_cons (zs_for G.pass rfl (zi_r1 T.b_range (za_cons ze_int za_nil)) (zg_nm sc_law.nd) (zb_cons (zs_set sc_law.nd (zd_call (ok__law_pick T) 0 (G.room.mono (by decide)) (za_cons (ze_var 1) (za_cons (ze_lv (zl_lst (za_cons (zd_call (ok__law_value T 6) 0 (G.room.mono (by decide)) (za_cons (ze_var 1) (za_cons ze_int za_nil))) (za_cons (zd_call (ok__law_nested T) 0 (G.room.mono (by decide)) (za_cons (zd_call (ok__law_value T 6) 0 (G.room.mono (by decide)) (za_cons (ze_var 1) (za_cons ze_int za_nil))) (za_cons (zd_call (ok__law_pick T) 0 (G.room.mono (by decide)) (za_cons (ze_var 1) (za_cons (ze_lv (zl_lst (za_cons ze_int (za_cons ze_int (za_cons ze_int za_nil))) (lenA_cons (lenA_cons (lenA_cons lenA_nil))))) za_nil))) za_nil))) za_nil)) (lenA_cons (lenA_cons lenA_nil)))) za_nil))))
  (zb_cons (zs_set sc_law.nd (zd_call (ok__law_written T 18) 0 (G.room.mono (by decide)) (za_cons (ze_var 3) za_nil)))
  (zb_cons (zs_if (zt_w (zw_or (zt_notC (zd_call (ok_is_plain T 18) 0 (G.room.mono (by decide)) (za_cons (ze_var 3) za_nil)) ze_bl) (zw_or (zt_not (zt_val (zd_call (ok__law_like T 19) 0 (G.room.mono (by decide)) (za_cons (zd_call (ok_plain_text T 18) 0 (G.room.mono (by decide)) (za_cons (ze_var 3) za_nil)) (za_cons (ze_var 4) za_nil))))) (zw_or1 (zt_not (zt_val (zd_call (ok__law_like T 19) 0 (G.room.mono (by decide)) (za_cons (zd_call (ok__law_read T) 0 (G.room.mono (by decide)) (za_cons (ze_var 4) za_nil)) (za_cons (ze_tup (za_cons ze_str (za_cons (ze_var 3) za_nil)) (lenA_cons (lenA_cons lenA_nil))) za_nil))))))))) (zb_one (zs_ret ze_bl)) zb_nil)
  (zb_cons (zs_set sc_law.nd (zd_call (ok__law_draw T) 0 (G.room.mono (by decide)) (za_cons (ze_var 1) (za_cons (ze_plus (ze_len T.b_len (za_cons (ze_var 4) za_nil)) ze_int) za_nil))))
  (zb_cons (zs_if (zt_in (hu65 G.room) ze_str (zd_call (ok__law_may T) 0 (G.room.mono (by decide)) (za_cons (ze_slice (ze_var 4) zo_none (zo_some (ze_var 5))) za_nil))) (zb_one (zs_if (zt_ne G.room.units (ze_sub_ix (zd_call (ok__law_read T) 0 (G.room.mono (by decide)) (za_cons (ze_slice (ze_var 4) zo_none (zo_some (ze_var 5))) za_nil)) ze_int) ze_str) (zb_one (zs_ret ze_bl)) zb_nil)) (zb_one (zs_if (zt_not (zt_val (zd_call (ok__law_like T 19) 0 (G.room.mono (by decide)) (za_cons (zd_call (ok__law_read T) 0 (G.room.mono (by decide)) (za_cons (ze_slice (ze_var 4) zo_none (zo_some (ze_var 5))) za_nil)) (za_cons (ze_tup (za_cons ze_str (za_cons (ze_var 5) za_nil)) (lenA_cons (lenA_cons lenA_nil))) za_nil))))) (zb_one (zs_ret ze_bl)) zb_nil)))
  (zb_cons (zs_setLc (new := false) (own := [("sign", 7)]) rfl sc_law.nd (zi_seq (ze_lv (zl_txt rfl T.b_list ze_str))) (blkOk_by (own := [("sign", 7)]) (by kernel_rfl)) (by decide) (fun _ _ _ _ _ => (zg_nm sc_law.nd)) (fun _ _ _ _ _ => (zts_one (zt_notin (hu65 G.room) (ze_var 7) (zd_call (ok__law_may T) 0 (G.room.mono (by decide)) (za_cons (ze_slice (ze_var 4) zo_none (zo_some (ze_var 5))) za_nil))))) (fun _ _ _ _ _ => (ze_var 7)))
  (zb_cons (zs_set sc_law.nd (ze_plus (ze_plus (ze_slice (ze_var 4) zo_none (zo_some (ze_var 5))) (zd_call (ok__law_pick T) 0 (G.room.mono (by decide)) (za_cons (ze_var 1) (za_cons (ze_var 6) za_nil)))) (ze_slice (ze_var 4) (zo_some (ze_plus (ze_var 5) (zd_call (ok__law_draw T) 0 (G.room.mono (by decide)) (za_cons (ze_var 1) (za_cons ze_int za_nil))))) zo_none)))
  (zb_one (zs_if (zt_not (zt_val (zd_call (ok__law_like T 19) 0 (G.room.mono (by decide)) (za_cons (zd_call (ok__law_read T) 0 (G.room.mono (by decide)) (za_cons (ze_var 8) za_nil)) (za_cons (ze_tup (za_cons ze_str (za_cons (ze_var 5) za_nil)) (lenA_cons (lenA_cons lenA_nil))) za_nil))))) (zb_one (zs_ret ze_bl)) zb_nil))))))))))
  (zb_cons (zs_set sc_law.nd (ze_lv (zl_lst (za_cons (ze_pow ze_int ze_int) (za_cons (ze_neg (ze_pow ze_int ze_int)) (za_cons ze_bl (za_cons ze_str (za_cons ze_str (za_cons (ze_lv (zl_lst (za_cons ze_int za_nil) (lenA_cons lenA_nil))) (za_cons (ze_tup (za_cons ze_int (za_cons (ze_lv (zl_lst (za_cons ze_int za_nil) (lenA_cons lenA_nil))) za_nil)) (lenA_cons (lenA_cons lenA_nil))) (za_cons (ze_tup (za_cons ze_non (za_cons ze_str za_nil)) (lenA_cons (lenA_cons lenA_nil))) (za_cons (zd_call (ok__law_nested T) 0 (G.room.mono (by decide)) (za_cons ze_int (za_cons ze_int za_nil))) (za_cons ze_dct (za_cons (ze_tup (za_cons ze_bl za_nil) (lenA_cons lenA_nil)) za_nil))))))))))) (lenA_cons (lenA_cons (lenA_cons (lenA_cons (lenA_cons (lenA_cons (lenA_cons (lenA_cons (lenA_cons (lenA_cons (lenA_cons lenA_nil))))))))))))))
  (zb_cons (zs_if (zt_val (ze_any rfl T.b_any (za_cons (ze_lv (zl_lc (own := [("one", 10)]) rfl sc_law.nd (zi_seq (ze_var 9)) (blkOk_by (own := [("one", 10)]) (by kernel_rfl)) (by decide) (fun _ _ _ _ _ => (zg_nm sc_law.nd)) (fun _ _ _ _ _ => zts_nil) (fun _ _ _ _ _ => (ze_notC (zd_call (ok_is_plain T 18) 0 (G.room.mono (by decide)) (za_cons (ze_var 10) za_nil)) ze_bl)))) za_nil))) (zb_one (zs_ret ze_bl)) zb_nil)
  (zb_cons (zs_for G.pass rfl (zi_seq (ze_lv (zl_lst (za_cons ze_non (za_cons ze_int (za_cons (ze_tup (za_cons ze_str za_nil) (lenA_cons lenA_nil)) (za_cons (ze_lv (zl_lst (za_cons ze_str za_nil) (lenA_cons lenA_nil))) (za_cons ze_bl za_nil))))) (lenA_cons (lenA_cons (lenA_cons (lenA_cons (lenA_cons lenA_nil)))))))) (zg_nm sc_law.nd) (zb_one (zs_if (zt_not (zt_val (zd_call (ok__law_like T 19) 0 (G.room.mono (by decide)) (za_cons (zd_call (ok__law_read T) 0 (G.room.mono (by decide)) (za_cons (ze_var 3) za_nil)) (za_cons (ze_tup (za_cons ze_str (za_cons (ze_neg ze_int) za_nil)) (lenA_cons (lenA_cons lenA_nil))) za_nil))))) (zb_one (zs_ret ze_bl)) zb_nil)))
  (zb_one (zs_ret (ze_and (zd_call (ok__law_like T 19) 0 (G.room.mono (by decide)) (za_cons (zd_call (ok__law_read T) 0 (G.room.mono (by decide)) (za_cons (ze_mulS ze_str ze_int) za_nil)) (za_cons (ze_tup (za_cons ze_str (za_cons ze_int za_nil)) (lenA_cons (lenA_cons lenA_nil))) za_nil))) (ze_and (zd_call (ok__law_like T 19) 0 (G.room.mono (by decide)) (za_cons (zd_call (ok__law_read T) 0 (G.room.mono (by decide)) (za_cons (ze_mulS ze_str ze_int) za_nil)) (za_cons (ze_tup (za_cons ze_str (za_cons ze_int za_nil)) (lenA_cons (lenA_cons lenA_nil))) za_nil))) (ze_one (zd_call (ok__law_like T 19) 0 (G.room.mono (by decide)) (za_cons (zd_call (ok__law_read T) 0 (G.room.mono (by decide)) (za_cons ze_str za_nil)) (za_cons (ze_tup (za_cons ze_str (za_cons ze_int za_nil)) (lenA_cons (lenA_cons lenA_nil))) za_nil)))))))))))))) (fun ds S _ _ _ => Ref.same rfl)
theorem ok_law {P : Program} {w : World} {K : PySem.W.Frag} {mg : Str → Option Value} {base : Heap} (T : Tx P w K mg base) : Df P w K mg base "law" 21 1 (F_law (ad K)) dl_law := by
  obtain ⟨fd, fdd⟩ := T.d_law
  exact ⟨_, fd, _, fn_law T fdd, T.m_law, fdd.kp, (binds_none fdd fun _ _ _ _ _ _ us hl => match us, hl with | [_], _ => rfl)⟩
end Z.k67
namespace Z.k67
open PySem L2 Z
theorem facts {P : Program} {w : World} {K : PySem.W.Frag} {mg : Str → Option Value} {h : Heap} {fa : Addr} (X : K.In h) (G : h.Ns mainGlobals mg) (hfa : mg "law" = some (.ref fa)) (c : He.SaysD fa_k67 fn_k67 K) (e : (ex_k67 P K).all id = true) (h2 : hE_InvalidText K) :
    ∃ fd : FuncData, (∀ (s : Shared) (v : Value), BindsTo s fd ⟨[v], []⟩ [("script", v)]) ∧ ∀ base : Heap, K.In base → base.Ns mainGlobals mg → FnOk P w K mg base (L2.CX P w) 21 fa fd ["script"] (spI K 1 (F_law (ad K))) := by
  have T : ∀ base, Tx P w K mg base := fun base => tx_of X G c e h2
  obtain ⟨fd, fdd⟩ := (T h).d_law
  have q := (T h).m_law
  rw [hfa] at q
  cases q
  have b := FunD.bindsA (ps := ["script"]) fdd fun _ _ _ _ _ _ us hl => match us, hl with | [_], _ => rfl
  exact ⟨fd, fun s v => b s [v] rfl, fun base _ _ => fn_law (T base) fdd⟩
end Z.k67
open PySem PySem.W PySem.Calls PyProof.Rows
theorem PySem.Challenge.cw_wholestrokes_k67_whole_plain_values_as_t_holds : PySem.Challenge.rw_wholestrokes_k67_whole_plain_values_as_t.Holds := by
  refine hd67 ?_
  refine Z.walk_Z (l := PySem.Challenge.rw_wholestrokes_k67_whole_plain_values_as_t) (k := 21) (F := fun K => Z.k67.F_law (Z.k67.ad K)) rfl rfl ⟨rfl, by decide, by decide⟩ (fun w h Y => PySem.W.kIn_of Y) ?F (fun K ns h => Z.k67.law_true _ ns h)
  case F =>
    intro w mg fa h KX G hmg
    refine Z.k67.facts KX G hmg ?c ?e ?h2
    case e => kernel_rfl
    case c => show He.obsD _ _ _ = _; kernel_rfl
    case h2 => unfold Z.k67.hE_InvalidText; kernel_rfl
