import PyProof.Rows.All
import Wide.All
import OpenK.AllK
import Wide.FinOn
import HandS.ForMost
import HandS.More
import HandS.IsInst
import HandS.Flow
import HandS.TupAny
import HandS.Rev
import HandS.Style
import HandS.Codes
import HandS.Iter
import KE.KExcInit
import HandS.ExcInit
import HandS.ExcField
import HandS.ExcOwn
import HandS.Conv
import PySem.Challenge.RW_farlayout_k32_nodes_at_a_row
import KE.KExcLine
import KE.RegKTryMore
set_option Elab.async false
set_option linter.all false
set_option maxRecDepth 100000
namespace Mi
open PySem L2

/-! ### values, slots, the store -/
inductive IV where
  | non | bl (b : Bool) | int (i : Int) | str (x : Str)
  | tup (l : List IV) | fl (l : List IV) | fd
  | ref (i : Nat) | adr (a : Addr) | ty (n : String)
  | obj (c : Addr) (fs : List (Str × IV))
inductive SO where
  | lst (l : List IV) | ins (c : Addr) (fs : List (Str × IV))
inductive Slot where
  | emp | val (v : IV) | own (l : List IV) | ins (c : Addr) (fs : List (Str × IV))
structure S where
  env : List Slot
  sto : List SO
inductive Res (α : Type) where
  | ok (a : α) (s : S) | ex (c : Addr) (fs : List (Str × IV)) (s : S) | no
abbrev M (α : Type) := S → Res α
def M.bind {α β : Type} (m : M α) (k : α → M β) : M β := fun s => match m s with
  | .ok a s' => k a s'
  | .ex c fs s' => .ex c fs s'
  | .no => .no
def M.pure {α : Type} (a : α) : M α := fun s => .ok a s
def M.no {α : Type} : M α := fun _ => .no

/-! ### the view: what a value means in a heap -/
structure Vw where
  K : PySem.W.Frag
  H : Hp
  L : Addr → Prop
  ρ : List Addr
def KL (K : PySem.W.Frag) (a : Addr) (xs : List V) : Prop :=
  ∃ (o : Obj) (its : Array Value) (n : Nat), K.lookup a = some o ∧ o.cls = .type "list" ∧ o.dict = none ∧ o.data = .seq its n ∧ its.size ≤ sizeLine ∧ Vals xs its.toList
def KT (K : PySem.W.Frag) (a : Addr) (xs : List V) : Prop :=
  ∃ (o : Obj) (its : Array Value) (n : Nat), K.lookup a = some o ∧ o.cls = .type "tuple" ∧ o.data = .seq its n ∧ its.size ≤ sizeLine ∧ Vals xs its.toList
def FzL (w : Vw) (a : Addr) (xs : List V) : Prop := KL w.K a xs ∨ ∃ o, w.H a = some o ∧ (o = .lst xs ∨ ∃ b, o = .frz b (.lst xs)) ∧ ¬ w.L a
def FzT (w : Vw) (a : Addr) (xs : List V) : Prop := KT w.K a xs ∨ (∃ o, w.H a = some o ∧ (o = .tup xs ∨ ∃ b, o = .frz b (.tup xs)) ∧ ¬ w.L a)
theorem FzL.sq {w : Vw} {a : Addr} {xs : List V} (h : FzL w a xs) : SqL w.K w.H a xs := by
  rcases h with h | ⟨o, e, h | ⟨b, h⟩, _⟩
  · exact .inr h
  · subst h; exact .inl (.inl e)
  · subst h; exact .inl (.inr ⟨b, e⟩)
theorem FzT.sq {w : Vw} {a : Addr} {xs : List V} (h : FzT w a xs) : SqT w.K w.H a xs := by
  rcases h with h | ⟨o, e, h | ⟨b, h⟩, _⟩
  · exact .inr h
  · subst h; exact .inl (.inl e)
  · subst h; exact .inl (.inr ⟨b, e⟩)
mutual
inductive RepV (w : Vw) : V → IV → Prop where
  | non : RepV w .non .non
  | bl (b : Bool) : RepV w (.bl b) (.bl b)
  | int (i : Int) : RepV w (.int i) (.int i)
  | str (x : Str) : RepV w (.str x) (.str x)
  | tup {a : Addr} {xs : List V} {l : List IV} : FzT w a xs → RepL w xs l → RepV w (.ref a) (.tup l)
  | fl {a : Addr} {xs : List V} {l : List IV} : FzL w a xs → RepL w xs l → RepV w (.ref a) (.fl l)
  | fd {a : Addr} : w.H a = some (.dK []) → ¬ w.L a → RepV w (.ref a) .fd
  | ref {a : Addr} {i : Nat} : w.ρ[i]? = some a → RepV w (.ref a) (.ref i)
  | adr {a : Addr} : (∃ o, w.K.lookup a = some o) → RepV w (.ref a) (.adr a)
  | ty (n : String) : RepV w (.ty n) (.ty n)
  | obj {a c dx : Addr} {gs : List (Str × V)} {fs : List (Str × IV)} : w.H a = some (.ins c dx gs) → ¬ w.L a → RepF w gs fs → RepV w (.ref a) (.obj c fs)
inductive RepL (w : Vw) : List V → List IV → Prop where
  | nil : RepL w [] []
  | cons {v : V} {vs : List V} {x : IV} {l : List IV} : RepV w v x → RepL w vs l → RepL w (v :: vs) (x :: l)
inductive RepF (w : Vw) : List (Str × V) → List (Str × IV) → Prop where
  | nil : RepF w [] []
  | cons {n : Str} {v : V} {vs : List (Str × V)} {x : IV} {l : List (Str × IV)} : RepV w v x → RepF w vs l → RepF w ((n, v) :: vs) ((n, x) :: l)
end
structure Vw.Le (w w' : Vw) : Prop where
  k : w'.K = w.K
  pre : ∀ (i : Nat) (a : Addr), w.ρ[i]? = some a → w'.ρ[i]? = some a
  keep : ∀ a o, w.H a = some o → ¬ w.L a → w'.H a = some o ∧ ¬ w'.L a
theorem Vw.Le.refl (w : Vw) : w.Le w := ⟨rfl, fun _ _ h => h, fun _ _ h n => ⟨h, n⟩⟩
theorem Vw.Le.trans {w w1 w2 : Vw} (a : w.Le w1) (b : w1.Le w2) : w.Le w2 :=
  ⟨b.k.trans a.k, fun i x h => b.pre i x (a.pre i x h), fun x o h n => let ⟨h1, n1⟩ := a.keep x o h n; b.keep x o h1 n1⟩
theorem FzL.mono {w w' : Vw} {a : Addr} {xs : List V} (e : w.Le w') (h : FzL w a xs) : FzL w' a xs := by
  rcases h with h | ⟨o, h1, h2, h3⟩
  · exact .inl (by rw [e.k]; exact h)
  · exact .inr ⟨o, (e.keep a o h1 h3).1, h2, (e.keep a o h1 h3).2⟩
theorem FzT.mono {w w' : Vw} {a : Addr} {xs : List V} (e : w.Le w') (h : FzT w a xs) : FzT w' a xs := by
  rcases h with h | ⟨o, h1, h2, h3⟩
  · exact .inl (by rw [e.k]; exact h)
  · exact .inr ⟨o, (e.keep a o h1 h3).1, h2, (e.keep a o h1 h3).2⟩
mutual
theorem RepV.mono {w w' : Vw} (e : w.Le w') {v : V} {x : IV} : RepV w v x → RepV w' v x
  | .non => .non
  | .bl b => .bl b
  | .int i => .int i
  | .str x => .str x
  | .tup h l => .tup (h.mono e) (RepL.mono e l)
  | .fl h l => .fl (h.mono e) (RepL.mono e l)
  | .fd h n => .fd (e.keep _ _ h n).1 (e.keep _ _ h n).2
  | .ref h => .ref (e.pre _ _ h)
  | .adr h => .adr (by rw [e.k]; exact h)
  | .ty n => .ty n
  | .obj h n f => .obj (e.keep _ _ h n).1 (e.keep _ _ h n).2 (RepF.mono e f)
theorem RepL.mono {w w' : Vw} (e : w.Le w') {vs : List V} {l : List IV} : RepL w vs l → RepL w' vs l
  | .nil => .nil
  | .cons h t => .cons (RepV.mono e h) (RepL.mono e t)
theorem RepF.mono {w w' : Vw} (e : w.Le w') {vs : List (Str × V)} {l : List (Str × IV)} : RepF w vs l → RepF w' vs l
  | .nil => .nil
  | .cons h t => .cons (RepV.mono e h) (RepF.mono e t)
end
theorem RepL.length {w : Vw} : ∀ {vs : List V} {l : List IV}, RepL w vs l → vs.length = l.length
  | _, _, .nil => rfl
  | _, _, .cons _ t => by simp [RepL.length t]
theorem RepL.get {w : Vw} : ∀ {vs : List V} {l : List IV} {i : Nat} {x : IV}, RepL w vs l → l[i]? = some x → ∃ v, vs[i]? = some v ∧ RepV w v x
  | _, _, _, _, .nil, e => by simp at e
  | _, _, 0, _, .cons h _, e => by simp at e; subst e; exact ⟨_, rfl, h⟩
  | _, _, i + 1, x, .cons _ t, e => by
    obtain ⟨v, h1, h2⟩ := RepL.get (i := i) (x := x) t (by simpa using e)
    exact ⟨v, by simpa using h1, h2⟩
theorem RepL.get' {w : Vw} : ∀ {vs : List V} {l : List IV} {i : Nat} {v : V}, RepL w vs l → vs[i]? = some v → ∃ x, l[i]? = some x ∧ RepV w v x
  | _, _, _, _, .nil, e => by simp at e
  | _, _, 0, _, .cons h _, e => by simp at e; subst e; exact ⟨_, rfl, h⟩
  | _, _, i + 1, x, .cons _ t, e => by
    obtain ⟨v, h1, h2⟩ := RepL.get' (i := i) (v := x) t (by simpa using e)
    exact ⟨v, by simpa using h1, h2⟩
theorem RepL.append {w : Vw} : ∀ {vs us : List V} {l k : List IV}, RepL w vs l → RepL w us k → RepL w (vs ++ us) (l ++ k)
  | _, _, _, _, .nil, h => h
  | _, _, _, _, .cons h t, h' => .cons h (RepL.append t h')
theorem RepL.take {w : Vw} : ∀ {vs : List V} {l : List IV} (n : Nat), RepL w vs l → RepL w (vs.take n) (l.take n)
  | _, _, 0, _ => .nil
  | _, _, _ + 1, .nil => .nil
  | _, _, n + 1, .cons r t => .cons r (RepL.take n t)
theorem RepL.drop {w : Vw} : ∀ {vs : List V} {l : List IV} (n : Nat), RepL w vs l → RepL w (vs.drop n) (l.drop n)
  | _, _, 0, r => r
  | _, _, _ + 1, .nil => .nil
  | _, _, n + 1, .cons _ t => RepL.drop n t
theorem RepL.reverse {w : Vw} : ∀ {vs : List V} {l : List IV}, RepL w vs l → RepL w vs.reverse l.reverse
  | _, _, .nil => .nil
  | _, _, .cons r t => by simp only [List.reverse_cons]; exact (RepL.reverse t).append (.cons r .nil)
theorem RepL.set {w : Vw} {v : V} {x : IV} (r : RepV w v x) : ∀ {vs : List V} {l : List IV} (i : Nat), RepL w vs l → RepL w (vs.set i v) (l.set i x)
  | _, _, _, .nil => .nil
  | _, _, 0, .cons _ t => .cons r t
  | _, _, i + 1, .cons q t => .cons q (RepL.set r i t)
theorem RepL.dropLast {w : Vw} : ∀ {vs : List V} {l : List IV}, RepL w vs l → RepL w vs.dropLast l.dropLast := fun {vs l} h => by
  rw [List.dropLast_eq_take, List.dropLast_eq_take, h.length]; exact h.take _
theorem RepL.flat {w : Vw} {vs : List V} {l : List IV} (h : RepL w vs l) : ∀ n, RepL w (List.replicate n vs).flatten (List.replicate n l).flatten
  | 0 => .nil
  | n + 1 => by simp only [List.replicate_succ, List.flatten_cons]; exact h.append (RepL.flat h n)
theorem RepF.lookup {w : Vw} {n : Str} : ∀ {vs : List (Str × V)} {l : List (Str × IV)} {x : IV}, RepF w vs l → l.lookup n = some x → ∃ v, vs.lookup n = some v ∧ RepV w v x
  | _, _, _, .nil, e => by simp at e
  | _, _, x, .cons (n := m) h t, e => by
    rw [List.lookup_cons] at e ⊢
    cases q : n == m with
    | true => rw [q] at e; simp at e; subst e; exact ⟨_, rfl, h⟩
    | false => rw [q] at e; exact RepF.lookup t e
theorem RepF.lookupN {w : Vw} {n : Str} : ∀ {vs : List (Str × V)} {l : List (Str × IV)}, RepF w vs l → l.lookup n = none → vs.lookup n = none
  | _, _, .nil, _ => rfl
  | _, _, .cons (n := m) h t, e => by
    rw [List.lookup_cons] at e ⊢
    cases q : n == m with
    | true => rw [q] at e; simp at e
    | false => rw [q] at e; exact RepF.lookupN t e
theorem RepF.length {w : Vw} : ∀ {vs : List (Str × V)} {l : List (Str × IV)}, RepF w vs l → vs.length = l.length
  | _, _, .nil => rfl
  | _, _, .cons _ t => by simp [RepF.length t]
/-- putF for mirrors -/
def putI (f : Str) (v : IV) : List (Str × IV) → List (Str × IV)
  | [] => [(f, v)]
  | (g, u) :: r => if g = f then (g, v) :: r else (g, u) :: putI f v r

theorem RepF.putI {w : Vw} {n : Str} {v : V} {x : IV} (h : RepV w v x) : ∀ {vs : List (Str × V)} {l : List (Str × IV)}, RepF w vs l → RepF w (putF n v vs) (putI n x l)
  | _, _, .nil => .cons h .nil
  | _, _, .cons (n := m) q t => by
    unfold Mi.putI L2.putF
    split
    · exact .cons h t
    · exact .cons q (RepF.putI h t)

/-! ### the state's relation -/
structure Fx where
  K : PySem.W.Frag
  F : Addr → Prop
  w0 : Vw
  EX : Addr → List (Str × IV) → S → Prop
  me : Addr := 0
def Ow (σ : L2.St) (env : List Slot) (a : Addr) : Prop :=
  ∃ i : Nat, σ[i]? = some (some (.ref a)) ∧ ((∃ l, env[i]? = some (.own l)) ∨ ∃ c fs, env[i]? = some (.ins c fs))
def vw (Θ : Fx) (ρ : List Addr) (env : List Slot) (σ : L2.St) (H : Hp) : Vw := ⟨Θ.K, H, fun a => a ∈ ρ ∨ (Ow σ env a ∨ Θ.F a), ρ⟩
def SlotR (w : Vw) (o : Option (Option V)) : Slot → Prop
  | .emp => True
  | .val x => ∃ v, o = some (some v) ∧ RepV w v x
  | .own l => ∃ a vs, o = some (some (.ref a)) ∧ w.H a = some (.lst vs) ∧ RepL w vs l
  | .ins c fs => ∃ a dx gs, o = some (some (.ref a)) ∧ w.H a = some (.ins c dx gs) ∧ RepF w gs fs
def SOR (w : Vw) (a : Addr) : SO → Prop
  | .lst l => ∃ vs, w.H a = some (.lst vs) ∧ RepL w vs l
  | .ins c fs => ∃ dx gs, w.H a = some (.ins c dx gs) ∧ RepF w gs fs
structure StR (Θ : Fx) (ρ : List Addr) (s : S) (σ : L2.St) (H : Hp) : Prop where
  len : σ.length = s.env.length
  slen : ρ.length = s.sto.length
  slot : ∀ (i : Nat) (x : Slot), s.env[i]? = some x → SlotR (vw Θ ρ s.env σ H) σ[i]? x
  obj : ∀ (i : Nat) (a : Addr) (o : SO), ρ[i]? = some a → s.sto[i]? = some o → SOR (vw Θ ρ s.env σ H) a o
  nd : ∀ (i j : Nat) (a : Addr), ρ[i]? = some a → ρ[j]? = some a → i = j
  sep : ∀ a, Ow σ s.env a → a ∉ ρ
  one : ∀ (i j : Nat) (a : Addr), σ[i]? = some (some (.ref a)) → σ[j]? = some (some (.ref a)) →
    ((∃ l, s.env[i]? = some (.own l)) ∨ ∃ c fs, s.env[i]? = some (.ins c fs)) → ((∃ l, s.env[j]? = some (.own l)) ∨ ∃ c fs, s.env[j]? = some (.ins c fs)) → i = j
  fo : ∀ a, Θ.F a → (∃ o, H a = some o) ∧ a ∉ ρ ∧ ¬ Ow σ s.env a
  base : Vw.Le Θ.w0 (vw Θ ρ s.env σ H)
  fkeep : ∀ a o, Θ.F a → Θ.w0.H a = some o → H a = some o
  self : ∀ (i : Nat) (c : Addr) (fs : List (Str × IV)), s.env[i]? = some (.ins c fs) → σ[i]? = some (some (.ref Θ.me))
/-- from one state to a later one -/
structure Stp (Θ : Fx) (ρ : List Addr) (s : S) (σ : L2.St) (H : Hp) (ρ' : List Addr) (s' : S) (σ' : L2.St) (H' : Hp) : Prop where
  r : StR Θ ρ' s' σ' H'
  le : Vw.Le (vw Θ ρ s.env σ H) (vw Θ ρ' s'.env σ' H')
theorem StR.here {Θ : Fx} {ρ : List Addr} {s : S} {σ : L2.St} {H : Hp} (h : StR Θ ρ s σ H) : Stp Θ ρ s σ H ρ s σ H := ⟨h, .refl _⟩
theorem Stp.trans {Θ : Fx} {ρ ρ1 ρ2 : List Addr} {s s1 s2 : S} {σ σ1 σ2 : L2.St} {H H1 H2 : Hp} (a : Stp Θ ρ s σ H ρ1 s1 σ1 H1) (b : Stp Θ ρ1 s1 σ1 H1 ρ2 s2 σ2 H2) : Stp Θ ρ s σ H ρ2 s2 σ2 H2 := ⟨b.r, a.le.trans b.le⟩
def Out (Θ : Fx) {α : Type} (r : Res α) (Q : α → S → Prop) : Prop := match r with
  | .ok a s => Q a s
  | .ex c fs s => Θ.EX c fs s
  | .no => False
theorem Out.bind {Θ : Fx} {α β : Type} {m : M α} {k : α → M β} {s : S} {Q : β → S → Prop} (h : Out Θ (M.bind m k s) Q) : Out Θ (m s) fun a s' => Out Θ (k a s') Q := by
  unfold M.bind at h
  cases e : m s with
  | ok a s' => rw [e] at h; exact h
  | ex c fs s' => rw [e] at h; exact h
  | no => rw [e] at h; exact h
theorem Out.mono {Θ : Fx} {α : Type} {r : Res α} {Q Q' : α → S → Prop} (h : Out Θ r Q) (f : ∀ a s, Q a s → Q' a s) : Out Θ r Q' := by
  cases r with
  | ok a s => exact f a s h
  | ex c fs s => exact h
  | no => exact h
/-- a mirror as a reading -/
def tM (Θ : Fx) {α A : Type} (R : Vw → A → α → Prop) (m : M α) : L2.St → Hp → (A → Hp → Prop) → Prop := fun σ H Q =>
  ∃ ρ s, StR Θ ρ s σ H ∧ Out Θ (m s) fun x s' => ∀ ρ' H' a, Stp Θ ρ s σ H ρ' s' σ H' → R (vw Θ ρ' s'.env σ H') a x → Q a H'
abbrev tE (Θ : Fx) (m : M IV) : TE := tM Θ (A := V) RepV m
abbrev tT (Θ : Fx) (m : M Bool) : TT := tM Θ (A := Bool) (fun _ b x => b = x) m
abbrev tA (Θ : Fx) (m : M (List IV)) : TA := tM Θ (A := List V) RepL m
theorem tM.imp {Θ : Fx} {α A : Type} {R : Vw → A → α → Prop} {m : M α} {σ : L2.St} {H : Hp} {Q Q' : A → Hp → Prop} (h : tM Θ R m σ H Q) (f : ∀ a H', Q a H' → Q' a H') : tM Θ R m σ H Q' := by
  obtain ⟨ρ, s, r, o⟩ := h
  exact ⟨ρ, s, r, o.mono fun x s' q ρ' H' a st rr => f _ _ (q ρ' H' a st rr)⟩
/-- the first part of two -/
theorem tM.bind {Θ : Fx} {α β A B : Type} {R : Vw → A → α → Prop} {R2 : Vw → B → β → Prop} {m : M α} {k : α → M β} {σ : L2.St} {H : Hp} {Q : B → Hp → Prop} (h : tM Θ R2 (M.bind m k) σ H Q) :
    tM Θ R m σ H fun a H1 => ∃ ρ s x, StR Θ ρ s σ H1 ∧ R (vw Θ ρ s.env σ H1) a x ∧ Out Θ (k x s) fun y s' => ∀ ρ' H' b, Stp Θ ρ s σ H1 ρ' s' σ H' → R2 (vw Θ ρ' s'.env σ H') b y → Q b H' := by
  obtain ⟨ρ, s, r, o⟩ := h
  exact ⟨ρ, s, r, o.bind.mono fun x s' q ρ' H' a st rr => ⟨ρ', s', x, st.r, rr, q.mono fun y s2 q2 ρ2 H2 b st2 rb => q2 ρ2 H2 b (st.trans st2) rb⟩⟩
end Mi
set_option Elab.async false
set_option linter.all false
set_option maxRecDepth 100000
namespace Mi
open PySem L2

variable {Θ : Fx} {ρ ρ' : List Addr} {s s' : S} {σ σ' : L2.St} {H H' : Hp} {X : Cx}

theorem StR.tracked (r : StR Θ ρ s σ H) {a : Addr} (h : a ∈ ρ ∨ (Ow σ s.env a ∨ Θ.F a)) : ∃ o, H a = some o := by
  rcases h with h | ⟨i, h1, h2⟩ | h
  · obtain ⟨i, hi, e⟩ := List.mem_iff_getElem.mp h
    have e' : ρ[i]? = some a := List.getElem?_eq_some_iff.mpr ⟨hi, e⟩
    have hs : i < s.sto.length := by rw [← r.slen]; exact hi
    have q := r.obj i a s.sto[i] e' (by simp [hs])
    cases e2 : s.sto[i] with
    | lst l => rw [e2] at q; obtain ⟨vs, z, _⟩ := q; exact ⟨_, z⟩
    | ins c fs => rw [e2] at q; obtain ⟨dx, gs, z, _⟩ := q; exact ⟨_, z⟩
  · rcases h2 with ⟨l, e⟩ | ⟨c, fs, e⟩
    · obtain ⟨a', vs, z1, z2, _⟩ := r.slot i _ e
      rw [h1] at z1; cases z1; exact ⟨_, z2⟩
    · obtain ⟨a', dx, gs, z1, z2, _⟩ := r.slot i _ e
      rw [h1] at z1; cases z1; exact ⟨_, z2⟩
  · exact (r.fo a h).1
/-- the heap grows: all that is tracked stays -/
theorem StR.grow (r : StR Θ ρ s σ H) (k : ∀ a o, H a = some o → H' a = some o) : Stp Θ ρ s σ H ρ s σ H' := by
  have le : Vw.Le (vw Θ ρ s.env σ H) (vw Θ ρ s.env σ H') := ⟨rfl, fun _ _ h => h, fun a o h n => ⟨k a o h, n⟩⟩
  refine ⟨⟨r.len, r.slen, fun i x e => ?_, fun i a o e1 e2 => ?_, r.nd, r.sep, r.one, fun a h => ⟨(r.fo a h).1.imp fun o q => k a o q, (r.fo a h).2⟩, r.base.trans le, fun a o f q => k a o (r.fkeep a o f q), r.self⟩, le⟩
  · have q := r.slot i x e
    cases x with
    | emp => trivial
    | val v => obtain ⟨u, h1, h2⟩ := q; exact ⟨u, h1, h2.mono le⟩
    | own l => obtain ⟨a, vs, h1, h2, h3⟩ := q; exact ⟨a, vs, h1, k _ _ h2, h3.mono le⟩
    | ins c fs => obtain ⟨a, dx, gs, h1, h2, h3⟩ := q; exact ⟨a, dx, gs, h1, k _ _ h2, h3.mono le⟩
  · have q := r.obj i a o e1 e2
    cases o with
    | lst l => obtain ⟨vs, h2, h3⟩ := q; exact ⟨vs, k _ _ h2, h3.mono le⟩
    | ins c fs => obtain ⟨dx, gs, h2, h3⟩ := q; exact ⟨dx, gs, k _ _ h2, h3.mono le⟩
theorem StR.laid (r : StR Θ ρ s σ H) {p : Addr} {o : HO} (hp : H p = none) : Stp Θ ρ s σ H ρ s σ (upd H p o) ∧ ¬ (vw Θ ρ s.env σ (upd H p o)).L p :=
  ⟨r.grow fun a u e => by rw [upd_ne (ne_of_none e hp)]; exact e, fun h => by
    obtain ⟨u, e⟩ := r.tracked h
    rw [hp] at e; cases e⟩

/-! ### operations by values -/
def szl : Nat := 16000000
theorem szl_le : szl ≤ sizeLine := by rw [sizeLine_eq]; decide
theorem le_szl {n : Nat} (h : n ≤ szl) : n ≤ sizeLine := Nat.le_trans h szl_le
/-- what is wanted of a value that an operation hands back, the state as it was -/
def Back (Θ : Fx) (ρ : List Addr) (s : S) (σ : L2.St) (H : Hp) (z : IV) (Q : VK) : Prop := ∀ H' v, (∀ a o, H a = some o → H' a = some o) → RepV (vw Θ ρ s.env σ H') v z → Q v H'
theorem Back.now {z : IV} {Q : VK} (b : Back Θ ρ s σ H z Q) (r : StR Θ ρ s σ H) {v : V} (h : RepV (vw Θ ρ s.env σ H) v z) : Q v H := b H v (fun _ _ q => q) h
theorem grow_new {H : Hp} {p : Addr} {o : HO} (hp : H p = none) : ∀ a u, H a = some u → upd H p o a = some u := fun a u e => by rw [upd_ne (ne_of_none e hp)]; exact e
theorem Back.tup {l : List IV} {xs : List V} {Q : VK} {p : Addr} (b : Back Θ ρ s σ H (.tup l) Q) (r : StR Θ ρ s σ H) (hp : H p = none) (h : RepL (vw Θ ρ s.env σ H) xs l) : Q (.ref p) (upd H p (.tup xs)) :=
  let ⟨st, n⟩ := r.laid (o := .tup xs) hp
  b _ _ (grow_new hp) (.tup (.inr ⟨_, upd_same, .inl rfl, n⟩) (h.mono st.le))
theorem Back.fl {l : List IV} {xs : List V} {Q : VK} {p : Addr} (b : Back Θ ρ s σ H (.fl l) Q) (r : StR Θ ρ s σ H) (hp : H p = none) (h : RepL (vw Θ ρ s.env σ H) xs l) : Q (.ref p) (upd H p (.lst xs)) :=
  let ⟨st, n⟩ := r.laid (o := .lst xs) hp
  b _ _ (grow_new hp) (.fl (.inr ⟨_, upd_same, .inl rfl, n⟩) (h.mono st.le))
/-- a two-place operation that leaves the state -/
def OpS (Θ : Fx) (r : R2) (f : IV → IV → Option IV) : Prop := ∀ ρ s σ H x y xv yv z Q, StR Θ ρ s σ H → RepV (vw Θ ρ s.env σ H) xv x → RepV (vw Θ ρ s.env σ H) yv y → f x y = some z → Back Θ ρ s σ H z Q → r xv yv H Q
def UnS (Θ : Fx) (r : V → Hp → VK → Prop) (f : IV → Option IV) : Prop := ∀ ρ s σ H x xv z Q, StR Θ ρ s σ H → RepV (vw Θ ρ s.env σ H) xv x → f x = some z → Back Θ ρ s σ H z Q → r xv H Q
/-- a call of a built-in that leaves the state -/
def CaS (Θ : Fx) (r : List V → Hp → VK → Prop) (f : List IV → Option IV) : Prop := ∀ ρ s σ H xs vs z Q, StR Θ ρ s σ H → RepL (vw Θ ρ s.env σ H) vs xs → f xs = some z → Back Θ ρ s σ H z Q → r vs H Q
def M.opt {α : Type} (o : Option α) : M α := fun s => match o with
  | some a => .ok a s
  | none => .no
def mOp (f : IV → IV → Option IV) (a b : M IV) : M IV := M.bind a fun x => M.bind b fun y => M.opt (f x y)
def mUn (f : IV → Option IV) (a : M IV) : M IV := M.bind a fun x => M.opt (f x)
theorem Out.opt {α : Type} {o : Option α} {s : S} {Q : α → S → Prop} (h : Out Θ (M.opt o s) Q) : ∃ a, o = some a ∧ Q a s := by
  cases o with
  | some a => exact ⟨a, rfl, h⟩
  | none => exact h.elim
theorem tE_op {r : R2} {f : IV → IV → Option IV} (hr : OpS Θ r f) {ma mb : M IV} {Q : VK} (h : tE Θ (mOp f ma mb) σ H Q) : tOp r (tE Θ ma) (tE Θ mb) σ H Q := by
  refine (tM.bind (R := RepV) h).imp fun x H1 ⟨ρ1, s1, xi, r1, rx, o1⟩ => ?_
  refine ⟨ρ1, s1, r1, o1.bind.mono fun yi s2 q ρ2 H2 y st2 ry => ?_⟩
  obtain ⟨z, e, q⟩ := q.opt
  exact hr ρ2 s2 σ H2 xi yi x y z Q st2.r (rx.mono st2.le) ry e fun H3 v g rv => q ρ2 H3 v (st2.trans (st2.r.grow g)) rv
theorem tE_un {r : V → Hp → VK → Prop} {f : IV → Option IV} (hr : UnS Θ r f) {ma : M IV} {Q : VK} (h : tE Θ (mUn f ma) σ H Q) : tUn r (tE Θ ma) σ H Q := by
  refine (tM.bind (R := RepV) h).imp fun x H1 ⟨ρ1, s1, xi, r1, rx, o1⟩ => ?_
  obtain ⟨z, e, q⟩ := o1.opt
  exact hr ρ1 s1 σ H1 xi x z Q r1 rx e fun H3 v g rv => q ρ1 H3 v (r1.grow g) rv
theorem peLe {e : Expr} {t t' : TE} (h : PE X e t) (f : ∀ σ H Q, t' σ H Q → t σ H Q) : PE X e t' := ⟨fun pins s σ H Q I q => h.run pins s σ H Q I (f σ H Q q)⟩
theorem ptLe {e : Expr} {t t' : TT} (h : PT X e t) (f : ∀ σ H Q, t' σ H Q → t σ H Q) : PT X e t' := ⟨fun pins s σ H Q I q => h.run pins s σ H Q I (f σ H Q q)⟩
theorem paLe {e : List Expr} {t t' : TA} (h : PA X e t) (f : ∀ σ H Q, t' σ H Q → t σ H Q) : PA X e t' := ⟨fun pos pins s σ H Q I q => h.run pos pins s σ H Q I (f σ H Q q)⟩
theorem psLe {e : Stmt} {t t' : TS} (h : PS X e t) (f : ∀ D σ H, t' D σ H → t D σ H) : PS X e t' := ⟨fun pins s σ H D I q => h.run pins s σ H D I (f D σ H q)⟩
theorem pssLe {e : List Stmt} {t t' : TS} (h : PSs X e t) (f : ∀ D σ H, t' D σ H → t D σ H) : PSs X e t' := ⟨fun pins s σ H D I q => h.run pins s σ H D I (f D σ H q)⟩

section
variable {a b c : Expr} {ma mb mc : M IV} {pos : Pos}
theorem e_op {op : Operator} {r : R2} {f : IV → IV → Option IV} (ho : OpR X (binaryOp op) r) (hr : OpS Θ r f) (ha : PE X a (tE Θ ma)) (hb : PE X b (tE Θ mb)) : PE X (.BinOp a op b pos) (tE Θ (mOp f ma mb)) :=
  peLe (pe_op ho ha hb) fun _ _ _ h => tE_op hr h
theorem e_un {op : UnaryOp} {r : V → Hp → VK → Prop} {f : IV → Option IV} (ho : UnR X (unaryOp op) r) (hr : UnS Θ r f) (ha : PE X a (tE Θ ma)) : PE X (.UnaryOp op a pos) (tE Θ (mUn f ma)) :=
  peLe (pe_un ho ha) fun _ _ _ h => tE_un hr h
theorem e_cmp {op : CmpOp} {r : R2} {f : IV → IV → Option IV} (ho : OpR X (compareOp op) r) (hr : OpS Θ r f) (ha : PE X a (tE Θ ma)) (hb : PE X b (tE Θ mb)) (hm : behindInMarks op b = false) : PE X (.Compare a [op] [b] pos) (tE Θ (mOp f ma mb)) :=
  peLe (pe_cmpR ho ha hb hm) fun _ _ _ h => tE_op hr h
theorem e_ix {r : R2} {f : IV → IV → Option IV} (ho : IxR X r) (hr : OpS Θ r f) (ha : PE X a (tE Θ ma)) (hb : PE X b (tE Θ mb)) (hs : PlainIx b) : PE X (.Subscript a b pos) (tE Θ (mOp f ma mb)) :=
  peLe (pe_ix ho ha hb hs) fun _ _ _ h => tE_op hr h
end
theorem OpS.or {r r' : R2} {f f' : IV → IV → Option IV} (h : OpS Θ r f) (h' : OpS Θ r' f') : OpS Θ (fun x y H Q => r x y H Q ∨ r' x y H Q) (fun x y => (f x y).or (f' x y)) := by
  intro ρ s σ H x y xv yv z Q r rx ry e b
  dsimp only at e
  cases e1 : f x y with
  | some z' => rw [e1] at e; simp at e; subst e; exact .inl (h ρ s σ H x y xv yv _ Q r rx ry e1 b)
  | none => rw [e1] at e; simp at e; exact .inr (h' ρ s σ H x y xv yv _ Q r rx ry e b)
theorem CaS.or {r r' : List V → Hp → VK → Prop} {f f' : List IV → Option IV} (h : CaS Θ r f) (h' : CaS Θ r' f') : CaS Θ (fun x H Q => r x H Q ∨ r' x H Q) (fun x => (f x).or (f' x)) := by
  intro ρ s σ H x xv z Q r rx e b
  dsimp only at e
  cases e1 : f x with
  | some z' => rw [e1] at e; simp at e; subst e; exact .inl (h ρ s σ H x xv _ Q r rx e1 b)
  | none => rw [e1] at e; simp at e; exact .inr (h' ρ s σ H x xv _ Q r rx e b)
end Mi
set_option Elab.async false
set_option linter.all false
set_option maxRecDepth 100000
namespace Mi
open PySem L2 PyProof.Rows

variable {Θ : Fx} {ρ ρ' : List Addr} {s s' : S} {σ σ' : L2.St} {H H' : Hp} {X : Cx}

/-! ### lists that are read: the very object -/
theorem lstZ {X : Cx} {pins : List (Addr × Obj)} {σ : L2.St} {H : Hp} {s : Shared} {l : Addr} {xs : List V} (I : Inv X pins σ H s) (h : SqL X.K H l xs) :
    xs.length ≤ sizeLine ∧ ∃ (its : List Value) (n : Nat) (sl : Array (Option Value)), Vals xs its ∧ xs.length = its.length ∧ s.heap.get? l = some { cls := .type "list", dict := none, data := .seq its.toArray n, slots := sl } := by
  obtain ⟨its, r, ⟨⟨oc, od, odt, sl⟩, n, e, h1, h2, h3⟩, z⟩ := I.list h
  simp only at h1 h2 h3
  subst h1 h2 h3
  exact ⟨z, its, n, sl, r, r.length, e⟩
def rCatR (K : PySem.W.Frag) : R2 := fun x y H Q => ∃ l b xs zs, x = .ref l ∧ y = .ref b ∧ SqL K H l xs ∧ SqL K H b zs ∧ xs.length + zs.length ≤ sizeLine ∧ ∀ p, H p = none → Q (.ref p) (upd H p (.lst (xs ++ zs)))
theorem op_catR : OpR X (binaryOp .Add) (rCatR X.K) := by
  intro pins s σ H x y v u Q I rx ry h
  obtain ⟨l, b, xs, zs, rfl, rfl, hH, hB, hz, q⟩ := h
  cases rx
  cases ry
  obtain ⟨z, its, n, sl, r, hl, e⟩ := lstZ I hH
  obtain ⟨z2, its2, n2, sl2, r2, hl2, e2⟩ := lstZ I hB
  refine concat_meets ⟨_, e, rfl⟩ ⟨_, e2, rfl⟩ noFill_list_add seq_list_add PySem.F.slot_list_add PySem.F.entry_list_add (PySem.F.args_list_add_2 _ _) (PyProof.Rows.list_addW l b its.toArray its2.toArray n n2 none none sl sl2 (by rw [List.size_toArray, List.size_toArray]; omega)) ⟨e, e2, ?_⟩
  have ea : its.toArray ++ its2.toArray = (its ++ its2).toArray := by simp
  rw [ea]
  exact ⟨.ref _, _, I.lnew (t' := s.toks) (r.append r2) (by rw [List.length_append]; omega), rfl, q _ I.fresh⟩

/-! ### a + b -/
def addV : IV → IV → Option IV
  | .int i, .int j => some (.int (i + j))
  | .str a, .str b => if a.length + b.length ≤ szl then some (.str (a ++ b)) else none
  | .tup a, .tup b => if a.length + b.length ≤ szl then some (.tup (a ++ b)) else none
  | .fl a, .fl b => if a.length + b.length ≤ szl then some (.fl (a ++ b)) else none
  | _, _ => none
def rAddV (K : PySem.W.Frag) : R2 := fun x y H Q => (((∃ i j, x = .int i ∧ y = .int j ∧ Q (.int (i + j)) H) ∨ (∃ i j, x = .str i ∧ y = .str j ∧ i.length + j.length ≤ sizeLine ∧ Q (.str (i ++ j)) H)) ∨ rCatA K x y H Q) ∨ rCatR K x y H Q
theorem op_addV : OpR X (binaryOp .Add) (rAddV X.K) := ((op_add.or op_add_str).or op_catA).or op_catR
theorem nil_of_len {w : Vw} {xs : List V} {l : List IV} (h : RepL w xs l) : xs = [] → l = [] := fun e => by
  subst e; cases h; rfl
theorem addV_ok {K : PySem.W.Frag} (hK : Θ.K = K) : OpS Θ (rAddV K) addV := by
  intro ρ s σ H x y xv yv z Q r rx ry e b
  subst hK
  unfold addV at e
  split at e
  · cases rx; cases ry; cases e
    exact .inl (.inl (.inl ⟨_, _, rfl, rfl, b.now r (.int _)⟩))
  · cases rx; cases ry
    split at e
    · cases e; rename_i hz
      exact .inl (.inl (.inr ⟨_, _, rfl, rfl, le_szl hz, b.now r (.str _)⟩))
    · cases e
  · split at e
    · cases e; rename_i hz
      cases rx with | tup h1 l1 =>
      cases ry with | tup h2 l2 =>
      refine .inl (.inr ⟨_, _, _, _, rfl, rfl, h1.sq, h2.sq, by rw [l1.length, l2.length]; exact le_szl hz, fun e => ?_, fun _ e => ?_, fun _ _ p hp => b.tup r hp (l1.append l2)⟩)
      · have := nil_of_len l1 e; subst this
        exact b.now r (.tup h2 l2)
      · have := nil_of_len l2 e; subst this
        rw [List.append_nil] at b
        exact b.now r (.tup h1 l1)
    · cases e
  · split at e
    · cases e; rename_i hz
      cases rx with | fl h1 l1 =>
      cases ry with | fl h2 l2 =>
      exact .inr ⟨_, _, _, _, rfl, rfl, h1.sq, h2.sq, by rw [l1.length, l2.length]; exact le_szl hz, fun p hp => b.fl r hp (l1.append l2)⟩
    · cases e
  · cases e
section
variable {a b c : Expr} {ma mb mc : M IV} {pos : Pos}
theorem e_add (hK : Θ.K = X.K) (ha : PE X a (tE Θ ma)) (hb : PE X b (tE Θ mb)) : PE X (.BinOp a .Add b pos) (tE Θ (mOp addV ma mb)) := e_op op_addV (addV_ok hK) ha hb

/-! ### a - b, a % b, a // b, a ** b, a * b -/
def subV : IV → IV → Option IV
  | .int i, .int j => some (.int (i - j))
  | _, _ => none
theorem e_sub (ha : PE X a (tE Θ ma)) (hb : PE X b (tE Θ mb)) : PE X (.BinOp a .Sub b pos) (tE Θ (mOp subV ma mb)) :=
  e_op op_sub (fun ρ s σ H x y xv yv z Q r rx ry e b => by
    unfold subV at e
    split at e
    · cases rx; cases ry; cases e; exact ⟨_, _, rfl, rfl, b.now r (.int _)⟩
    · cases e) ha hb
def modV : IV → IV → Option IV
  | .int i, .int j => if 0 < j then some (.int (i % j)) else none
  | _, _ => none
theorem e_mod (ha : PE X a (tE Θ ma)) (hb : PE X b (tE Θ mb)) : PE X (.BinOp a .Mod b pos) (tE Θ (mOp modV ma mb)) :=
  e_op op_mod (fun ρ s σ H x y xv yv z Q r rx ry e b => by
    unfold modV at e
    split at e
    · split at e
      · cases rx; cases ry; cases e; rename_i h; exact ⟨_, _, rfl, rfl, h, b.now r (.int _)⟩
      · cases e
    · cases e) ha hb
def divV : IV → IV → Option IV
  | .int i, .int j => if 0 < j ∧ j < 1073741824 then some (.int (i / j)) else none
  | _, _ => none
theorem e_div (ha : PE X a (tE Θ ma)) (hb : PE X b (tE Θ mb)) : PE X (.BinOp a .FloorDiv b pos) (tE Θ (mOp divV ma mb)) :=
  e_op op_fdiv (fun ρ s σ H x y xv yv z Q r rx ry e b => by
    unfold divV at e
    split at e
    · split at e
      · cases rx; cases ry; cases e; rename_i h; exact ⟨_, _, rfl, rfl, h, b.now r (.int _)⟩
      · cases e
    · cases e) ha hb
def powV : IV → IV → Option IV
  | .int i, .int j => if 0 ≤ j ∧ j ≤ 1000 ∧ i.natAbs ≤ 1000 then some (.int (i ^ j.toNat)) else none
  | _, _ => none
theorem e_pow (ha : PE X a (tE Θ ma)) (hb : PE X b (tE Θ mb)) : PE X (.BinOp a .Pow b pos) (tE Θ (mOp powV ma mb)) :=
  e_op op_pow (fun ρ s σ H x y xv yv z Q r rx ry e b => by
    unfold powV at e
    split at e
    · split at e
      · cases rx; cases ry; cases e; rename_i h; exact ⟨_, _, rfl, rfl, ⟨h.1, by omega, Nat.lt_of_le_of_lt h.2.2 (by decide)⟩, b.now r (.int _)⟩
      · cases e
    · cases e) ha hb
end
end Mi
set_option Elab.async false
set_option linter.all false
set_option maxRecDepth 100000
namespace Mi
open PySem L2 PyProof.Rows

variable {Θ : Fx} {ρ ρ' : List Addr} {s s' : S} {σ σ' : L2.St} {H H' : Hp} {X : Cx}

/-! ### names, constants -/
def mVar (i : Nat) : M IV := fun s => match s.env[i]? with
  | some (.val v) => .ok v s
  | _ => .no
def mC (v : IV) : M IV := fun s => .ok v s
section
variable {a b c : Expr} {ma mb mc : M IV} {pos : Pos}
theorem tE_now {m : M IV} {x : IV} {Q : VK} (h : tE Θ m σ H Q) (e : ∀ ρ s, StR Θ ρ s σ H → Out Θ (m s) (fun y s' => ∀ ρ' H' a, Stp Θ ρ s σ H ρ' s' σ H' → RepV (vw Θ ρ' s'.env σ H') a y → Q a H') → ∃ v, Q v H) : ∃ v, Q v H := by
  obtain ⟨ρ, s, r, o⟩ := h
  exact e ρ s r o
theorem tE_var {i : Nat} {Q : VK} (h : tE Θ (mVar i) σ H Q) : tVar i σ H Q := by
  obtain ⟨ρ, s, r, o⟩ := h
  unfold mVar at o
  cases e : s.env[i]? with
  | none => rw [e] at o; exact o.elim
  | some x =>
    rw [e] at o
    cases x with
    | val v =>
      obtain ⟨u, h1, h2⟩ := r.slot i _ e
      exact ⟨u, h1, o ρ H u r.here h2⟩
    | _ => exact o.elim
theorem e_var (i : Nat) {x : Str} {pos : Pos} (hN : X.N[i]? = some x := by rfl) (hv : Vis X.env.scope x := by first | exact Or.inl rfl | exact Or.inr (Or.inl rfl) | exact Or.inr (Or.inr rfl)) (hd : (x == ("__debug__" : Str)) = false := by decide)
    (hcd : (x == ("__classdict__" : Str)) = false := by decide) : PE X (.Name x pos) (tE Θ (mVar i)) := peLe (pe_var hN hv hd hcd) fun _ _ _ h => tE_var h
theorem tE_C {v : V} {x : IV} {Q : VK} (rv : ∀ w, RepV w v x) (h : tE Θ (mC x) σ H Q) : tC v σ H Q := by
  obtain ⟨ρ, s, r, o⟩ := h
  exact o ρ H v r.here (rv _)
theorem e_int {i j pos} : PE X (.Constant (.int i) j pos) (tE Θ (mC (.int i))) := peLe pe_int fun _ _ _ h => tE_C (fun _ => .int _) h
theorem e_bl {i j pos} : PE X (.Constant (.bool i) j pos) (tE Θ (mC (.bl i))) := peLe pe_bl fun _ _ _ h => tE_C (fun _ => .bl _) h
theorem e_non {j pos} : PE X (.Constant .none j pos) (tE Θ (mC .non)) := peLe pe_non fun _ _ _ h => tE_C (fun _ => .non) h
theorem e_str {x j pos} : PE X (.Constant (.str x) j pos) (tE Θ (mC (.str x))) := peLe pe_str fun _ _ _ h => tE_C (fun _ => .str _) h
theorem negV_ok : UnS Θ (rU fun i => .int (-i)) (fun x => match x with | .int i => some (.int (-i)) | _ => none) := by
  intro ρ s σ H x xv z Q r rx e b
  dsimp only at e
  split at e
  · cases rx; cases e; exact ⟨_, rfl, b.now r (.int _)⟩
  · cases e
def negV : IV → Option IV := fun x => match x with | .int i => some (.int (-i)) | _ => none
theorem e_neg (ha : PE X a (tE Θ ma)) : PE X (.UnaryOp .USub a pos) (tE Θ (mUn negV ma)) := e_un un_neg negV_ok ha
/-- a module's constant, a class, a function -/
theorem e_glob {x : Str} {v : V} {u : Value} {xi : IV} (hg : Gl X x) (hm : X.mg x = some u) (r : RelV v u) (rv : ∀ w : Vw, w.K = X.K → RepV w v xi) (hK : Θ.K = X.K) (hd : (x == ("__debug__" : Str)) = false := by decide) : PE X (.Name x pos) (tE Θ (mC xi)) :=
  peLe (pe_glob hg hm r hd) fun σ H Q h => by
    obtain ⟨ρ, s, rr, o⟩ := h
    exact o ρ H v rr.here (rv _ hK)

/-! ### comparisons of ints, of texts -/
def cmpV (f : Int → Int → Bool) (g : Str → Str → Bool) : IV → IV → Option IV
  | .int i, .int j => some (.bl (f i j))
  | .str i, .str j => some (.bl (g i j))
  | _, _ => none
theorem cmpV_ok {f : Int → Int → Bool} {g : Str → Str → Bool} : OpS Θ (fun x y H Q => rI0 (fun i j => .bl (f i j)) x y H Q ∨ (∃ i j, x = .str i ∧ y = .str j ∧ Q (.bl (g i j)) H)) (cmpV f g) := by
  intro ρ s σ H x y xv yv z Q r rx ry e b
  unfold cmpV at e
  split at e
  · cases rx; cases ry; cases e; exact .inl ⟨_, _, rfl, rfl, b.now r (.bl _)⟩
  · cases rx; cases ry; cases e; exact .inr ⟨_, _, rfl, rfl, b.now r (.bl _)⟩
  · cases e
def ltV : IV → IV → Option IV := cmpV (fun i j => decide (i < j)) (fun i j => decide (i.cps.toList < j.cps.toList))
def leV : IV → IV → Option IV := cmpV (fun i j => decide (i ≤ j)) (fun i j => !decide (j.cps.toList < i.cps.toList))
def gtV : IV → IV → Option IV := cmpV (fun i j => decide (j < i)) (fun i j => decide (j.cps.toList < i.cps.toList))
def geV : IV → IV → Option IV := cmpV (fun i j => decide (j ≤ i)) (fun i j => !decide (i.cps.toList < j.cps.toList))
theorem op_ltV : OpR X (compareOp .Lt) (fun x y H Q => rI0 (fun i j => .bl (decide (i < j))) x y H Q ∨ (∃ i j, x = .str i ∧ y = .str j ∧ Q (.bl (decide (i.cps.toList < j.cps.toList))) H)) := op_lt.or op_lt_str
theorem op_leV : OpR X (compareOp .LtE) (fun x y H Q => rI0 (fun i j => .bl (decide (i ≤ j))) x y H Q ∨ (∃ i j, x = .str i ∧ y = .str j ∧ Q (.bl (!decide (j.cps.toList < i.cps.toList))) H)) := op_le.or op_le_str
theorem op_gtV : OpR X (compareOp .Gt) (fun x y H Q => rI0 (fun i j => .bl (decide (j < i))) x y H Q ∨ (∃ i j, x = .str i ∧ y = .str j ∧ Q (.bl (decide (j.cps.toList < i.cps.toList))) H)) := op_gt.or op_gt_str
theorem op_geV : OpR X (compareOp .GtE) (fun x y H Q => rI0 (fun i j => .bl (decide (j ≤ i))) x y H Q ∨ (∃ i j, x = .str i ∧ y = .str j ∧ Q (.bl (!decide (i.cps.toList < j.cps.toList))) H)) := op_ge.or op_ge_str

/-! ### is None -/
def isNB : IV → Bool
  | .non => true
  | _ => false
def isNV (x y : IV) : Option IV := match y with | .non => some (.bl (isNB x)) | _ => none
def notNV (x y : IV) : Option IV := match y with | .non => some (.bl (!isNB x)) | _ => none
theorem isN_of {w : Vw} {v : V} {x : IV} (h : RepV w v x) : decide (v = V.non) = isNB x := by
  cases h <;> simp [isNB]
theorem isNV_ok : OpS Θ (fun x y H Q => y = .non ∧ Q (.bl (decide (x = .non))) H) isNV := by
  intro ρ s σ H x y xv yv z Q r rx ry e b
  unfold isNV at e
  split at e
  · cases ry; cases e; exact ⟨rfl, by rw [isN_of rx]; exact b.now r (.bl _)⟩
  · cases e
theorem notNV_ok : OpS Θ (fun x y H Q => y = .non ∧ Q (.bl (!decide (x = .non))) H) notNV := by
  intro ρ s σ H x y xv yv z Q r rx ry e b
  unfold notNV at e
  split at e
  · cases ry; cases e; exact ⟨rfl, by rw [isN_of rx]; exact b.now r (.bl _)⟩
  · cases e

/-! ### == -/
mutual
def IV.pd : IV → Option PyData
  | .non => some .none
  | .bl b => some (.bool b)
  | .int i => some (.int i)
  | .str x => some (.str x)
  | .tup l => (pdL l).map .tuple
  | .fl l => (pdL l).map .list
  | _ => none
def pdL : List IV → Option (List PyData)
  | [] => some []
  | x :: r => match x.pd, pdL r with
    | some d, some ds => some (d :: ds)
    | _, _ => none
end
mutual
theorem pd_ok {w : Vw} : ∀ {x : IV} {v : V} {d : PyData}, RepV w v x → x.pd = some d → Dp w.K w.H v d
  | .non, _, _, .non, e => by cases e; exact .non
  | .bl b, _, _, .bl _, e => by cases e; exact .bl b
  | .int b, _, _, .int _, e => by cases e; exact .int b
  | .str b, _, _, .str _, e => by cases e; exact .str b
  | .tup l, _, d, .tup h1 h2, e => by
    unfold IV.pd at e
    cases q : pdL l with
    | none => rw [q] at e; cases e
    | some ds => rw [q] at e; cases e; exact .tup h1.sq (pdL_ok h2 q)
  | .fl l, _, d, .fl h1 h2, e => by
    unfold IV.pd at e
    cases q : pdL l with
    | none => rw [q] at e; cases e
    | some ds => rw [q] at e; cases e; exact .lst h1.sq (pdL_ok h2 q)
  | .fd, _, _, _, e => by simp [IV.pd] at e
  | .ref _, _, _, _, e => by simp [IV.pd] at e
  | .adr _, _, _, _, e => by simp [IV.pd] at e
  | .ty _, _, _, _, e => by simp [IV.pd] at e
  | .obj _ _, _, _, _, e => by simp [IV.pd] at e
theorem pdL_ok {w : Vw} : ∀ {l : List IV} {vs : List V} {ds : List PyData}, RepL w vs l → pdL l = some ds → DpAll w.K w.H vs ds
  | [], _, _, .nil, e => by cases e; exact .nil
  | x :: r, _, ds, .cons h t, e => by
    unfold pdL at e
    cases q1 : x.pd with
    | none => rw [q1] at e; simp at e
    | some d =>
      rw [q1] at e
      cases q2 : pdL r with
      | none => rw [q2] at e; simp at e
      | some ds' => rw [q2] at e; simp at e; subst e; exact .cons (pd_ok h q1) (pdL_ok t q2)
end
def eqB : IV → IV → Option Bool
  | .int a, .int b => some (a == b)
  | .str a, .str b => some (a == b)
  | .bl a, .bl b => some (a == b)
  | .non, .non => some true
  | x, y => match x.pd, y.pd with
    | some d, some e => if SeqAt.shaped d = true ∧ SeqAt.shaped e = true then some (PyData.eqv d e) else none
    | _, _ => none
def eqV (x y : IV) : Option IV := (eqB x y).map .bl
def neV (x y : IV) : Option IV := (eqB x y).map fun b => .bl (!b)
def rEqV' (K : PySem.W.Frag) : R2 := fun x y H Q => rEq x y H Q ∨ rEqD K x y H Q
def rNeV' (K : PySem.W.Frag) : R2 := fun x y H Q => rNe x y H Q ∨ rNeD K x y H Q
theorem eqB_ok {K : PySem.W.Frag} {w : Vw} (hK : w.K = K) {x y : IV} {v u : V} (rx : RepV w v x) (ry : RepV w u y) {b : Bool} (e : eqB x y = some b) :
    (scal v u = true ∧ decide (v = u) = b) ∨ ∃ d d', Dp K w.H v d ∧ Dp K w.H u d' ∧ SeqAt.shaped d = true ∧ SeqAt.shaped d' = true ∧ PyData.eqv d d' = b := by
  subst hK
  unfold eqB at e
  split at e
  · cases rx; cases ry; cases e; exact .inl ⟨rfl, dec_int⟩
  · cases rx; cases ry; cases e; exact .inl ⟨rfl, dec_str⟩
  · cases rx; cases ry; cases e; exact .inl ⟨rfl, dec_bl⟩
  · cases rx; cases ry; cases e; exact .inl ⟨rfl, by simp⟩
  · split at e
    · split at e
      · rename_i d d' q1 q2 sh
        cases e
        exact .inr ⟨d, d', pd_ok rx q1, pd_ok ry q2, sh.1, sh.2, rfl⟩
      · cases e
    · cases e
theorem eqV_ok {K : PySem.W.Frag} (hK : Θ.K = K) : OpS Θ (rEqV' K) eqV := by
  intro ρ s σ H x y xv yv z Q r rx ry e b
  unfold eqV at e
  cases q : eqB x y with
  | none => rw [q] at e; cases e
  | some k =>
    rw [q] at e; cases e
    rcases eqB_ok (K := K) hK rx ry q with ⟨h1, h2⟩ | ⟨d, d', h1, h2, h3, h4, h5⟩
    · exact .inl ⟨h1, by rw [h2]; exact b.now r (.bl _)⟩
    · exact .inr ⟨d, d', h1, h2, h3, h4, by rw [h5]; exact b.now r (.bl _)⟩
theorem neV_ok {K : PySem.W.Frag} (hK : Θ.K = K) : OpS Θ (rNeV' K) neV := by
  intro ρ s σ H x y xv yv z Q r rx ry e b
  unfold neV at e
  cases q : eqB x y with
  | none => rw [q] at e; cases e
  | some k =>
    rw [q] at e; cases e
    rcases eqB_ok (K := K) hK rx ry q with ⟨h1, h2⟩ | ⟨d, d', h1, h2, h3, h4, h5⟩
    · exact .inl ⟨h1, by rw [h2]; exact b.now r (.bl _)⟩
    · exact .inr ⟨d, d', h1, h2, h3, h4, by rw [h5]; exact b.now r (.bl _)⟩
theorem op_eqV' (hu : X.A.units + 64 < cLine) : OpR X (compareOp .Eq) (rEqV' X.K) := op_eq.or (op_eqD hu)
theorem op_neV' (hu : X.A.units + 64 < cLine) : OpR X (compareOp .NotEq) (rNeV' X.K) := op_ne.or (op_neD hu)

/-! ### x in a flat list or tuple -/
def flatI : IV → Bool
  | .non | .bl _ | .int _ | .str _ => true
  | _ => false
def eqI : IV → IV → Bool
  | .non, .non => true
  | .bl a, .bl b => a == b
  | .bl a, .int b => (if a then 1 else 0) == b
  | .int a, .bl b => a == (if b then 1 else 0)
  | .int a, .int b => a == b
  | .str a, .str b => a == b
  | _, _ => false
theorem flat_of {w : Vw} {v : V} {x : IV} (h : RepV w v x) (f : flatI x = true) : flatV v = true := by
  cases h <;> first | rfl | (exact absurd (show false = true from f) Bool.false_ne_true)
theorem flat_all {w : Vw} : ∀ {vs : List V} {l : List IV}, RepL w vs l → l.all flatI = true → vs.all flatV = true
  | _, _, .nil, _ => rfl
  | _, _, .cons h t, f => by
    simp only [List.all_cons, Bool.and_eq_true] at f ⊢
    exact ⟨flat_of h f.1, flat_all t f.2⟩
theorem eqI_of {w : Vw} {v u : V} {x y : IV} (h : RepV w v x) (h' : RepV w u y) (f : flatI x = true) (f' : flatI y = true) : L2.eqV v u = eqI x y := by
  cases h <;> first | (exact absurd (show false = true from f) Bool.false_ne_true) | (cases h' <;> first | rfl | (exact absurd (show false = true from f') Bool.false_ne_true))
theorem inI_of {w : Vw} {u : V} {y : IV} (h' : RepV w u y) (f' : flatI y = true) : ∀ {vs : List V} {l : List IV}, RepL w vs l → l.all flatI = true → inV u vs = l.any (fun x => eqI x y)
  | _, _, .nil, _ => rfl
  | _, _, .cons h t, f => by
    simp only [List.all_cons, Bool.and_eq_true] at f
    have := inI_of h' f' t f.2
    unfold inV at this ⊢
    rw [List.any_cons, List.any_cons, this, eqI_of h h' f.1 f']
def inB : IV → IV → Option Bool
  | x, .tup l => if flatI x = true ∧ l.all flatI = true then some (l.any fun y => eqI y x) else none
  | x, .fl l => if flatI x = true ∧ l.all flatI = true then some (l.any fun y => eqI y x) else none
  | _, _ => none
def inV' (x y : IV) : Option IV := (inB x y).map .bl
def ninV' (x y : IV) : Option IV := (inB x y).map fun b => .bl (!b)
theorem inB_ok {K : PySem.W.Frag} {w : Vw} (hK : w.K = K) {x y : IV} {v u : V} (rx : RepV w v x) (ry : RepV w u y) {b : Bool} (e : inB x y = some b) :
    ∃ p xs, u = .ref p ∧ (SqL K w.H p xs ∨ SqT K w.H p xs) ∧ flatV v = true ∧ xs.all flatV = true ∧ inV v xs = b := by
  subst hK
  unfold inB at e
  split at e
  · split at e
    · rename_i h; cases e
      cases ry with | tup h1 l1 =>
      exact ⟨_, _, rfl, .inr h1.sq, flat_of rx h.1, flat_all l1 h.2, inI_of rx h.1 l1 h.2⟩
    · cases e
  · split at e
    · rename_i h; cases e
      cases ry with | fl h1 l1 =>
      exact ⟨_, _, rfl, .inl h1.sq, flat_of rx h.1, flat_all l1 h.2, inI_of rx h.1 l1 h.2⟩
    · cases e
  · cases e
theorem inV_ok {K : PySem.W.Frag} (hK : Θ.K = K) : OpS Θ (rIn K false) inV' := by
  intro ρ s σ H x y xv yv z Q r rx ry e b
  unfold inV' at e
  cases q : inB x y with
  | none => rw [q] at e; cases e
  | some k =>
    rw [q] at e; cases e
    obtain ⟨p, xs, h1, h2, h3, h4, h5⟩ := inB_ok (K := K) hK rx ry q
    exact ⟨p, xs, h1, h2, h3, h4, by rw [if_neg Bool.false_ne_true, h5]; exact b.now r (.bl _)⟩
theorem ninV_ok {K : PySem.W.Frag} (hK : Θ.K = K) : OpS Θ (rIn K true) ninV' := by
  intro ρ s σ H x y xv yv z Q r rx ry e b
  unfold ninV' at e
  cases q : inB x y with
  | none => rw [q] at e; cases e
  | some k =>
    rw [q] at e; cases e
    obtain ⟨p, xs, h1, h2, h3, h4, h5⟩ := inB_ok (K := K) hK rx ry q
    exact ⟨p, xs, h1, h2, h3, h4, by rw [if_pos rfl, h5]; exact b.now r (.bl _)⟩
end
end Mi
set_option Elab.async false
set_option linter.all false
set_option maxRecDepth 100000
namespace Mi
open PySem L2 PyProof.Rows

variable {Θ : Fx} {ρ ρ' : List Addr} {s s' : S} {σ σ' : L2.St} {H H' : Hp} {X : Cx}

/-! ### tests -/
def boolOf : IV → M Bool
  | .bl b => M.pure b
  | _ => M.no
def mTst (m : M IV) : M Bool := M.bind m boolOf
def mIfB {α : Type} (t : M Bool) (a b : M α) : M α := M.bind t fun c => if c = true then a else b
def mNotT (t : M Bool) : M Bool := M.bind t fun c => M.pure (!c)
def mAndT (t u : M Bool) : M Bool := mIfB t u (M.pure false)
def mOrT (t u : M Bool) : M Bool := mIfB t (M.pure true) u
def mIfE (t : M Bool) (a b : M IV) : M IV := mIfB t a b
def mAndV (a b : M IV) : M IV := M.bind (mTst a) fun c => if c = true then b else M.pure (.bl false)
def mOrV (a b : M IV) : M IV := M.bind (mTst a) fun c => if c = true then M.pure (.bl true) else b
def mNotV (a : M IV) : M IV := M.bind (mTst a) fun c => M.pure (.bl (!c))
theorem Out.boolOf {x : IV} {Q : Bool → S → Prop} (h : Out Θ (boolOf x s) Q) : ∃ b, x = .bl b ∧ Q b s := by
  cases x <;> first | exact ⟨_, rfl, h⟩ | exact h.elim
theorem tst_of {t : TE} {m : M IV} {Q : Bool → Hp → Prop} (h : tT Θ (mTst m) σ H Q) (f : ∀ Q', tE Θ m σ H Q' → t σ H Q') : t σ H fun x H1 => ∃ k, x = .bl k ∧ Q k H1 := by
  refine f _ ((tM.bind (R := RepV) h).imp fun x H1 ⟨ρ1, s1, xi, r1, rx, o1⟩ => ?_)
  obtain ⟨b, e, q⟩ := o1.boolOf
  subst e
  cases rx
  exact ⟨b, rfl, q ρ1 H1 b r1.here rfl⟩
section
variable {a b c : Expr} {ma mb mc : M IV} {pos : Pos} {ta tb : M Bool}
theorem t_val (h : PE X a (tE Θ ma)) (he : ∀ whole, isTrue a X.env whole = (do let v ← whole; standAt a.pos; holding [v] (truthy v)) := by intro _; rfl) : PT X a (tT Θ (mTst ma)) :=
  ptLe (pt_val h he) fun σ H Q q => tst_of q fun _ z => z
theorem t_cmp {op : CmpOp} {r : R2} {f : IV → IV → Option IV} (ho : OpR X (compareOp op) r) (hr : OpS Θ r f) (ha : PE X a (tE Θ ma)) (hb : PE X b (tE Θ mb)) (hm : behindInMarks op b = false) : PT X (.Compare a [op] [b] pos) (tT Θ (mTst (mOp f ma mb))) :=
  ptLe (pt_cmpR ho ha hb hm) fun σ H Q q => tst_of q fun _ z => tE_op hr z
/-- a op b op' c -/
def mChain (f g : IV → IV → Option IV) (ma mb mc : M IV) : M IV := M.bind ma fun x => M.bind mb fun y => M.bind (M.opt (f x y)) fun z => match z with
  | .bl true => M.bind mc fun u => M.opt (g y u)
  | .bl false => M.pure (.bl false)
  | _ => M.no
theorem tE_chain {r r' : R2} {f g : IV → IV → Option IV} (hr : OpS Θ r f) (hr' : OpS Θ r' g) {Q : VK} (h : tE Θ (mChain f g ma mb mc) σ H Q) : tChain r r' (tE Θ ma) (tE Θ mb) (tE Θ mc) σ H Q := by
  refine (tM.bind (R := RepV) h).imp fun x H1 ⟨ρ1, s1, xi, r1, rx, o1⟩ => ?_
  refine ⟨ρ1, s1, r1, o1.bind.mono fun yi s2 q ρ2 H2 y st2 ry => ?_⟩
  have q := q.bind
  obtain ⟨z, e, q⟩ := q.opt
  refine hr ρ2 s2 σ H2 xi yi x y z _ st2.r (rx.mono st2.le) ry e fun H3 v g3 rv => ?_
  have st3 := st2.r.grow g3
  cases z with
  | bl k =>
    cases rv
    refine ⟨k, rfl, ?_⟩
    cases k with
    | true =>
      rw [if_pos rfl]
      refine ⟨ρ2, s2, st3.r, q.bind.mono fun ui s4 q4 ρ4 H4 u st4 ru => ?_⟩
      obtain ⟨z', e', q4⟩ := q4.opt
      exact hr' ρ4 s4 σ H4 yi ui y u z' Q st4.r ((ry.mono st3.le).mono st4.le) ru e' fun H5 v g5 rv => q4 ρ4 H5 v ((st2.trans (st3.trans st4)).trans (st4.r.grow g5)) rv
    | false =>
      rw [if_neg Bool.false_ne_true]
      exact q ρ2 H3 _ (st2.trans st3) (.bl _)
  | _ => exact q.elim
theorem e_chain {op op' : CmpOp} {r r' : R2} {f g : IV → IV → Option IV} (ho : OpR X (compareOp op) r) (hr : OpS Θ r f) (ho' : OpR X (compareOp op') r') (hr' : OpS Θ r' g) (ha : PE X a (tE Θ ma)) (hb : PE X b (tE Θ mb)) (hc : PE X c (tE Θ mc))
    (hm : lastMarks [op, op'] [b, c] = false := by with_unfolding_all rfl) : PE X (.Compare a [op, op'] [b, c] pos) (tE Θ (mChain f g ma mb mc)) := peLe (pe_chain ho ho' ha hb hc hm) fun _ _ _ h => tE_chain hr hr' h
theorem t_chain {op op' : CmpOp} {r r' : R2} {f g : IV → IV → Option IV} (ho : OpR X (compareOp op) r) (hr : OpS Θ r f) (ho' : OpR X (compareOp op') r') (hr' : OpS Θ r' g) (ha : PE X a (tE Θ ma)) (hb : PE X b (tE Θ mb)) (hc : PE X c (tE Θ mc))
    (hm : lastMarks [op, op'] [b, c] = false := by with_unfolding_all rfl) : PT X (.Compare a [op, op'] [b, c] pos) (tT Θ (mTst (mChain f g ma mb mc))) := ptLe (pt_chain ho ho' ha hb hc hm) fun σ H Q q => tst_of q fun _ z => tE_chain hr hr' z
/-- a branch by a test -/
theorem tM.ifB {α A : Type} {R : Vw → A → α → Prop} {t : M Bool} {ma mb : M α} {Q : A → Hp → Prop} (h : tM Θ R (mIfB t ma mb) σ H Q) : tT Θ t σ H fun c H1 => if c = true then tM Θ R ma σ H1 Q else tM Θ R mb σ H1 Q := by
  refine (tM.bind (R := fun _ b x => b = x) h).imp fun c H1 ⟨ρ1, s1, xi, r1, rx, o1⟩ => ?_
  subst rx
  cases c with
  | true => rw [if_pos rfl]; exact ⟨ρ1, s1, r1, o1⟩
  | false => rw [if_neg Bool.false_ne_true]; exact ⟨ρ1, s1, r1, o1⟩
theorem pureT {x : Bool} {Q : Bool → Hp → Prop} (h : tT Θ (M.pure x) σ H Q) : Q x H := by
  obtain ⟨ρ, s, r, o⟩ := h
  exact o ρ H x r.here rfl
theorem t_not (ha : PT X a (tT Θ ta)) : PT X (.UnaryOp .Not a pos) (tT Θ (mNotT ta)) := ptLe (pt_not ha) fun σ H Q q => by
  refine (tM.bind (R := fun _ b x => b = x) q).imp fun c H1 ⟨ρ1, s1, xi, r1, rx, o1⟩ => ?_
  subst rx
  exact o1 ρ1 H1 _ r1.here rfl
theorem pwLe {e : Expr} {t t' : TT} (h : PW X e t) (f : ∀ σ H Q, t' σ H Q → t σ H Q) : PW X e t' := ⟨fun wh pins s σ H Q I q => h.run wh pins s σ H Q I (f σ H Q q)⟩
theorem w_and1 (ha : PT X a (tT Θ ta)) : PW X (.BoolOp .And [a] pos) (tT Θ ta) := pw_and1 ha
theorem w_or1 (ha : PT X a (tT Θ ta)) : PW X (.BoolOp .Or [a] pos) (tT Θ ta) := pw_or1 ha
theorem w_and {rest : List Expr} (ha : PT X a (tT Θ ta)) (hb : PW X (.BoolOp .And (b :: rest) pos) (tT Θ tb)) : PW X (.BoolOp .And (a :: b :: rest) pos) (tT Θ (mAndT ta tb)) :=
  pwLe (pw_and ha hb) fun σ H Q q => (tM.ifB q).imp fun c H1 h => by
    cases c with
    | true => rw [if_pos rfl] at h ⊢; exact h
    | false => rw [if_neg Bool.false_ne_true] at h ⊢; exact pureT h
theorem w_or {rest : List Expr} (ha : PT X a (tT Θ ta)) (hb : PW X (.BoolOp .Or (b :: rest) pos) (tT Θ tb)) : PW X (.BoolOp .Or (a :: b :: rest) pos) (tT Θ (mOrT ta tb)) :=
  pwLe (pw_or ha hb) fun σ H Q q => (tM.ifB q).imp fun c H1 h => by
    cases c with
    | true => rw [if_pos rfl] at h ⊢; exact pureT h
    | false => rw [if_neg Bool.false_ne_true] at h ⊢; exact h
theorem e_ifExp (hc : PT X c (tT Θ ta)) (ha : PE X a (tE Θ ma)) (hb : PE X b (tE Θ mb)) : PE X (.IfExp c a b pos) (tE Θ (mIfE ta ma mb)) := peLe (pe_ifExp hc ha hb) fun σ H Q q => tM.ifB q
theorem e_one {op} (ha : PE X a (tE Θ ma)) : PE X (.BoolOp op [a] pos) (tE Θ ma) := pe_one ha
theorem tE_boolV {m : M IV} {k : Bool → M IV} {Q : VK} (h : tE Θ (M.bind (mTst m) k) σ H Q) : tE Θ m σ H fun x H1 => ∃ c, x = .bl c ∧ tE Θ (k c) σ H1 Q := by
  have e : M.bind (mTst m) k = M.bind m fun x => M.bind (boolOf x) k := by
    funext s
    show M.bind (M.bind m boolOf) k s = M.bind m (fun x => M.bind (boolOf x) k) s
    unfold M.bind
    cases m s <;> rfl
  rw [e] at h
  refine (tM.bind (R := RepV) h).imp fun x H1 ⟨ρ1, s1, xi, r1, rx, o1⟩ => ?_
  obtain ⟨b, e, q⟩ := o1.bind.boolOf
  subst e
  cases rx
  exact ⟨b, rfl, ρ1, s1, r1, q⟩
theorem pureE {x : IV} {v : V} {Q : VK} (h : tE Θ (M.pure x) σ H Q) (rv : ∀ w, RepV w v x) : Q v H := by
  obtain ⟨ρ, s, r, o⟩ := h
  exact o ρ H v r.here (rv _)
theorem e_and {rest : List Expr} (ha : PE X a (tE Θ ma)) (hb : PE X (.BoolOp .And (b :: rest) pos) (tE Θ mb)) : PE X (.BoolOp .And (a :: b :: rest) pos) (tE Θ (mAndV ma mb)) :=
  peLe (pe_and ha hb) fun σ H Q q => (tE_boolV q).imp fun x H1 ⟨c, e, h⟩ => ⟨c, e, by
    cases c with
    | true => rw [if_pos rfl] at h ⊢; exact h
    | false => rw [if_neg Bool.false_ne_true] at h ⊢; exact pureE h fun _ => .bl _⟩
theorem e_or {rest : List Expr} (ha : PE X a (tE Θ ma)) (hb : PE X (.BoolOp .Or (b :: rest) pos) (tE Θ mb)) : PE X (.BoolOp .Or (a :: b :: rest) pos) (tE Θ (mOrV ma mb)) :=
  peLe (pe_or ha hb) fun σ H Q q => (tE_boolV q).imp fun x H1 ⟨c, e, h⟩ => ⟨c, e, by
    cases c with
    | true => rw [if_pos rfl] at h ⊢; exact pureE h fun _ => .bl _
    | false => rw [if_neg Bool.false_ne_true] at h ⊢; exact h⟩
theorem e_not (ha : PE X a (tE Θ ma)) : PE X (.UnaryOp .Not a pos) (tE Θ (mNotV ma)) :=
  peLe (pe_not ha) fun σ H Q q => (tE_boolV q).imp fun x H1 ⟨c, e, h⟩ => ⟨c, e, pureE h fun _ => .bl _⟩

/-! ### arguments, displays -/
def mNil : M (List IV) := M.pure []
def mCons (m : M IV) (r : M (List IV)) : M (List IV) := M.bind m fun x => M.bind r fun l => M.pure (x :: l)
variable {es : List Expr} {mr : M (List IV)}
theorem a_nil : PA X [] (tA Θ mNil) := paLe pa_nil fun σ H Q ⟨ρ, s, r, o⟩ => o ρ H [] r.here .nil
theorem a_cons (ha : PE X a (tE Θ ma)) (hr : PA X es (tA Θ mr)) (hs : starEach (a :: es) X.env = (false, eval a X.env) :: starEach es X.env := by rfl) : PA X (a :: es) (tA Θ (mCons ma mr)) :=
  paLe (pa_cons ha hr hs) fun σ H Q q => (tM.bind (R := RepV) q).imp fun x H1 ⟨ρ1, s1, xi, r1, rx, o1⟩ =>
    ⟨ρ1, s1, r1, o1.bind.mono fun li s2 q2 ρ2 H2 l st2 rl => q2 ρ2 H2 _ st2 (.cons (rx.mono st2.le) rl)⟩
/-- an operation upon the arguments -/
def mAp (f : List IV → Option IV) (m : M (List IV)) : M IV := M.bind m fun l => M.opt (f l)
theorem tE_ap {r : List V → Hp → VK → Prop} {f : List IV → Option IV} (hr : CaS Θ r f) {Q : VK} (h : tE Θ (mAp f mr) σ H Q) : tA Θ mr σ H fun vs H1 => r vs H1 Q :=
  (tM.bind (R := RepL) h).imp fun vs H1 ⟨ρ1, s1, xi, r1, rx, o1⟩ => by
    obtain ⟨z, e, q⟩ := o1.opt
    exact hr ρ1 s1 σ H1 xi vs z Q r1 rx e fun H3 v g rv => q ρ1 H3 v (r1.grow g) rv
def lstV (l : List IV) : Option IV := if l.length ≤ szl then some (.fl l) else none
def tupV (l : List IV) : Option IV := if l.length ≤ szl then some (.tup l) else none
theorem e_lst (h : PA X es (tA Θ mr)) : PE X (.List es pos) (tE Θ (mAp lstV mr)) := peLe (pe_lst h) fun σ H Q q =>
  tE_ap (r := fun xs H1 Q => xs.length ≤ sizeLine ∧ ∀ p, H1 p = none → Q (.ref p) (upd H1 p (.lst xs))) (fun ρ s σ H xs vs z Q r rx e b => by
    unfold lstV at e
    split at e
    · cases e; rename_i hz
      exact ⟨by rw [rx.length]; exact le_szl hz, fun p hp => b.fl r hp rx⟩
    · cases e) q
theorem e_tup {k} (h : PA X es (tA Θ mr)) : PE X (.Tuple es k pos) (tE Θ (mAp tupV mr)) := peLe (pe_tup h) fun σ H Q q =>
  tE_ap (r := fun xs H1 Q => xs.length ≤ sizeLine ∧ ∀ p, H1 p = none → Q (.ref p) (upd H1 p (.tup xs))) (fun ρ s σ H xs vs z Q r rx e b => by
    unfold tupV at e
    split at e
    · cases e; rename_i hz
      exact ⟨by rw [rx.length]; exact le_szl hz, fun p hp => b.tup r hp rx⟩
    · cases e) q
/-- built-ins -/
theorem e_callB {id : String} {x : Str} {p : Pos} {r : List V → Hp → VK → Prop} {f : List IV → Option IV} {e : Expr} (hc : CallR X (.builtin id) r) (hr : CaS Θ r f) (hg : Gl X x) (hm : X.mg x = none) (hv : bootBuiltins x = some (.builtin id)) (ha : PA X (e :: es) (tA Θ mr)) (hn : x ≠ "__name__" := by decide) (hdb : (x == ("__debug__" : Str)) = false := by decide)
    (he : starEach (e :: es) X.env = (false, eval e X.env) :: starEach es X.env := by rfl) (hpl : (backTo pos (starEach es X.env)).any (·.1) = false := by rfl) : PE X (.Call (.Name x p) (e :: es) [] pos) (tE Θ (mAp f mr)) :=
  peLe (pe_callB hc hg hm hv ha hn hdb he hpl) fun _ _ _ q => tE_ap hr q
theorem e_callTy {T : String} {x : Str} {p : Pos} {r : List V → Hp → VK → Prop} {f : List IV → Option IV} {e : Expr} (hc : CallR X (.type T) r) (hr : CaS Θ r f) (hg : Gl X x) (hm : X.mg x = none) (hv : bootBuiltins x = some (.type T)) (ha : PA X (e :: es) (tA Θ mr)) (hn : x ≠ "__name__" := by decide) (hdb : (x == ("__debug__" : Str)) = false := by decide)
    (he : starEach (e :: es) X.env = (false, eval e X.env) :: starEach es X.env := by rfl) (hpl : (backTo pos (starEach es X.env)).any (·.1) = false := by rfl) : PE X (.Call (.Name x p) (e :: es) [] pos) (tE Θ (mAp f mr)) :=
  peLe (pe_callTy hc hg hm hv ha hn hdb he hpl) fun _ _ _ q => tE_ap hr q
end
end Mi
set_option Elab.async false
set_option linter.all false
set_option maxRecDepth 100000
namespace Mi
open PySem L2 PyProof.Rows

variable {Θ : Fx} {ρ ρ' : List Addr} {s s' : S} {σ σ' : L2.St} {H H' : Hp} {X : Cx} {K : PySem.W.Frag}

/-! ### subscripts -/
theorem atI_rep {w : Vw} {vs : List V} {l : List IV} (h : RepL w vs l) {i : Int} {x : IV} (e : atI l i = some x) : ∃ v, atI vs i = some v ∧ RepV w v x := by
  unfold atI at e ⊢
  rw [h.length]
  cases q : ixN l.length i with
  | none => rw [q] at e; cases e
  | some j => rw [q] at e; exact h.get e
def ixV : IV → IV → Option IV
  | .fl l, .int i => atI l i
  | .tup l, .int i => atI l i
  | .str z, .int i => if z.length ≤ szl then (atI z.cps.toList i).map fun c => .str ⟨#[c]⟩ else none
  | _, _ => none
theorem ixV_ok (hK : Θ.K = K) : OpS Θ (rIx K) ixV := by
  intro ρ s σ H x y xv yv z Q r rx ry e b
  subst hK
  unfold ixV at e
  split at e
  · cases rx with | fl h1 l1 =>
    cases ry
    obtain ⟨v, e2, rv⟩ := atI_rep l1 e
    exact .inl ⟨_, _, _, v, rfl, rfl, h1.sq, e2, b.now r rv⟩
  · cases rx with | tup h1 l1 =>
    cases ry
    obtain ⟨v, e2, rv⟩ := atI_rep l1 e
    exact .inr (.inl ⟨_, _, _, v, rfl, rfl, h1.sq, e2, b.now r rv⟩)
  · rename_i zz i
    cases rx; cases ry
    split at e
    · rename_i hz
      cases q : atI zz.cps.toList i with
      | none => rw [q] at e; cases e
      | some c => rw [q] at e; cases e; exact .inr (.inr ⟨_, _, c, rfl, rfl, le_szl hz, q, b.now r (.str _)⟩)
    · cases e
  · cases e

/-! ### slices -/
def mPart (m : M IV) : M (Option Int) := M.bind m fun x => match x with
  | .int i => M.pure (some i)
  | _ => M.no
def mNoPart : M (Option Int) := M.pure none
abbrev tO (Θ : Fx) (m : M (Option Int)) : TO := tM Θ (A := Option Int) (fun _ a x => a = x) m
theorem poLe {X : Cx} {e : Option Expr} {t t' : TO} (h : PO X e t) (f : ∀ σ H Q, t' σ H Q → t σ H Q) : PO X e t' := ⟨fun pins s σ H Q I q => h.run pins s σ H Q I (f σ H Q q)⟩
section
variable {a b c : Expr} {ma mb mc : M IV} {pos p2 : Pos} {lo hi : Option Expr} {ml mh : M (Option Int)} {mr : M (List IV)} {es : List Expr}
theorem o_none : PO X none (tO Θ mNoPart) := poLe po_none fun σ H Q ⟨ρ, s, r, o⟩ => o ρ H none r.here rfl
theorem o_some (ha : PE X a (tE Θ ma)) : PO X (some a) (tO Θ (mPart ma)) := poLe (po_some ha) fun σ H Q q =>
  (tM.bind (R := RepV) q).imp fun x H1 ⟨ρ1, s1, xi, r1, rx, o1⟩ => by
    cases rx <;> first | exact o1.elim | exact ⟨_, rfl, o1 ρ1 H1 _ r1.here rfl⟩
def cutL {α : Type} (xs : List α) (lo hi : Option Int) : List α := (xs.drop (HT.sIx xs.length 0 lo)).take (HT.sIx xs.length xs.length hi - HT.sIx xs.length 0 lo)
theorem cut_rep {w : Vw} {vs : List V} {l : List IV} (h : RepL w vs l) (lo hi : Option Int) : RepL w (cutV vs lo hi) (cutL l lo hi) := by
  unfold cutV cutL
  rw [h.length]
  exact (h.drop _).take _
def slV (x : IV) (lo hi : Option Int) : Option IV := match x with
  | .fl l => some (.fl (cutL l lo hi))
  | .tup l => some (.tup (cutL l lo hi))
  | .str z => if z.length ≤ szl then some (.str (cutS z lo hi)) else none
  | _ => none
def mSl (m : M IV) (ml mh : M (Option Int)) : M IV := M.bind m fun x => M.bind ml fun l => M.bind mh fun h => M.opt (slV x l h)
def rSlV (K : PySem.W.Frag) : V → Option Int → Option Int → Hp → VK → Prop := fun x lo hi H Q => (rSlL K x lo hi H Q ∨ rSlA K x lo hi H Q) ∨ rSlS x lo hi H Q
theorem sl_V : SlR X (rSlV X.K) := (sl_list.or sl_tupA).or sl_str
theorem slV_ok (hK : Θ.K = K) {x : IV} {lo hi : Option Int} {xv : V} {z : IV} {Q : VK} (r : StR Θ ρ s σ H) (rx : RepV (vw Θ ρ s.env σ H) xv x) (e : slV x lo hi = some z) (b : Back Θ ρ s σ H z Q) : rSlV K xv lo hi H Q := by
  subst hK
  unfold slV at e
  split at e
  · cases rx with | fl h1 l1 =>
    cases e
    exact .inl (.inl ⟨_, _, rfl, h1.sq, fun p hp => b.fl r hp (cut_rep l1 lo hi)⟩)
  · cases rx with | tup h1 l1 =>
    cases e
    have cr := cut_rep l1 lo hi
    refine .inl (.inr ⟨_, _, rfl, h1.sq, fun hw => ?_, fun _ p hp => b.tup r hp cr⟩)
    have e1 : ∀ ys : List V, (HT.sIx ys.length 0 lo = 0 ∧ HT.sIx ys.length ys.length hi = ys.length) → cutV ys lo hi = ys := fun ys hw => by
      unfold cutV
      rw [hw.1, hw.2, List.drop_zero, Nat.sub_zero, List.take_length]
    rw [e1 _ hw] at cr
    exact b.now r (.tup h1 cr)
  · split at e
    · cases rx; cases e; rename_i hz; exact .inr ⟨_, rfl, le_szl hz, b.now r (.str _)⟩
    · cases e
  · cases e
theorem e_slice (hK : Θ.K = X.K) (ha : PE X a (tE Θ ma)) (hl : PO X lo (tO Θ ml)) (hh : PO X hi (tO Θ mh)) : PE X (.Subscript a (.Slice lo hi none p2) pos) (tE Θ (mSl ma ml mh)) :=
  peLe (pe_slice sl_V ha hl hh) fun σ H Q q => (tM.bind (R := RepV) q).imp fun x H1 ⟨ρ1, s1, xi, r1, rx, o1⟩ =>
    ⟨ρ1, s1, r1, o1.bind.mono fun l s2 q2 ρ2 H2 l' st2 rl => by
      subst rl
      exact ⟨ρ2, s2, st2.r, q2.bind.mono fun h s3 q3 ρ3 H3 h' st3 rh => by
        subst rh
        obtain ⟨z, e, q3⟩ := q3.opt
        exact slV_ok hK st3.r ((rx.mono st2.le).mono st3.le) e fun H4 v g rv => q3 ρ3 H4 v ((st2.trans st3).trans (st3.r.grow g)) rv⟩⟩
/-- xs[::-1] -/
def revV : IV → Option IV
  | .fl l => some (.fl l.reverse)
  | _ => none
theorem e_rev {k : Nat} {p1 p3 : Pos} (hK : Θ.K = X.K) (ha : PE X a (tE Θ ma)) : PE X (.Subscript a (.Slice none none (some (.UnaryOp .USub (.Constant (.int 1) k p1) p2)) p3) pos) (tE Θ (mUn revV ma)) :=
  peLe (pe_revL ha) fun σ H Q q => (tM.bind (R := RepV) q).imp fun x H1 ⟨ρ1, s1, xi, r1, rx, o1⟩ => by
    obtain ⟨z, e, q⟩ := o1.opt
    unfold revV at e
    split at e
    · cases rx with | fl h1 l1 =>
      cases e
      have b : Back Θ ρ1 s1 σ H1 _ Q := fun H3 v g rv => q ρ1 H3 v (r1.grow g) rv
      exact ⟨_, _, rfl, by rw [← hK]; exact h1.sq, fun p hp => b.fl r1 hp l1.reverse⟩
    · cases e

/-! ### built-ins by values -/
def lenV : List IV → Option IV
  | [.fl l] => some (.int l.length)
  | [.tup l] => some (.int l.length)
  | [.str z] => if z.length ≤ szl then some (.int z.length) else none
  | _ => none
def rLen (K : PySem.W.Frag) : List V → Hp → VK → Prop := fun xs H Q => (∃ p ys, xs = [.ref p] ∧ (SqL K H p ys ∨ SqT K H p ys) ∧ Q (.int ys.length) H) ∨ ∃ z, xs = [.str z] ∧ z.length ≤ sizeLine ∧ Q (.int z.length) H
theorem call_lenV : CallR X (.builtin "len") (rLen X.K) := call_len_seq.or call_len_str
theorem rep1 {w : Vw} {vs : List V} {x : IV} (h : RepL w vs [x]) : ∃ v, vs = [v] ∧ RepV w v x := by
  cases h with | cons h t => cases t; exact ⟨_, rfl, h⟩
theorem rep2 {w : Vw} {vs : List V} {x y : IV} (h : RepL w vs [x, y]) : ∃ v u, vs = [v, u] ∧ RepV w v x ∧ RepV w u y := by
  cases h with | cons h t => cases t with | cons h' t => cases t; exact ⟨_, _, rfl, h, h'⟩
theorem lenV_ok (hK : Θ.K = K) : CaS Θ (rLen K) lenV := by
  intro ρ s σ H xs vs z Q r rx e b
  subst hK
  unfold lenV at e
  split at e
  · obtain ⟨v, rfl, rv⟩ := rep1 rx; cases e
    cases rv with | fl h1 l1 =>
    exact .inl ⟨_, _, rfl, .inl h1.sq, by rw [l1.length]; exact b.now r (.int _)⟩
  · obtain ⟨v, rfl, rv⟩ := rep1 rx; cases e
    cases rv with | tup h1 l1 =>
    exact .inl ⟨_, _, rfl, .inr h1.sq, by rw [l1.length]; exact b.now r (.int _)⟩
  · obtain ⟨v, rfl, rv⟩ := rep1 rx
    split at e
    · cases e; rename_i hz; cases rv; exact .inr ⟨_, rfl, le_szl hz, b.now r (.int _)⟩
    · cases e
  · cases e
def intsOf : List IV → Option (List Int)
  | [] => some []
  | .int i :: r => (intsOf r).map (i :: ·)
  | _ => none
theorem intsOf_rep {w : Vw} : ∀ {vs : List V} {l : List IV} {ns : List Int}, RepL w vs l → intsOf l = some ns → vs = ns.map V.int
  | _, [], _, .nil, e => by cases e; rfl
  | _, x :: l, ns, .cons h t, e => by
    cases x <;> simp only [intsOf] at e <;> first | (cases e; done) | skip
    rename_i i
    cases q : intsOf l with
    | none => rw [q] at e; cases e
    | some ms => rw [q] at e; cases e; cases h; rw [intsOf_rep t q]; rfl
def boolsOf : List IV → Option (List Bool)
  | [] => some []
  | .bl i :: r => (boolsOf r).map (i :: ·)
  | _ => none
theorem boolsOf_rep {w : Vw} : ∀ {vs : List V} {l : List IV} {ns : List Bool}, RepL w vs l → boolsOf l = some ns → vs = ns.map V.bl
  | _, [], _, .nil, e => by cases e; rfl
  | _, x :: l, ns, .cons h t, e => by
    cases x <;> simp only [boolsOf] at e <;> first | (cases e; done) | skip
    rename_i i
    cases q : boolsOf l with
    | none => rw [q] at e; cases e
    | some ms => rw [q] at e; cases e; cases h; rw [boolsOf_rep t q]; rfl
def strsOf : List IV → Option (List Str)
  | [] => some []
  | .str i :: r => (strsOf r).map (i :: ·)
  | _ => none
theorem strsOf_rep {w : Vw} : ∀ {vs : List V} {l : List IV} {ns : List Str}, RepL w vs l → strsOf l = some ns → vs = ns.map V.str
  | _, [], _, .nil, e => by cases e; rfl
  | _, x :: l, ns, .cons h t, e => by
    cases x <;> simp only [strsOf] at e <;> first | (cases e; done) | skip
    rename_i i
    cases q : strsOf l with
    | none => rw [q] at e; cases e
    | some ms => rw [q] at e; cases e; cases h; rw [strsOf_rep t q]; rfl
def sumV : List IV → Option IV
  | [.fl l] => (intsOf l).map fun ns => .int ns.sum
  | _ => none
theorem sumV_ok (hK : Θ.K = K) : CaS Θ (rSum K) sumV := by
  intro ρ s σ H xs vs z Q r rx e b
  subst hK
  unfold sumV at e
  split at e
  · rename_i l
    obtain ⟨v, rfl, rv⟩ := rep1 rx
    cases rv with | fl h1 l1 =>
    cases q : intsOf l with
    | none => rw [q] at e; cases e
    | some ns =>
      rw [q] at e; cases e
      have := intsOf_rep l1 q; subst this
      exact ⟨_, ns, rfl, h1.sq, b.now r (.int _)⟩
  · cases e
def allV : List IV → Option IV
  | [.fl l] => (boolsOf l).map fun ns => .bl (ns.all id)
  | _ => none
def anyV : List IV → Option IV
  | [.fl l] => (boolsOf l).map fun ns => .bl (ns.any id)
  | _ => none
theorem allV_ok (hK : Θ.K = K) : CaS Θ (rAll K) allV := by
  intro ρ s σ H xs vs z Q r rx e b
  subst hK
  unfold allV at e
  split at e
  · rename_i l
    obtain ⟨v, rfl, rv⟩ := rep1 rx
    cases rv with | fl h1 l1 =>
    cases q : boolsOf l with
    | none => rw [q] at e; cases e
    | some ns =>
      rw [q] at e; cases e
      have := boolsOf_rep l1 q; subst this
      exact ⟨_, ns, rfl, h1.sq, b.now r (.bl _)⟩
  · cases e
theorem anyV_ok (hK : Θ.K = K) : CaS Θ (rAny K) anyV := by
  intro ρ s σ H xs vs z Q r rx e b
  subst hK
  unfold anyV at e
  split at e
  · rename_i l
    obtain ⟨v, rfl, rv⟩ := rep1 rx
    cases rv with | fl h1 l1 =>
    cases q : boolsOf l with
    | none => rw [q] at e; cases e
    | some ns =>
      rw [q] at e; cases e
      have := boolsOf_rep l1 q; subst this
      exact ⟨_, ns, rfl, h1.sq, b.now r (.bl _)⟩
  · cases e
/-- max(a, b), max([..]) -/
def maxL : List Int → Int → Int
  | [], m => m
  | x :: r, m => maxL r (if x > m then x else m)
def minL : List Int → Int → Int
  | [], m => m
  | x :: r, m => minL r (if x < m then x else m)
theorem maxL_ge : ∀ (l : List Int) (m : Int), m ≤ maxL l m
  | [], m => Int.le_refl _
  | x :: r, m => Int.le_trans (by split <;> omega) (maxL_ge r _)
theorem maxL_all : ∀ (l : List Int) (m y : Int), y ∈ l → y ≤ maxL l m
  | x :: r, m, y, h => by
    rcases List.mem_cons.mp h with e | h
    · subst e; exact Int.le_trans (by split <;> omega) (maxL_ge r _)
    · exact maxL_all r _ y h
theorem maxL_mem : ∀ (l : List Int) (m : Int), maxL l m = m ∨ maxL l m ∈ l
  | [], m => .inl rfl
  | x :: r, m => by
    rcases maxL_mem r (if x > m then x else m) with h | h
    · by_cases q : x > m
      · rw [if_pos q] at h; right; show maxL r (if x > m then x else m) ∈ _; rw [if_pos q, h]; exact List.mem_cons_self
      · rw [if_neg q] at h; left; show maxL r (if x > m then x else m) = _; rw [if_neg q]; exact h
    · right; exact List.mem_cons_of_mem _ h
theorem minL_le : ∀ (l : List Int) (m : Int), minL l m ≤ m
  | [], m => Int.le_refl _
  | x :: r, m => Int.le_trans (minL_le r _) (by split <;> omega)
theorem minL_all : ∀ (l : List Int) (m y : Int), y ∈ l → minL l m ≤ y
  | x :: r, m, y, h => by
    rcases List.mem_cons.mp h with e | h
    · subst e; exact Int.le_trans (minL_le r _) (by split <;> omega)
    · exact minL_all r _ y h
theorem minL_mem : ∀ (l : List Int) (m : Int), minL l m = m ∨ minL l m ∈ l
  | [], m => .inl rfl
  | x :: r, m => by
    rcases minL_mem r (if x < m then x else m) with h | h
    · by_cases q : x < m
      · rw [if_pos q] at h; right; show minL r (if x < m then x else m) ∈ _; rw [if_pos q, h]; exact List.mem_cons_self
      · rw [if_neg q] at h; left; show minL r (if x < m then x else m) = _; rw [if_neg q]; exact h
    · right; exact List.mem_cons_of_mem _ h
def maxV : List IV → Option IV
  | [.int i, .int j] => some (.int (if j > i then j else i))
  | [.fl l] => match intsOf l with
    | some (m :: r) => some (.int (maxL r m))
    | _ => none
  | _ => none
def minV : List IV → Option IV
  | [.int i, .int j] => some (.int (if j < i then j else i))
  | [.fl l] => match intsOf l with
    | some (m :: r) => some (.int (minL r m))
    | _ => none
  | _ => none
def rMaxV (K : PySem.W.Frag) : List V → Hp → VK → Prop := fun xs H Q => (∃ i j, xs = [.int i, .int j] ∧ Q (.int (if j > i then j else i)) H) ∨ rMax K xs H Q
def rMinV (K : PySem.W.Frag) : List V → Hp → VK → Prop := fun xs H Q => (∃ i j, xs = [.int i, .int j] ∧ Q (.int (if j < i then j else i)) H) ∨ rMin K xs H Q
theorem call_maxV (hc : X.calm = true) : CallR X (.builtin "max") (rMaxV X.K) := (call_max2 hc).or (cr_max hc)
theorem call_minV (hc : X.calm = true) : CallR X (.builtin "min") (rMinV X.K) := (call_min2 hc).or (cr_min hc)
theorem maxV_ok (hK : Θ.K = K) : CaS Θ (rMaxV K) maxV := by
  intro ρ s σ H xs vs z Q r rx e b
  subst hK
  unfold maxV at e
  split at e
  · obtain ⟨v, u, rfl, rv, ru⟩ := rep2 rx; cases e; cases rv; cases ru
    exact .inl ⟨_, _, rfl, b.now r (.int _)⟩
  · obtain ⟨v, rfl, rv⟩ := rep1 rx
    cases rv with | fl h1 l1 =>
    split at e
    · rename_i m ms q
      cases e
      have := intsOf_rep l1 q; subst this
      refine .inr ⟨_, _, rfl, h1.sq, Nat.succ_pos _, fun k hk hle => ?_⟩
      have : k = maxL ms m := by
        have h3 : maxL ms m ∈ m :: ms := by
          rcases maxL_mem ms m with h | h
          · rw [h]; exact List.mem_cons_self
          · exact List.mem_cons_of_mem _ h
        have h2 := hle _ h3
        rcases List.mem_cons.mp hk with h | h
        · have := maxL_ge ms m; omega
        · have := maxL_all ms m k h; omega
      subst this
      exact b.now r (.int _)
    · cases e
  · cases e
theorem minV_ok (hK : Θ.K = K) : CaS Θ (rMinV K) minV := by
  intro ρ s σ H xs vs z Q r rx e b
  subst hK
  unfold minV at e
  split at e
  · obtain ⟨v, u, rfl, rv, ru⟩ := rep2 rx; cases e; cases rv; cases ru
    exact .inl ⟨_, _, rfl, b.now r (.int _)⟩
  · obtain ⟨v, rfl, rv⟩ := rep1 rx
    cases rv with | fl h1 l1 =>
    split at e
    · rename_i m ms q
      cases e
      have := intsOf_rep l1 q; subst this
      refine .inr ⟨_, _, rfl, h1.sq, Nat.succ_pos _, fun k hk hle => ?_⟩
      have : k = minL ms m := by
        have h3 : minL ms m ∈ m :: ms := by
          rcases minL_mem ms m with h | h
          · rw [h]; exact List.mem_cons_self
          · exact List.mem_cons_of_mem _ h
        have h2 := hle _ h3
        rcases List.mem_cons.mp hk with h | h
        · have := minL_le ms m; omega
        · have := minL_all ms m k h; omega
      subst this
      exact b.now r (.int _)
    · cases e
  · cases e
def intV : List IV → Option IV
  | [.int i] => some (.int i)
  | [.bl b] => some (.int (if b then 1 else 0))
  | _ => none
theorem intV_ok : CaS Θ (fun xs H Q => (∃ i, xs = [.int i] ∧ Q (.int i) H) ∨ ∃ k, xs = [.bl k] ∧ Q (.int (if k then 1 else 0)) H) intV := by
  intro ρ s σ H xs vs z Q r rx e b
  unfold intV at e
  split at e
  · obtain ⟨v, rfl, rv⟩ := rep1 rx; cases e; cases rv; exact .inl ⟨_, rfl, b.now r (.int _)⟩
  · obtain ⟨v, rfl, rv⟩ := rep1 rx; cases e; cases rv; exact .inr ⟨_, rfl, b.now r (.int _)⟩
  · cases e
/-- list(x), tuple(x) of a sequence -/
def listV : List IV → Option IV
  | [.fl l] => some (.fl l)
  | [.tup l] => some (.fl l)
  | _ => none
theorem listV_ok (hK : Θ.K = K) : CaS Θ (fun xs H Q => ∃ p ys, xs = [.ref p] ∧ (SqL K H p ys ∨ SqT K H p ys) ∧ ∀ l, H l = none → Q (.ref l) (upd H l (.lst ys))) listV := by
  intro ρ s σ H xs vs z Q r rx e b
  subst hK
  unfold listV at e
  split at e
  · obtain ⟨v, rfl, rv⟩ := rep1 rx; cases e
    cases rv with | fl h1 l1 => exact ⟨_, _, rfl, .inl h1.sq, fun p hp => b.fl r hp l1⟩
  · obtain ⟨v, rfl, rv⟩ := rep1 rx; cases e
    cases rv with | tup h1 l1 => exact ⟨_, _, rfl, .inr h1.sq, fun p hp => b.fl r hp l1⟩
  · cases e
def tupleV : List IV → Option IV
  | [.fl l] => some (.tup l)
  | [.tup l] => some (.tup l)
  | _ => none
theorem tupleV_ok (hK : Θ.K = K) : CaS Θ (fun xs H Q => ∃ p ys, xs = [.ref p] ∧ ((SqL K H p ys ∧ ∀ l, H l = none → Q (.ref l) (upd H l (.tup ys))) ∨ (SqT K H p ys ∧ Q (.ref p) H))) tupleV := by
  intro ρ s σ H xs vs z Q r rx e b
  subst hK
  unfold tupleV at e
  split at e
  · obtain ⟨v, rfl, rv⟩ := rep1 rx; cases e
    cases rv with | fl h1 l1 => exact ⟨_, _, rfl, .inl ⟨h1.sq, fun p hp => b.tup r hp l1⟩⟩
  · obtain ⟨v, rfl, rv⟩ := rep1 rx; cases e
    cases rv with | tup h1 l1 => exact ⟨_, _, rfl, .inr ⟨h1.sq, b.now r (.tup h1 l1)⟩⟩
  · cases e

/-! ### isinstance of a built-in type -/
def isB (T : String) : IV → Option Bool := fun x => match T with
  | "int" => match x with | .int _ | .bl _ => some true | .non | .str _ | .tup _ | .fl _ => some false | _ => none
  | "bool" => match x with | .bl _ => some true | .non | .int _ | .str _ | .tup _ | .fl _ => some false | _ => none
  | "str" => match x with | .str _ => some true | .non | .int _ | .bl _ | .tup _ | .fl _ => some false | _ => none
  | "tuple" => match x with | .tup _ => some true | .non | .int _ | .bl _ | .str _ | .fl _ => some false | _ => none
  | "list" => match x with | .fl _ => some true | .non | .int _ | .bl _ | .str _ | .tup _ => some false | _ => none
  | "dict" => match x with | .non | .int _ | .bl _ | .str _ | .tup _ | .fl _ => some false | _ => none
  | _ => none
theorem ty_lst {w : Vw} {a : Addr} {xs : List V} (h : FzL w a xs) : TyX w.K w.H (.ref a) (.type "list") := by
  rcases h with ⟨o, its, n, e, c, _⟩ | ⟨o, e, h | ⟨b, h⟩, _⟩
  · exact .kList e c
  · subst h; exact .base (.lst e)
  · subst h; exact .base (.frz e)
theorem ty_tup {w : Vw} {a : Addr} {xs : List V} (h : FzT w a xs) : TyX w.K w.H (.ref a) (.type "tuple") := by
  rcases h with ⟨o, its, n, e, c, _⟩ | ⟨o, e, h | ⟨b, h⟩, _⟩
  · exact .kTuple e c
  · subst h; exact .base (.tup e)
  · subst h; exact .fTuple e
def isiV : List IV → Option IV
  | [x, .ty T] => (isB T x).map .bl
  | _ => none
theorem isiV_ok (hK : Θ.K = K) : CaS Θ (rIsi K) isiV := by
  intro ρ s σ H xs vs z Q r rx e b
  subst hK
  unfold isiV at e
  split at e
  · rename_i x T
    obtain ⟨v, u, rfl, rv, ru⟩ := rep2 rx
    cases ru
    cases q : isB T x with
    | none => rw [q] at e; cases e
    | some k =>
      rw [q] at e; cases e
      have fin : ∀ t, TyX Θ.K H v t → PySem.W.kitOne Θ.K t (.type T) = some k → rIsi Θ.K [v, .ty T] H Q := fun t ty kk => ⟨v, .ty T, t, .type T, k, rfl, .ty T, ty, kk, b.now r (.bl _)⟩
      unfold isB at q
      split at q <;> first | (cases q; done) | (cases rv <;> dsimp only at q <;> first
        | (cases q; done)
        | (cases q; first
            | exact fin (.type "NoneType") (.base .non) rfl
            | exact fin (.type "bool") (.base (.bl _)) rfl
            | exact fin (.type "int") (.base (.int _)) rfl
            | exact fin (.type "str") (.base (.str _)) rfl
            | exact fin (.type "tuple") (ty_tup (by assumption)) rfl
            | exact fin (.type "list") (ty_lst (by assumption)) rfl))
  · cases e
/-- isinstance of an own class: facts of the class -/
structure IsC (K : PySem.W.Frag) (C : Addr) (cs : List Addr) : Prop where
  no : ∀ T ∈ (["NoneType", "bool", "int", "str", "tuple", "list"] : List String), PySem.W.kitOne K (.type T) (.ref C) = some false
  cl : ∀ c ∈ cs, Cls K c ∧ PySem.W.findIn K (.ref c) "__class__" = some (some (.builtin "object.__class__")) ∧ PySem.W.mroIn K c (.type "object") = some true ∧ PySem.W.kitOne K (.ref c) (.ref C) = some (decide (c = C))
  hn : PySem.W.specialIn K (.builtin "object.__class__") "__get__" = some (some (.builtin "getset_descriptor.__get__"))
  tk : PySem.W.takesIn K (.builtin "object.__class__") = some true
def isiC (C : Addr) (cs : List Addr) : List IV → Option IV
  | [.obj c _, .adr C'] => if C' = C ∧ c ∈ cs then some (.bl (decide (c = C))) else none
  | [.non, .adr C'] | [.bl _, .adr C'] | [.int _, .adr C'] | [.str _, .adr C'] | [.tup _, .adr C'] | [.fl _, .adr C'] => if C' = C then some (.bl false) else none
  | _ => none
theorem isiC_ok {C : Addr} {cs : List Addr} (hK : Θ.K = K) (F : IsC K C cs) : CaS Θ (rIsi K) (isiC C cs) := by
  intro ρ s σ H xs vs z Q r rx e b
  subst hK
  have fin : ∀ {k : Bool} {v : V}, z = .bl k → ∀ t, TyX Θ.K H v t → PySem.W.kitOne Θ.K t (.ref C) = some k → rIsi Θ.K [v, .ref C] H Q := fun {k v} hz t ty kk => ⟨v, .ref C, t, .ref C, k, rfl, .own C, ty, kk, b.now r (by rw [hz]; exact .bl _)⟩
  unfold isiC at e
  split at e
  · obtain ⟨v, u, rfl, rv, ru⟩ := rep2 rx
    split at e
    · rename_i hc; obtain ⟨rfl, hc⟩ := hc
      cases e
      cases ru
      cases rv with | obj h1 h2 h3 =>
      obtain ⟨a1, a2, a3, a4⟩ := F.cl _ hc
      exact fin rfl _ (.base (.ins h1 a1 a2 F.hn F.tk a3)) a4
    · cases e
  all_goals first
    | (cases e; done)
    | (obtain ⟨v, u, rfl, rv, ru⟩ := rep2 rx
       split at e
       · rename_i hc; subst hc
         cases e
         cases ru
         cases rv <;> first
           | exact fin rfl (.type "NoneType") (.base .non) (F.no _ (by decide))
           | exact fin rfl (.type "bool") (.base (.bl _)) (F.no _ (by decide))
           | exact fin rfl (.type "int") (.base (.int _)) (F.no _ (by decide))
           | exact fin rfl (.type "str") (.base (.str _)) (F.no _ (by decide))
           | exact fin rfl (.type "tuple") (ty_tup (by assumption)) (F.no _ (by decide))
           | exact fin rfl (.type "list") (ty_lst (by assumption)) (F.no _ (by decide))
       · cases e)
end
end Mi
set_option Elab.async false
set_option linter.all false
set_option maxRecDepth 100000
namespace Mi
open PySem L2 PyProof.Rows

variable {Θ : Fx} {ρ ρ' : List Addr} {s s' : S} {σ σ' : L2.St} {H H' : Hp} {X : Cx} {K : PySem.W.Frag}

/-! ### slots change -/
def isOwn : Slot → Bool
  | .own _ => true
  | .ins _ _ => true
  | _ => false
theorem own_iff {o : Option Slot} : ((∃ l, o = some (.own l)) ∨ ∃ c fs, o = some (.ins c fs)) ↔ ∃ x, o = some x ∧ isOwn x = true := by
  constructor
  · rintro (⟨l, e⟩ | ⟨c, fs, e⟩)
    · exact ⟨_, e, rfl⟩
    · exact ⟨_, e, rfl⟩
  · rintro ⟨x, e, h⟩
    cases x with
    | own l => exact .inl ⟨l, e⟩
    | ins c fs => exact .inr ⟨c, fs, e⟩
    | _ => cases h
/-- the values in the slots may be told of a lesser set of addresses that change, where the heap is as it was -/
theorem vw_less {env env' : List Slot} (h : ∀ a, Ow σ' env' a → Ow σ env a) : Vw.Le (vw Θ ρ env σ H) (vw Θ ρ env' σ' H) :=
  ⟨rfl, fun _ _ e => e, fun a o e n => ⟨e, fun q => n (q.imp id fun z => z.imp (h a) id)⟩⟩
/-- slot i takes a value (or is forgotten) -/
theorem StR.setVal (r : StR Θ ρ s σ H) {i : Nat} {v : V} {x : IV} (hv : RepV (vw Θ ρ s.env σ H) v x) : Stp Θ ρ s σ H ρ { s with env := s.env.set i (.val x) } (σ.set i (some v)) H := by
  have hO : ∀ a, Ow (σ.set i (some v)) (s.env.set i (.val x)) a → Ow σ s.env a := fun a ⟨j, h1, h2⟩ => by
    rw [own_iff] at h2
    obtain ⟨y, e, hy⟩ := h2
    by_cases hj : i = j
    · subst hj
      rw [List.getElem?_set_self'] at e
      cases q : s.env[i]? with
      | none => rw [q] at e; cases e
      | some z => rw [q] at e; cases e; cases hy
    · rw [List.getElem?_set_ne hj] at e h1
      exact ⟨j, h1, own_iff.mpr ⟨y, e, hy⟩⟩
  have le : Vw.Le (vw Θ ρ s.env σ H) (vw Θ ρ (s.env.set i (.val x)) (σ.set i (some v)) H) := vw_less hO
  refine ⟨⟨by simp [r.len], r.slen, fun j y e => ?_, fun j a o e1 e2 => ?_, r.nd, fun a h => r.sep a (hO a h), fun j k a h1 h2 h3 h4 => ?_, fun a h => ⟨(r.fo a h).1, (r.fo a h).2.1, fun q => (r.fo a h).2.2 (hO a q)⟩, r.base.trans le, r.fkeep, fun j c fs q => by
    by_cases hj : i = j
    · subst hj
      have q : (s.env.set i (.val x))[i]? = some (.ins c fs) := q
      rw [List.getElem?_set_self'] at q
      cases z : s.env[i]? with
      | none => rw [z] at q; cases q
      | some y => rw [z] at q; cases q
    · have q : (s.env.set i (.val x))[j]? = some (.ins c fs) := q
      rw [List.getElem?_set_ne hj] at q ⊢
      exact r.self j c fs q⟩, le⟩
  · by_cases hj : i = j
    · subst hj
      have hi : i < s.env.length := by
        have := (List.getElem?_eq_some_iff.mp e).1
        simpa using this
      have e' : (s.env.set i (.val x))[i]? = some (.val x) := by simp [hi]
      have e'' : y = .val x := by
        have : some y = some (Slot.val x) := e.symm.trans e'
        exact Option.some.inj this
      subst e''
      exact ⟨v, by simp [r.len, hi], hv.mono le⟩
    · have e' : s.env[j]? = some y := by
        have : (s.env.set i (.val x))[j]? = some y := e
        rwa [List.getElem?_set_ne hj] at this
      have q := r.slot j y e'
      have hσ : (σ.set i (some v))[j]? = σ[j]? := List.getElem?_set_ne hj
      rw [hσ]
      cases y with
      | emp => trivial
      | val z => obtain ⟨u, h1, h2⟩ := q; exact ⟨u, h1, h2.mono le⟩
      | own l => obtain ⟨a, vs, h1, h2, h3⟩ := q; exact ⟨a, vs, h1, h2, h3.mono le⟩
      | ins c fs => obtain ⟨a, dx, gs, h1, h2, h3⟩ := q; exact ⟨a, dx, gs, h1, h2, h3.mono le⟩
  · have q := r.obj j a o e1 e2
    cases o with
    | lst l => obtain ⟨vs, h2, h3⟩ := q; exact ⟨vs, h2, h3.mono le⟩
    | ins c fs => obtain ⟨dx, gs, h2, h3⟩ := q; exact ⟨dx, gs, h2, h3.mono le⟩
  · have down : ∀ m : Nat, (σ.set i (some v))[m]? = some (some (.ref a)) → ((∃ l, (s.env.set i (.val x))[m]? = some (.own l)) ∨ ∃ c fs, (s.env.set i (.val x))[m]? = some (.ins c fs)) →
        σ[m]? = some (some (.ref a)) ∧ ((∃ l, s.env[m]? = some (.own l)) ∨ ∃ c fs, s.env[m]? = some (.ins c fs)) := fun m q1 q2 => by
      rw [own_iff] at q2
      obtain ⟨y, e, hy⟩ := q2
      by_cases hm : i = m
      · subst hm
        rw [List.getElem?_set_self'] at e
        cases q : s.env[i]? with
        | none => rw [q] at e; cases e
        | some z => rw [q] at e; cases e; cases hy
      · rw [List.getElem?_set_ne hm] at e q1
        exact ⟨q1, own_iff.mpr ⟨y, e, hy⟩⟩
    obtain ⟨a1, a2⟩ := down j h1 h3
    obtain ⟨b1, b2⟩ := down k h2 h4
    exact r.one j k a a1 b1 a2 b2
/-- the object of slot i is written anew, or a new object comes to it -/
theorem StR.setOwn (r : StR Θ ρ s σ H) {i : Nat} {p : Addr} {vs : List V} {l : List IV} (hp : H p = none ∨ (σ[i]? = some (some (.ref p)) ∧ ∃ l0, s.env[i]? = some (.own l0)))
    (hl : RepL (vw Θ ρ s.env σ H) vs l) : Stp Θ ρ s σ H ρ { s with env := s.env.set i (.own l) } (σ.set i (some (.ref p))) (upd H p (.lst vs)) := by
  have pE : ∀ a, a ≠ p → upd H p (.lst vs) a = H a := fun a h => upd_ne h
  have pO : ∀ a o, H a = some o → a = p → Ow σ s.env a := fun a o e z => by
    subst z
    rcases hp with hp | ⟨h1, l0, h2⟩
    · rw [hp] at e; cases e
    · exact ⟨i, h1, .inl ⟨l0, h2⟩⟩
  -- the owned slots of the new state: those of the old but i, and i with p
  have hO : ∀ a, Ow (σ.set i (some (.ref p))) (s.env.set i (.own l)) a → a = p ∨ (∃ j : Nat, j ≠ i ∧ σ[j]? = some (some (.ref a)) ∧ ∃ y, s.env[j]? = some y ∧ isOwn y = true) := fun a ⟨j, h1, h2⟩ => by
    rw [own_iff] at h2
    obtain ⟨y, e, hy⟩ := h2
    by_cases hj : i = j
    · subst hj
      rw [List.getElem?_set_self'] at h1
      cases q : σ[i]? with
      | none => rw [q] at h1; cases h1
      | some z => rw [q] at h1; cases h1; exact .inl rfl
    · rw [List.getElem?_set_ne hj] at e h1
      exact .inr ⟨j, fun z => hj z.symm, h1, y, e, hy⟩
  have hO' : ∀ a, Ow (σ.set i (some (.ref p))) (s.env.set i (.own l)) a → a = p ∨ Ow σ s.env a := fun a h => (hO a h).imp id fun ⟨j, _, h1, y, h2, h3⟩ => ⟨j, h1, own_iff.mpr ⟨y, h2, h3⟩⟩
  have pnew : ∀ a, (a ∈ ρ ∨ Θ.F a) → a ≠ p := fun a h z => by
    subst z
    rcases hp with hp | ⟨h1, l0, h2⟩
    · obtain ⟨o, e⟩ := r.tracked (a := a) (h.imp id .inr)
      rw [hp] at e; cases e
    · have ow : Ow σ s.env a := ⟨i, h1, .inl ⟨l0, h2⟩⟩
      rcases h with h | h
      · exact r.sep a ow h
      · exact (r.fo a h).2.2 ow
  have le : Vw.Le (vw Θ ρ s.env σ H) (vw Θ ρ (s.env.set i (.own l)) (σ.set i (some (.ref p))) (upd H p (.lst vs))) := by
    refine ⟨rfl, fun _ _ e => e, fun a o e n => ?_⟩
    have hap : a ≠ p := fun z => n (.inr (.inl (pO a o e z)))
    refine ⟨(pE a hap).trans e, fun q => n ?_⟩
    rcases q with q | q | q
    · exact .inl q
    · rcases hO' a q with z | z
      · exact absurd z hap
      · exact .inr (.inl z)
    · exact .inr (.inr q)
  have oth : ∀ (j : Nat) (y : Slot) (a : Addr), i ≠ j → s.env[j]? = some y → isOwn y = true → σ[j]? = some (some (.ref a)) → a ≠ p := fun j y a hj e hy h1 z => by
    subst z
    rcases hp with hp | ⟨h2, l0, h3⟩
    · obtain ⟨o, q⟩ := r.tracked (a := a) (.inr (.inl ⟨j, h1, own_iff.mpr ⟨y, e, hy⟩⟩))
      rw [hp] at q; cases q
    · exact hj (r.one i j a h2 h1 (.inl ⟨l0, h3⟩) (own_iff.mpr ⟨y, e, hy⟩))
  refine ⟨⟨by simp [r.len], r.slen, fun j y e => ?_, fun j a o e1 e2 => ?_, r.nd, fun a h => ?_, fun j k a h1 h2 h3 h4 => ?_, fun a h => ?_, r.base.trans le, fun a o f q => ?_, fun j c fs q => by
    by_cases hj : i = j
    · subst hj
      have q : (s.env.set i (.own l))[i]? = some (.ins c fs) := q
      rw [List.getElem?_set_self'] at q
      cases z : s.env[i]? with
      | none => rw [z] at q; cases q
      | some y => rw [z] at q; cases q
    · have q : (s.env.set i (.own l))[j]? = some (.ins c fs) := q
      rw [List.getElem?_set_ne hj] at q ⊢
      exact r.self j c fs q⟩, le⟩
  · by_cases hj : i = j
    · subst hj
      have hi : i < s.env.length := by
        have := (List.getElem?_eq_some_iff.mp e).1
        simpa using this
      have e' : (s.env.set i (.own l))[i]? = some (.own l) := by simp [hi]
      have e'' : y = .own l := Option.some.inj (e.symm.trans e')
      subst e''
      exact ⟨p, vs, by simp [r.len, hi], upd_same, hl.mono le⟩
    · have e' : s.env[j]? = some y := by
        have : (s.env.set i (.own l))[j]? = some y := e
        rwa [List.getElem?_set_ne hj] at this
      have q := r.slot j y e'
      have hσ : (σ.set i (some (.ref p)))[j]? = σ[j]? := List.getElem?_set_ne hj
      rw [hσ]
      cases y with
      | emp => trivial
      | val z => obtain ⟨u, h1, h2⟩ := q; exact ⟨u, h1, h2.mono le⟩
      | own l => obtain ⟨a, us, h1, h2, h3⟩ := q; exact ⟨a, us, h1, (pE a (oth j _ a hj e' rfl h1)).trans h2, h3.mono le⟩
      | ins c fs => obtain ⟨a, dx, gs, h1, h2, h3⟩ := q; exact ⟨a, dx, gs, h1, (pE a (oth j _ a hj e' rfl h1)).trans h2, h3.mono le⟩
  · have q := r.obj j a o e1 e2
    have hap : a ≠ p := pnew a (.inl (List.mem_of_getElem? e1))
    cases o with
    | lst l => obtain ⟨vs', h2, h3⟩ := q; exact ⟨vs', (pE a hap).trans h2, h3.mono le⟩
    | ins c fs => obtain ⟨dx, gs, h2, h3⟩ := q; exact ⟨dx, gs, (pE a hap).trans h2, h3.mono le⟩
  · rcases hO' a h with z | z
    · exact fun q => pnew a (.inl q) z
    · exact r.sep a z
  · have down : ∀ m : Nat, (σ.set i (some (.ref p)))[m]? = some (some (.ref a)) → ((∃ l', (s.env.set i (.own l))[m]? = some (.own l')) ∨ ∃ c fs, (s.env.set i (.own l))[m]? = some (.ins c fs)) →
        (m = i ∧ a = p) ∨ (m ≠ i ∧ a ≠ p ∧ σ[m]? = some (some (.ref a)) ∧ ((∃ l, s.env[m]? = some (.own l)) ∨ ∃ c fs, s.env[m]? = some (.ins c fs))) := fun m q1 q2 => by
      rw [own_iff] at q2
      obtain ⟨y, e, hy⟩ := q2
      by_cases hm : i = m
      · subst hm
        rw [List.getElem?_set_self'] at q1
        cases q : σ[i]? with
        | none => rw [q] at q1; cases q1
        | some z => rw [q] at q1; cases q1; exact .inl ⟨rfl, rfl⟩
      · rw [List.getElem?_set_ne hm] at e q1
        exact .inr ⟨fun z => hm z.symm, oth m y a hm e hy q1, q1, own_iff.mpr ⟨y, e, hy⟩⟩
    rcases down j h1 h3 with ⟨j1, a1⟩ | ⟨j1, a1, j2, j3⟩
    · rcases down k h2 h4 with ⟨k1, a2⟩ | ⟨k1, a2, k2, k3⟩
      · rw [j1, k1]
      · exact absurd a1 a2
    · rcases down k h2 h4 with ⟨k1, a2⟩ | ⟨k1, a2, k2, k3⟩
      · exact absurd a2 a1
      · exact r.one j k a j2 k2 j3 k3
  · obtain ⟨⟨o, e⟩, n1, n2⟩ := r.fo a h
    have hap : a ≠ p := pnew a (.inr h)
    refine ⟨⟨o, (pE a hap).trans e⟩, n1, fun q => ?_⟩
    rcases hO' a q with z | z
    · exact hap z
    · exact n2 z
  · exact (pE a (pnew a (.inr f))).trans (r.fkeep a o f q)
/-- slot i's own list is from now on a value -/
theorem StR.freeze (r : StR Θ ρ s σ H) {i : Nat} {l : List IV} (e : s.env[i]? = some (.own l)) : Stp Θ ρ s σ H ρ { s with env := s.env.set i (.val (.fl l)) } σ H := by
  obtain ⟨p, vs, h1, h2, h3⟩ := r.slot i _ e
  have h2 : H p = some (.lst vs) := h2
  have hO : ∀ a, Ow σ (s.env.set i (.val (.fl l))) a → a ≠ p ∧ Ow σ s.env a := fun a ⟨j, q1, q2⟩ => by
    rw [own_iff] at q2
    obtain ⟨y, e', hy⟩ := q2
    by_cases hj : i = j
    · subst hj
      rw [List.getElem?_set_self', e] at e'
      cases e'; cases hy
    · rw [List.getElem?_set_ne hj] at e'
      refine ⟨fun z => ?_, ⟨j, q1, own_iff.mpr ⟨y, e', hy⟩⟩⟩
      subst z
      exact hj (r.one i j a h1 q1 (.inl ⟨l, e⟩) (own_iff.mpr ⟨y, e', hy⟩))
  have ow : Ow σ s.env p := ⟨i, h1, .inl ⟨l, e⟩⟩
  have le : Vw.Le (vw Θ ρ s.env σ H) (vw Θ ρ (s.env.set i (.val (.fl l))) σ H) := vw_less fun a h => (hO a h).2
  have free : ¬ (vw Θ ρ (s.env.set i (.val (.fl l))) σ H).L p := fun q => by
    rcases q with q | q | q
    · exact r.sep p ow q
    · exact (hO p q).1 rfl
    · exact (r.fo p q).2.2 ow
  refine ⟨⟨by simp [r.len], r.slen, fun j y e' => ?_, fun j a o e1 e2 => ?_, r.nd, fun a h => r.sep a (hO a h).2, fun j k a q1 q2 q3 q4 => ?_, fun a h => ⟨(r.fo a h).1, (r.fo a h).2.1, fun q => (r.fo a h).2.2 (hO a q).2⟩, r.base.trans le, r.fkeep, fun j c fs q => by
    by_cases hj : i = j
    · subst hj
      have q : (s.env.set i (.val (.fl l)))[i]? = some (.ins c fs) := q
      rw [List.getElem?_set_self', e] at q
      cases q
    · have q : (s.env.set i (.val (.fl l)))[j]? = some (.ins c fs) := q
      rw [List.getElem?_set_ne hj] at q
      exact r.self j c fs q⟩, le⟩
  · by_cases hj : i = j
    · subst hj
      have e2 : (s.env.set i (.val (.fl l)))[i]? = some (.val (.fl l)) := by rw [List.getElem?_set_self', e]; rfl
      have e3 : y = .val (.fl l) := Option.some.inj (e'.symm.trans e2)
      subst e3
      exact ⟨_, h1, .fl (.inr ⟨_, h2, .inl rfl, free⟩) (h3.mono le)⟩
    · have e2 : s.env[j]? = some y := by
        have : (s.env.set i (.val (.fl l)))[j]? = some y := e'
        rwa [List.getElem?_set_ne hj] at this
      have q := r.slot j y e2
      cases y with
      | emp => trivial
      | val z => obtain ⟨u, h1, h2⟩ := q; exact ⟨u, h1, h2.mono le⟩
      | own l => obtain ⟨a, us, h1, h2, h3⟩ := q; exact ⟨a, us, h1, h2, h3.mono le⟩
      | ins c fs => obtain ⟨a, dx, gs, h1, h2, h3⟩ := q; exact ⟨a, dx, gs, h1, h2, h3.mono le⟩
  · have q := r.obj j a o e1 e2
    cases o with
    | lst l => obtain ⟨vs, h2, h3⟩ := q; exact ⟨vs, h2, h3.mono le⟩
    | ins c fs => obtain ⟨dx, gs, h2, h3⟩ := q; exact ⟨dx, gs, h2, h3.mono le⟩
  · have down : ∀ m : Nat, ((∃ l', (s.env.set i (.val (.fl l)))[m]? = some (.own l')) ∨ ∃ c fs, (s.env.set i (.val (.fl l)))[m]? = some (.ins c fs)) → ((∃ l, s.env[m]? = some (.own l)) ∨ ∃ c fs, s.env[m]? = some (.ins c fs)) := fun m q2 => by
      rw [own_iff] at q2
      obtain ⟨y, e', hy⟩ := q2
      by_cases hm : i = m
      · subst hm
        rw [List.getElem?_set_self', e] at e'
        cases e'; cases hy
      · rw [List.getElem?_set_ne hm] at e'
        exact own_iff.mpr ⟨y, e', hy⟩
    exact r.one j k a q1 q2 (down j q3) (down k q4)
end Mi
set_option Elab.async false
set_option linter.all false
set_option maxRecDepth 100000
namespace Mi
open PySem L2 PyProof.Rows

variable {Θ : Fx} {ρ ρ' : List Addr} {s s' : S} {σ σ' : L2.St} {H H' : Hp} {X : Cx} {K : PySem.W.Frag}

/-! ### statements -/
inductive Flw where
  | nx | rt (v : IV) | bk | ct
def FlwR (w : Vw) (D : Ends) (σ : L2.St) (H : Hp) : Flw → Prop
  | .nx => D.nx σ H
  | .bk => D.bk σ H
  | .ct => D.ct σ H
  | .rt x => ∀ v, RepV w v x → D.rt v H
def tS (Θ : Fx) (m : M Flw) : TS := fun D σ H => ∃ ρ s, StR Θ ρ s σ H ∧ Out Θ (m s) fun f s' => ∀ ρ' σ' H', Stp Θ ρ s σ H ρ' s' σ' H' → FlwR (vw Θ ρ' s'.env σ' H') D σ' H' f
def mNx : M Flw := M.pure .nx
def mSeq (a b : M Flw) : M Flw := M.bind a fun f => match f with
  | .nx => b
  | f => M.pure f
def setE (i : Nat) (x : Slot) (s : S) : S := { s with env := s.env.set i x }
def mSet (i : Nat) (m : M IV) : M Flw := M.bind m fun v s => .ok .nx (setE i (.val v) s)
def mRet (m : M IV) : M Flw := M.bind m fun v => M.pure (.rt v)
def mRetN : M Flw := M.pure (.rt .non)
def mDrop (m : M IV) : M Flw := M.bind m fun _ => mNx
def mIf (t : M Bool) (a b : M Flw) : M Flw := mIfB t a b
def mBrk : M Flw := M.pure .bk
def mCnt : M Flw := M.pure .ct
def mNever : M Flw := M.no
theorem pureS {f : Flw} {D : Ends} (h : tS Θ (M.pure f) D σ H) : ∃ w, FlwR w D σ H f := by
  obtain ⟨ρ, s, r, o⟩ := h
  exact ⟨_, o ρ σ H r.here⟩
/-- the first part of two, the first an expression's (or a test's) -/
theorem tS.bind {α A : Type} {R : Vw → A → α → Prop} {m : M α} {k : α → M Flw} {D : Ends} (h : tS Θ (M.bind m k) D σ H) :
    tM Θ R m σ H fun a H1 => ∃ ρ s x, StR Θ ρ s σ H1 ∧ R (vw Θ ρ s.env σ H1) a x ∧ Out Θ (k x s) fun f s' => ∀ ρ' σ' H', Stp Θ ρ s σ H1 ρ' s' σ' H' → FlwR (vw Θ ρ' s'.env σ' H') D σ' H' f := by
  obtain ⟨ρ, s, r, o⟩ := h
  exact ⟨ρ, s, r, o.bind.mono fun x s' q ρ' H' a st rr => ⟨ρ', s', x, st.r, rr, q.mono fun y s2 q2 ρ2 σ2 H2 st2 => q2 ρ2 σ2 H2 (st.trans st2)⟩⟩
theorem tS.seq {a b : M Flw} {D : Ends} (h : tS Θ (mSeq a b) D σ H) : tS Θ a { D with nx := tS Θ b D } σ H := by
  obtain ⟨ρ, s, r, o⟩ := h
  refine ⟨ρ, s, r, o.bind.mono fun f s1 q ρ1 σ1 H1 st1 => ?_⟩
  cases f with
  | nx => exact ⟨ρ1, s1, st1.r, q.mono fun f s2 q2 ρ2 σ2 H2 st2 => q2 ρ2 σ2 H2 (st1.trans st2)⟩
  | rt v => exact fun u ru => q ρ1 σ1 H1 st1 u ru
  | bk => exact q ρ1 σ1 H1 st1
  | ct => exact q ρ1 σ1 H1 st1
section
variable {a b c e : Expr} {ma mb mc : M IV} {pos : Pos} {mr : M (List IV)} {es : List Expr} {st : Stmt} {rest : List Stmt} {m n : M Flw} {t : M Bool}
theorem ss_nil : PSs X [] (tS Θ mNx) := pssLe pss_nil fun D σ H h => let ⟨_, q⟩ := pureS h; q
theorem ss_cons (h1 : PS X st (tS Θ m)) (h2 : PSs X rest (tS Θ n)) : PSs X (st :: rest) (tS Θ (mSeq m n)) := pssLe (pss_cons h1 h2) fun D σ H h => h.seq
theorem ss_one (h1 : PS X st (tS Θ m)) : PSs X [st] (tS Θ m) := pss_one h1
theorem s_pass : PS X (.Pass pos) (tS Θ mNx) := psLe ps_pass fun D σ H h => let ⟨_, q⟩ := pureS h; q
theorem s_break : PS X (.Break pos) (tS Θ mBrk) := psLe ps_break fun D σ H h => let ⟨_, q⟩ := pureS h; q
theorem s_continue : PS X (.Continue pos) (tS Θ mCnt) := psLe ps_continue fun D σ H h => let ⟨_, q⟩ := pureS h; q
theorem s_never : PS X st (tS Θ mNever) := psLe ps_never fun D σ H ⟨ρ, s, r, o⟩ => o.elim
theorem ss_never : PSs X rest (tS Θ mNever) := pssLe pss_never fun D σ H ⟨ρ, s, r, o⟩ => o.elim
theorem s_ret (he : PE X e (tE Θ ma)) : PS X (.Return (some e) pos) (tS Θ (mRet ma)) := psLe (ps_ret he) fun D σ H h =>
  (tS.bind (R := RepV) h).imp fun v H1 ⟨ρ1, s1, x, r1, rx, o⟩ => o ρ1 σ H1 r1.here v rx
theorem s_retN : PS X (.Return none pos) (tS Θ mRetN) := psLe ps_retN fun D σ H h => let ⟨_, q⟩ := pureS h; q _ .non
theorem s_drop (he : PE X e (tE Θ ma)) (hs : swapsWith e none pos.line X.env = pure false := by rfl) : PS X (.Expr e pos) (tS Θ (mDrop ma)) := psLe (ps_expr he hs) fun D σ H h =>
  (tS.bind (R := RepV) h).imp fun v H1 ⟨ρ1, s1, x, r1, rx, o⟩ => o ρ1 σ H1 r1.here
theorem s_if {as bs : List Stmt} (hc : PT X c (tT Θ t)) (ha : PSs X as (tS Θ m)) (hb : PSs X bs (tS Θ n)) : PS X (.If c as bs pos) (tS Θ (mIf t m n)) := psLe (ps_if hc ha hb) fun D σ H h =>
  (tS.bind (R := fun _ b x => b = x) h).imp fun v H1 ⟨ρ1, s1, x, r1, rx, o⟩ => by
    subst rx
    cases v with
    | true => rw [if_pos rfl] at o ⊢; exact ⟨ρ1, s1, r1, o⟩
    | false => rw [if_neg Bool.false_ne_true] at o ⊢; exact ⟨ρ1, s1, r1, o⟩
theorem tS_set {i : Nat} {te : TE} {D : Ends} (f : ∀ σ H Q, tE Θ ma σ H Q → te σ H Q) (h : tS Θ (mSet i ma) D σ H) : tAsg te (gName i) D σ H :=
  f _ _ _ ((tS.bind (R := RepV) h).imp fun v H1 ⟨ρ1, s1, x, r1, rx, o⟩ => o ρ1 _ H1 (r1.setVal rx))
theorem s_set {i : Nat} {x : Str} {pos' : Pos} (hN : X.N.Nodup) (hi : X.N[i]? = some x) (hx : Loc X.env.scope x) (he : PE X e (tE Θ ma)) (hs : swapsWith e (some (.Name x pos')) pos.line X.env = pure false := by rfl) (hf : X.fn x = true ∨ X.env.scope.names.lookup x = some .local := by first | exact .inl rfl | exact .inr rfl | assumption) :
    PS X (.Assign [.Name x pos'] e pos) (tS Θ (mSet i ma)) := psLe (ps_set hN hi hx he hs hf) fun D σ H h => tS_set (fun _ _ _ q => q) h

/-! ### new lists, own to a slot -/
def tNw (Θ : Fx) (m : M (List IV)) : TE := fun σ H Q => ∃ ρ s, StR Θ ρ s σ H ∧ Out Θ (m s) fun l s' => ∀ ρ' H0 p vs, Stp Θ ρ s σ H ρ' s' σ H0 → H0 p = none → RepL (vw Θ ρ' s'.env σ H0) vs l → Q (.ref p) (upd H0 p (.lst vs))
def mFl (m : M (List IV)) : M IV := M.bind m fun l => M.pure (.fl l)
def mOwn (i : Nat) (m : M (List IV)) : M Flw := M.bind m fun l s => .ok .nx (setE i (.own l) s)
def mApL (f : List IV → Option (List IV)) (m : M (List IV)) : M (List IV) := M.bind m fun l => M.opt (f l)
theorem tNw_fl {m : M (List IV)} {Q : VK} (h : tE Θ (mFl m) σ H Q) : tNw Θ m σ H Q := by
  obtain ⟨ρ, s, r, o⟩ := h
  refine ⟨ρ, s, r, o.bind.mono fun l s' q ρ' H0 p vs st hp rl => ?_⟩
  obtain ⟨st2, n⟩ := st.r.laid (o := .lst vs) hp
  exact q ρ' _ _ (st.trans st2) (.fl (.inr ⟨_, upd_same, .inl rfl, n⟩) (rl.mono st2.le))
theorem e_new {m : M (List IV)} (he : PE X e (tNw Θ m)) : PE X e (tE Θ (mFl m)) := peLe he fun _ _ _ h => tNw_fl h
theorem tS_own {i : Nat} {m : M (List IV)} {te : TE} {D : Ends} (f : ∀ σ H Q, tNw Θ m σ H Q → te σ H Q) (h : tS Θ (mOwn i m) D σ H) : tAsg te (gName i) D σ H := by
  obtain ⟨ρ, s, r, o⟩ := h
  refine f _ _ _ ⟨ρ, s, r, o.bind.mono fun l s1 q ρ1 H0 p vs st hp rl => ?_⟩
  exact q ρ1 _ _ (st.trans (st.r.setOwn (.inl hp) rl))
theorem s_own {i : Nat} {x : Str} {pos' : Pos} {ml : M (List IV)} (hN : X.N.Nodup) (hi : X.N[i]? = some x) (hx : Loc X.env.scope x) (he : PE X e (tNw Θ ml)) (hs : swapsWith e (some (.Name x pos')) pos.line X.env = pure false := by rfl) (hf : X.fn x = true ∨ X.env.scope.names.lookup x = some .local := by first | exact .inl rfl | exact .inr rfl | assumption) :
    PS X (.Assign [.Name x pos'] e pos) (tS Θ (mOwn i ml)) := psLe (ps_set hN hi hx he hs hf) fun D σ H h => tS_own (fun _ _ _ q => q) h
def szL (l : List IV) : Option (List IV) := if l.length ≤ szl then some l else none
theorem n_lst (h : PA X es (tA Θ mr)) : PE X (.List es pos) (tNw Θ (mApL szL mr)) := peLe (pe_lst h) fun σ H Q ⟨ρ, s, r, o⟩ =>
  ⟨ρ, s, r, o.bind.mono fun l s1 q ρ1 H1 vs st rl => by
    obtain ⟨z, e, q⟩ := q.opt
    unfold szL at e
    split at e
    · cases e; rename_i hz
      exact ⟨by rw [rl.length]; exact le_szl hz, fun p hp => q ρ1 H1 p vs st hp rl⟩
    · cases e⟩
/-- the own list of slot i is a value from here on -/
def mFz {α : Type} (i : Nat) (m : M α) : M α := fun s => match s.env[i]? with
  | some (.own l) => m (setE i (.val (.fl l)) s)
  | _ => .no
theorem ss_fz {i : Nat} (h : PSs X rest (tS Θ m)) : PSs X rest (tS Θ (mFz i m)) := pssLe h fun D σ H ⟨ρ, s, r, o⟩ => by
  unfold mFz at o
  split at o
  · rename_i l e
    exact ⟨ρ, setE i (.val (.fl l)) s, (r.freeze e).r, o.mono fun f s' q ρ' σ' H' st => q ρ' σ' H' ((r.freeze e).trans st)⟩
  · exact o.elim
/-- x.append(e), x own -/
def mApp (i : Nat) (m : M IV) : M Flw := fun s => match s.env[i]? with
  | some (.own _) => M.bind m (fun v s => match s.env[i]? with
    | some (.own l) => if l.length < szl then .ok .nx (setE i (.own (l ++ [v])) s) else .no
    | _ => .no) s
  | _ => .no
theorem set_same {σ : L2.St} {i : Nat} {v : V} (h : σ[i]? = some (some v)) : σ.set i (some v) = σ := by
  apply List.ext_getElem?
  intro j
  by_cases hj : i = j
  · subst hj
    rw [List.getElem?_set_self', h]; rfl
  · rw [List.getElem?_set_ne hj]
theorem lt_szl {n : Nat} (h : n < szl) : n < sizeLine := Nat.lt_of_lt_of_le h szl_le
theorem s_app {i : Nat} {x : Str} {p1 apos cpos : Pos} (hN : X.N[i]? = some x) (hv : Vis X.env.scope x) (ha : PE X a (tE Θ ma)) (hd : (x == ("__debug__" : Str)) = false := by decide)
    (hcd : (x == ("__classdict__" : Str)) = false := by decide) (hbase : attributeBase (.Name x p1) "append" X.env (eval (.Name x p1) X.env) = eval (.Name x p1) X.env := by rfl)
    (hfew : ((backTo cpos (starEach [a] X.env)).all (fun x => !x.1) && (backToKw cpos (keywordEach [] X.env)).all (fun x => x.1.isSome)
      && decide (([a] : List Expr).length + ([] : List Keyword).length + (if ([] : List Keyword).isEmpty then 0 else 1) < 30)) = true := by rfl)
    (hline : (apos.endLine == cpos.line) = true := by rfl) (hs1 : starEach [a] X.env = (false, eval a X.env) :: starEach [] X.env := by rfl) (hplain : (backTo cpos (starEach [] X.env)).any (·.1) = false := by rfl)
    (hs : swapsWith (.Call (.Attribute (.Name x p1) "append" apos) [a] [] cpos) none pos.line X.env = pure false := by rfl) :
    PS X (.Expr (.Call (.Attribute (.Name x p1) "append" apos) [a] [] cpos) pos) (tS Θ (mApp i ma)) :=
  psLe (ps_expr (pe_bm PySem.F.plainAttrs_list PySem.F.slot_list_append PySem.F.type_list_append mt_append (pe_var hN hv hd hcd) (pa_cons ha pa_nil hs1) hbase hfew hline hs1 hplain) hs) fun D σ H ⟨ρ, s, r, o⟩ => by
    unfold mApp at o
    split at o
    · rename_i l0 e0
      obtain ⟨p, vs0, h1, h2, h3⟩ := r.slot i _ e0
      refine ⟨_, h1, .inl ⟨rfl, _, SqL.of h2⟩, ρ, s, r, o.bind.mono fun v s1 q ρ1 H1 vv st rv => ?_⟩
      split at q
      · rename_i l e1
        obtain ⟨p', vs, k1, k2, k3⟩ := st.r.slot i _ e1
        rw [h1] at k1; cases k1
        split at q
        · rename_i hz
          refine ⟨_, _, _, rfl, rfl, k2, by rw [k3.length]; exact lt_szl hz, ?_⟩
          have st2 := st.r.setOwn (p := p) (.inr ⟨h1, l, e1⟩) (k3.append (.cons rv .nil))
          rw [set_same h1] at st2
          exact q ρ1 σ _ (st.trans st2)
        · exact q.elim
      · exact q.elim
    · exact o.elim
end
end Mi
set_option Elab.async false
set_option linter.all false
set_option maxRecDepth 100000
namespace Mi
open PySem L2 PyProof.Rows

variable {Θ : Fx} {ρ ρ' : List Addr} {s s' : S} {σ σ' : L2.St} {H H' : Hp} {X : Cx} {K : PySem.W.Frag}

/-! ### defs -/
def cw (K : PySem.W.Frag) (F : Addr → Prop) (ρ : List Addr) (H : Hp) : Vw := ⟨K, H, fun a => a ∈ ρ ∨ F a, ρ⟩
structure EnR (K : PySem.W.Frag) (F : Addr → Prop) (ρ : List Addr) (μ : List SO) (H : Hp) : Prop where
  slen : ρ.length = μ.length
  obj : ∀ (i : Nat) (a : Addr) (o : SO), ρ[i]? = some a → μ[i]? = some o → SOR (cw K F ρ H) a o
  nd : ∀ (i j : Nat) (a : Addr), ρ[i]? = some a → ρ[j]? = some a → i = j
  fo : ∀ a, F a → (∃ o, H a = some o) ∧ a ∉ ρ
theorem SOR.mono {w w' : Vw} {a : Addr} {o : SO} (le : w.Le w') (h : w'.H a = w.H a) (q : SOR w a o) : SOR w' a o := by
  cases o with
  | lst l => obtain ⟨vs, h2, h3⟩ := q; exact ⟨vs, h.trans h2, h3.mono le⟩
  | ins c fs => obtain ⟨dx, gs, h2, h3⟩ := q; exact ⟨dx, gs, h.trans h2, h3.mono le⟩
/-- a state within a def, as the caller sees it -/
theorem StR.leC (r : StR Θ ρ s σ H) : (vw Θ ρ s.env σ H).Le (cw Θ.K Θ.F ρ H) := ⟨rfl, fun _ _ e => e, fun a o e n => ⟨e, fun q => n (q.imp id .inr)⟩⟩
theorem StR.en (r : StR Θ ρ s σ H) : EnR Θ.K Θ.F ρ s.sto H :=
  ⟨r.slen, fun i a o e1 e2 => (r.obj i a o e1 e2).mono r.leC rfl, r.nd, fun a h => ⟨(r.fo a h).1, (r.fo a h).2.1⟩⟩
/-- .. and as a callee is to see it -/
def calleeF (Θ : Fx) (s : S) (σ : L2.St) : Addr → Prop := fun a => Ow σ s.env a ∨ Θ.F a
theorem StR.enOw (r : StR Θ ρ s σ H) : EnR Θ.K (calleeF Θ s σ) ρ s.sto H :=
  ⟨r.slen, r.obj, r.nd, fun a h => ⟨r.tracked (.inr h), h.elim (r.sep a) fun f => (r.fo a f).2.1⟩⟩
/-- behind a callee -/
theorem StR.back (r : StR Θ ρ s σ H) {μ' : List SO} (e : EnR Θ.K (calleeF Θ s σ) ρ' μ' H') (le : (cw Θ.K (calleeF Θ s σ) ρ H).Le (cw Θ.K (calleeF Θ s σ) ρ' H')) (k : ∀ a o, calleeF Θ s σ a → H a = some o → H' a = some o) :
    Stp Θ ρ s σ H ρ' { s with sto := μ' } σ H' := by
  have le' : (vw Θ ρ s.env σ H).Le (vw Θ ρ' s.env σ H') := le
  refine ⟨⟨r.len, e.slen, fun i x q => ?_, e.obj, e.nd, fun a h => (e.fo a (.inl h)).2, r.one, fun a h => ⟨(e.fo a (.inr h)).1, (e.fo a (.inr h)).2, (r.fo a h).2.2⟩, r.base.trans le', fun a o f q => k a o (.inr f) (r.fkeep a o f q), r.self⟩, le'⟩
  have z := r.slot i x q
  cases x with
  | emp => trivial
  | val v => obtain ⟨u, h1, h2⟩ := z; exact ⟨u, h1, h2.mono le'⟩
  | own l => obtain ⟨a, vs, h1, h2, h3⟩ := z; exact ⟨a, vs, h1, k a _ (.inl ⟨i, h1, .inl ⟨l, q⟩⟩) h2, h3.mono le'⟩
  | ins c fs => obtain ⟨a, dx, gs, h1, h2, h3⟩ := z; exact ⟨a, dx, gs, h1, k a _ (.inl ⟨i, h1, .inr ⟨c, fs, q⟩⟩) h2, h3.mono le'⟩
inductive RF where
  | ok (v : IV) (μ : List SO) | ex (c : Addr) (fs : List (Str × IV)) (μ : List SO) | no
abbrev Fn := List IV → List SO → RF
/-- an exception's own dict -/
def XDR (w : Vw) (H : Hp) (d : Addr) (fs : List (Str × IV)) : Prop := ∃ gs, H d = some (.xd gs) ∧ ¬ w.L d ∧ RepF w gs fs
def EXof (K : PySem.W.Frag) (F : Addr → Prop) (w0 : Vw) (E : XK) : Addr → List (Str × IV) → S → Prop := fun c fs s => ∀ ρ' H' d, EnR K F ρ' s.sto H' → w0.Le (cw K F ρ' H') → (∀ a o, F a → w0.H a = some o → H' a = some o) →
  XDR (cw K F ρ' H') H' d fs → E (.ref c) (some d) H'
/-- np arguments -/
def ar (np : Nat) (fn : Fn) : Fn := fun xs μ => if xs.length = np then fn xs μ else .no
def spF (K : PySem.W.Frag) (fn : Fn) : Sp := fun vs H Q E => ∃ ρ μ xs F, EnR K F ρ μ H ∧ RepL (cw K F ρ H) vs xs ∧ match fn xs μ with
  | .ok z μ' => ∀ ρ' H' v, EnR K F ρ' μ' H' → (cw K F ρ H).Le (cw K F ρ' H') → (∀ a o, F a → H a = some o → H' a = some o) → RepV (cw K F ρ' H') v z → Q v H'
  | .ex c fs μ' => ∀ ρ' H' d, EnR K F ρ' μ' H' → (cw K F ρ H).Le (cw K F ρ' H') → (∀ a o, F a → H a = some o → H' a = some o) → XDR (cw K F ρ' H') H' d fs → E (.ref c) (some d) H'
  | .no => False
def runF (n : Nat) (m : M Flw) : Fn := fun xs μ => match m ⟨xs.map .val ++ List.replicate (n - xs.length) .emp, μ⟩ with
  | .ok (.rt v) s => .ok v s.sto
  | .ok .nx s => .ok .non s.sto
  | .ex c fs s => .ex c fs s.sto
  | _ => .no
theorem start_ok {N : List Str} {F : Addr → Prop} {vs : List V} {xs : List IV} {μ : List SO} {EX : Addr → List (Str × IV) → S → Prop} (e : EnR K F ρ μ H) (r : RepL (cw K F ρ H) vs xs) (hl : vs.length ≤ N.length) :
    StR ⟨K, F, cw K F ρ H, EX, 0⟩ ρ ⟨xs.map .val ++ List.replicate (N.length - xs.length) .emp, μ⟩ (L2.start N vs) H := by
  have no : ∀ (i : Nat) (y : Slot), (xs.map Slot.val ++ List.replicate (N.length - xs.length) Slot.emp)[i]? = some y → isOwn y = false ∧ ∀ z, y = .val z → xs[i]? = some z := fun i y q => by
    by_cases hi : i < xs.length
    · rw [List.getElem?_append_left (by simpa using hi), List.getElem?_map] at q
      cases e' : xs[i]? with
      | none => rw [e'] at q; cases q
      | some z => rw [e'] at q; cases q; exact ⟨rfl, fun z' h => by cases h; rfl⟩
    · rw [List.getElem?_append_right (by simpa using hi)] at q
      have := List.mem_of_getElem? q
      rw [List.mem_replicate] at this
      rw [this.2]; exact ⟨rfl, fun z h => nomatch h⟩
  have nOw : ∀ a, ¬ Ow (L2.start N vs) (xs.map Slot.val ++ List.replicate (N.length - xs.length) Slot.emp) a := fun a ⟨i, _, h⟩ => by
    rw [own_iff] at h
    obtain ⟨y, h1, h2⟩ := h
    rw [(no i y h1).1] at h2; cases h2
  have le : (cw K F ρ H).Le (vw ⟨K, F, cw K F ρ H, EX, 0⟩ ρ (xs.map Slot.val ++ List.replicate (N.length - xs.length) Slot.emp) (L2.start N vs) H) :=
    ⟨rfl, fun _ _ q => q, fun a o q n => ⟨q, fun z => n (z.imp id fun z => z.elim (fun z => (nOw a z).elim) id)⟩⟩
  have hxl := r.length
  refine ⟨by simp [L2.start, hxl], e.slen, fun i y q => ?_, fun i a o e1 e2 => (e.obj i a o e1 e2).mono le rfl, e.nd, fun a h => (nOw a h).elim, fun i j a _ _ h => ?_, fun a h => ⟨(e.fo a h).1, (e.fo a h).2, nOw a⟩, le, fun a o _ q => q, fun i c fs q => by have := (no i _ q).1; cases this⟩
  · obtain ⟨h1, h2⟩ := no i y q
    cases y with
    | emp => trivial
    | val z =>
      have hz := h2 z rfl
      obtain ⟨v, hv, rv⟩ := r.get hz
      refine ⟨v, ?_, rv.mono le⟩
      have hi : i < vs.length := (List.getElem?_eq_some_iff.mp hv).1
      show (L2.start N vs)[i]? = some (some v)
      unfold L2.start
      rw [List.getElem?_append_left (by simpa using hi), List.getElem?_map, hv]
      rfl
    | own l => cases h1
    | ins c fs => cases h1
  · rw [own_iff] at h
    obtain ⟨y, h1, h2⟩ := h
    rw [(no i y h1).1] at h2; cases h2
section
variable {P : Program} {w : World} {mg : Str → Option Value} {base : Heap} {CX : CXT}
theorem okM {x qual : Str} {st : Stmt} {f : Addr} {fd : FuncData} {N ps : List Str} {k : Nat} {m : M Flw} (F : Fun K x qual st f fd) (S : FnScope N ps (defScope st))
    (hb : ∀ (cdv : Value) (A : Around) (outer : List Env) (s : Shared) (H : Hp) (E : XK) (Θ : Fx), Room k (A.deeper (envOfC qual (defScope st) s.heap.objs.size f cdv)) → Θ.K = K → Θ.EX = EXof K Θ.F Θ.w0 E →
      PSs (cxOf CX P w K mg base N qual (defScope st) f cdv A outer s H E) (defBody st) (tS Θ m)) :
    FnOk P w K mg base CX (k + 1) f fd ps (spF K (ar ps.length (runF N.length m))) := by
  obtain ⟨oc, od, kV, doc, pm, an, cdv, ct, osl, rfl, lk, hcd⟩ := F.ex
  have hlen : ∀ vs H Q E, spF K (ar ps.length (runF N.length m)) vs H Q E → vs.length = ps.length := fun vs H Q E ⟨ρ, μ, xs, FF, en, rl, q⟩ => by
    unfold ar at q
    by_cases hl : xs.length = ps.length
    · rw [rl.length]; exact hl
    · rw [if_neg hl] at q; exact q.elim
  refine fn_of lk hcd S hlen fun A outer s H vs Q E hr hsp => ?_
  have hl := hlen _ _ _ _ hsp
  obtain ⟨ρ, μ, xs, FF, en, rl, q⟩ := hsp
  unfold ar at q
  rw [if_pos (rl.length.symm.trans hl)] at q
  have hle : vs.length ≤ N.length := by
    have := congrArg List.length S.pre
    rw [List.length_take] at this
    omega
  refine ⟨_, hb cdv A outer s H E ⟨K, FF, cw K FF ρ H, EXof K FF (cw K FF ρ H) E, 0⟩ hr rfl rfl, ρ, _, start_ok en rl hle, ?_⟩
  unfold runF at q
  cases e : m ⟨xs.map .val ++ List.replicate (N.length - xs.length) .emp, μ⟩ with
  | no => rw [e] at q; exact q.elim
  | ex c fs s' => rw [e] at q; exact q
  | ok f s' =>
    rw [e] at q
    intro ρ' σ' H' st
    have en' := st.r.en
    have le' : (cw K FF ρ H).Le (cw K FF ρ' H') := st.r.base.trans st.r.leC
    cases f with
    | nx => exact q ρ' H' .non en' le' st.r.fkeep .non
    | rt v => exact fun u ru => q ρ' H' u en' le' st.r.fkeep (ru.mono st.r.leC)
    | bk => exact q.elim
    | ct => exact q.elim
end

/-! ### calls -/
def mCall (fn : Fn) (m : M (List IV)) : M IV := M.bind m fun xs s => match fn xs s.sto with
  | .ok v μ => .ok v { s with sto := μ }
  | .ex c fs μ => .ex c fs { s with sto := μ }
  | .no => .no
theorem call_sp {fn : Fn} {E : XK} {xs : List IV} {vs : List V} {Q : VK} (hK : Θ.K = K) (hE : Θ.EX = EXof K Θ.F Θ.w0 E) (r : StR Θ ρ s σ H) (rl : RepL (vw Θ ρ s.env σ H) vs xs)
    (o : Out Θ (match fn xs s.sto with | .ok v μ => .ok v { s with sto := μ } | .ex c fs μ => .ex c fs { s with sto := μ } | .no => .no) fun x s' => ∀ ρ' H' a, Stp Θ ρ s σ H ρ' s' σ H' → RepV (vw Θ ρ' s'.env σ H') a x → Q a H') :
    spF K fn vs H Q E := by
  subst hK
  refine ⟨ρ, s.sto, xs, calleeF Θ s σ, r.enOw, rl, ?_⟩
  cases e : fn xs s.sto with
  | no => rw [e] at o; exact o.elim
  | ok z μ' =>
    rw [e] at o
    intro ρ' H' v en le k rv
    exact o ρ' H' v (r.back en le k) rv
  | ex c fs μ' =>
    rw [e] at o
    intro ρ' H' d en le k xd
    have o : Θ.EX c fs { s with sto := μ' } := o
    rw [hE] at o
    have st := r.back en le k
    have lc := st.r.leC
    obtain ⟨gs, h1, h2, h3⟩ := xd
    exact o ρ' H' d st.r.en (st.r.base.trans lc) st.r.fkeep ⟨gs, h1, (lc.keep d _ h1 h2).2, h3.mono lc⟩
section
variable {CX : CXT} {E : XK} {k : Nat} {f : Addr} {fd : FuncData} {ps : List Str} {fn : Fn} {x : Str} {p pos : Pos} {e : Expr} {es : List Expr} {mr : M (List IV)}
theorem tE_call {Q : VK} (hK : Θ.K = K) (hE : Θ.EX = EXof K Θ.F Θ.w0 E) (h : tE Θ (mCall fn mr) σ H Q) : tCall (spF K fn) [] E (tA Θ mr) σ H Q :=
  (tM.bind (R := RepL) h).imp fun vs H1 ⟨ρ1, s1, xs, r1, rl, o⟩ => by
    rw [List.append_nil]
    exact call_sp hK hE r1 rl o
theorem e_call (F : FnOk X.prog X.w X.K X.mg X.base CX k f fd ps (spF X.K fn)) (hr : Room k X.A) (hg : Gl X x) (hm : X.mg x = some (.ref f)) (hk : PySem.W.keepIn X.K (.ref f) = true) (hb : L2.Binds X.K fd ps []) (hx : Passes CX X E)
    (hK : Θ.K = X.K) (hE : Θ.EX = EXof X.K Θ.F Θ.w0 E) (ha : PA X (e :: es) (tA Θ mr))
    (hd : (x == ("__debug__" : Str)) = false := by decide) (hs : starEach (e :: es) X.env = (false, eval e X.env) :: starEach es X.env := by rfl) (hpl : (backTo pos (starEach es X.env)).any (·.1) = false := by rfl) :
    PE X (.Call (.Name x p) (e :: es) [] pos) (tE Θ (mCall fn mr)) := peLe (pe_call F hr hg hm hk hb .nil hx ha hd hs hpl) fun _ _ _ h => tE_call hK hE h
theorem e_call0 (F : FnOk X.prog X.w X.K X.mg X.base CX k f fd ps (spF X.K fn)) (hr : Room k X.A) (hg : Gl X x) (hm : X.mg x = some (.ref f)) (hk : PySem.W.keepIn X.K (.ref f) = true) (hb : L2.Binds X.K fd ps []) (hx : Passes CX X E)
    (hK : Θ.K = X.K) (hE : Θ.EX = EXof X.K Θ.F Θ.w0 E) (hd : (x == ("__debug__" : Str)) = false := by decide) : PE X (.Call (.Name x p) [] [] pos) (tE Θ (mCall fn mNil)) := peLe (pe_call0 F hr hg hm hk hb .nil hx hd) fun σ H Q h => by
  obtain ⟨ρ, s, r, o⟩ := tE_call hK hE h
  exact o ρ H [] r.here .nil
end

/-! ### targets -/
/-- only these slots change -/
def Only (ws : List Nat) (σ σ' : L2.St) : Prop := σ'.length = σ.length ∧ ∀ j : Nat, j ∉ ws → σ'[j]? = σ[j]?
theorem Only.refl {ws : List Nat} : Only ws σ σ := ⟨rfl, fun _ _ => rfl⟩
theorem Only.trans {a b : List Nat} {σ1 σ2 : L2.St} (h : Only a σ σ1) (k : Only b σ1 σ2) : Only (a ++ b) σ σ2 :=
  ⟨k.1.trans h.1, fun j hj => (k.2 j fun z => hj (List.mem_append_right _ z)).trans (h.2 j fun z => hj (List.mem_append_left _ z))⟩
def tGt (Θ : Fx) (ws : List Nat) (g : IV → M Unit) : TG := fun v σ H Q => ∃ ρ s x, StR Θ ρ s σ H ∧ RepV (vw Θ ρ s.env σ H) v x ∧ Out Θ (g x s) fun _ s' => ∀ ρ' σ' H', Stp Θ ρ s σ H ρ' s' σ' H' → Only ws σ σ' → Q σ' H'
def tGts (Θ : Fx) (ws : List Nat) (g : List IV → M Unit) : TGs := fun vs σ H Q => ∃ ρ s l, StR Θ ρ s σ H ∧ RepL (vw Θ ρ s.env σ H) vs l ∧ Out Θ (g l s) fun _ s' => ∀ ρ' σ' H', Stp Θ ρ s σ H ρ' s' σ' H' → Only ws σ σ' → Q σ' H'
theorem pgLe {X : Cx} {e : Expr} {t t' : TG} (h : PG X e t) (f : ∀ v σ H Q, t' v σ H Q → t v σ H Q) : PG X e t' := ⟨fun pins s σ H v u Q I r q => h.run pins s σ H v u Q I r (f v σ H Q q)⟩
theorem pgsLe {X : Cx} {e : List Expr} {t t' : TGs} (h : PGs X e t) (f : ∀ v σ H Q, t' v σ H Q → t v σ H Q) : PGs X e t' := ⟨fun pins s σ H v u Q I r q => h.run pins s σ H v u Q I r (f v σ H Q q)⟩
def gSet (i : Nat) : IV → M Unit := fun x s => .ok () (setE i (.val x) s)
def gNl : List IV → M Unit := fun l => match l with
  | [] => M.pure ()
  | _ => M.no
def gCs (g : IV → M Unit) (h : List IV → M Unit) : List IV → M Unit := fun l => match l with
  | x :: r => M.bind (g x) fun _ => h r
  | [] => M.no
def gTp (n : Nat) (g : List IV → M Unit) : IV → M Unit := fun x => match x with
  | .tup l => if l.length = n then g l else M.no
  | _ => M.no
section
variable {pos : Pos} {a : Expr} {es : List Expr} {g : IV → M Unit} {h : List IV → M Unit}
theorem g_name {i : Nat} {x : Str} (hN : X.N.Nodup) (hi : X.N[i]? = some x) (hx : Loc X.env.scope x) (hf : X.fn x = true ∨ X.env.scope.names.lookup x = some .local := by first | exact .inl rfl | exact .inr rfl | assumption) : PG X (.Name x pos) (tGt Θ [i] (gSet i)) :=
  pgLe (pg_name hN hi hx hf) fun v σ H Q ⟨ρ, s, x, r, rx, o⟩ => o ρ _ H (r.setVal rx) ⟨by simp, fun j hj => List.getElem?_set_ne fun z => hj (by simp [z])⟩
theorem gs_nil : PGs X [] (tGts Θ [] gNl) := pgsLe pgs_nil fun vs σ H Q ⟨ρ, s, l, r, rl, o⟩ => by
  cases rl with
  | nil => exact ⟨rfl, o ρ σ H r.here .refl⟩
  | cons _ _ => exact o.elim
theorem gs_cons {ws us : List Nat} (h1 : PG X a (tGt Θ ws g)) (h2 : PGs X es (tGts Θ us h)) (hs : (assignEach (a :: es) X.env).map (·.2) = assign a X.env :: (assignEach es X.env).map (·.2) := by rfl) : PGs X (a :: es) (tGts Θ (ws ++ us) (gCs g h)) :=
  pgsLe (pgs_cons h1 h2 hs) fun vs σ H Q ⟨ρ, s, l, r, rl, o⟩ => by
    cases rl with
    | nil => exact o.elim
    | cons rv rr =>
      exact ⟨_, _, rfl, ρ, s, _, r, rv, o.bind.mono fun _ s1 q ρ1 σ1 H1 st ol => ⟨ρ1, s1, _, st.r, rr.mono st.le, q.mono fun _ s2 q2 ρ2 σ2 H2 st2 ol2 => q2 ρ2 σ2 H2 (st.trans st2) (ol.trans ol2)⟩⟩
theorem g_tup {k n : Nat} {ws : List Nat} (hK : Θ.K = X.K) (hc : X.calm = true) (h1 : PGs X es (tGts Θ ws h)) (hn : (assignEach es X.env).length = n := by rfl) (hst : (assignEach es X.env).findIdx? (·.1) = none := by rfl) : PG X (.Tuple es k pos) (tGt Θ ws (gTp n h)) :=
  pgLe (pg_tup hc h1 hn hst) fun v σ H Q ⟨ρ, s, x, r, rx, o⟩ => by
    cases x with
    | tup l =>
      cases rx with | tup t1 t2 =>
      unfold gTp at o
      dsimp only at o
      split at o
      · rename_i hl
        exact ⟨_, _, rfl, by rw [← hK]; exact t1.sq, t2.length.trans hl, ρ, s, l, r, t2, o⟩
      · exact o.elim
    | _ => exact o.elim
/-- a, b, .. = e -/
def mAsg (m : M IV) (g : IV → M Unit) : M Flw := M.bind m fun v => M.bind (g v) fun _ => mNx
theorem s_asg {tg e : Expr} {ma : M IV} {ws : List Nat} (he : PE X e (tE Θ ma)) (hg : PG X tg (tGt Θ ws g)) (hs : swapsWithSole [tg] e pos.line X.env = pure false := by rfl) (hw : swappedStores [tg] e X.env = pure none := by rfl)
    (h1 : (assignEach [tg] X.env).map (·.2) = [assign tg X.env] := by rfl) : PS X (.Assign [tg] e pos) (tS Θ (mAsg ma g)) := psLe (ps_asg he hg hs hw h1) fun D σ H h =>
  (tS.bind (R := RepV) h).imp fun v H1 ⟨ρ1, s1, x, r1, rx, o⟩ => ⟨ρ1, s1, x, r1, rx, o.bind.mono fun _ s2 q ρ2 σ2 H2 st _ => q ρ2 σ2 H2 st⟩
/-- a, b = x, y (two plain locals) -/
def mPar2 (i j : Nat) (m : M (List IV)) : M Flw := M.bind m fun l s => match l with
  | [x, y] => .ok .nx (setE j (.val y) (setE i (.val x) s))
  | _ => .no
def mPar3 (i j k : Nat) (m : M (List IV)) : M Flw := M.bind m fun l s => match l with
  | [x, y, z] => .ok .nx (setE k (.val z) (setE j (.val y) (setE i (.val x) s)))
  | _ => .no
theorem s_par {i j : Nat} {x y : Str} {a b : Expr} {ma : M (List IV)} {px py pt : Pos} {kt k2 pt2} (hc : X.calm = true) (hN : X.N.Nodup) (hi : X.N[i]? = some x) (hj : X.N[j]? = some y) (hij : i ≠ j)
    (hx : X.env.scope.names.lookup x = some .local) (hy : X.env.scope.names.lookup y = some .local) (ha : PA X [a, b] (tA Θ ma))
    (hw : swappedStores [.Tuple [.Name x px, .Name y py] kt pt] (.Tuple [a, b] k2 pt2) X.env = pure (some [x, y]))
    (hs : swapsWithSole [.Tuple [.Name x px, .Name y py] kt pt] (.Tuple [a, b] k2 pt2) pos.line X.env = pure false := by rfl) :
    PS X (.Assign [.Tuple [.Name x px, .Name y py] kt pt] (.Tuple [a, b] k2 pt2) pos) (tS Θ (mPar2 i j ma)) := psLe (ps_par hc hN hi hj hij hx hy ha hw hs) fun D σ H h =>
  (tS.bind (R := RepL) h).imp fun vs H1 ⟨ρ1, s1, l, r1, rl, o⟩ => by
    cases rl with
    | nil => exact o.elim
    | cons h1 t1 => cases t1 with
      | nil => exact o.elim
      | cons h2 t2 => cases t2 with
        | nil =>
          have st1 := r1.setVal (i := i) h1
          have st2 := st1.r.setVal (i := j) (h2.mono st1.le)
          exact ⟨_, _, rfl, o ρ1 _ H1 (st1.trans st2)⟩
        | cons _ _ => exact o.elim
end
end Mi
set_option Elab.async false
set_option linter.all false
set_option maxRecDepth 100000
namespace Mi
open PySem L2 PyProof.Rows

variable {Θ : Fx} {ρ ρ' : List Addr} {s s' : S} {σ σ' : L2.St} {H H' : Hp} {X : Cx} {K : PySem.W.Frag}

/-! ### what is walked -/
def ItOk (w1 : Vw) (J : It) (l : List IV) : Prop := ∀ w' : Vw, w1.Le w' → (∀ a, w'.L a → ∃ o, w'.H a = some o) →
  (∀ (i : Nat) (x : IV), l[i]? = some x → J.go i w'.H ∧ ∀ v H', J.yld i w'.H v H' → (∀ b o, w'.H b = some o → H' b = some o) ∧ RepV ⟨w'.K, H', w'.L, w'.ρ⟩ v x) ∧ ∀ i : Nat, l.length ≤ i → J.stop i w'.H
def tI (Θ : Fx) (m : M (List IV)) : TI := fun σ H R => ∃ ρ s, StR Θ ρ s σ H ∧ Out Θ (m s) fun l s' => ∀ ρ' H' J, Stp Θ ρ s σ H ρ' s' σ H' → ItOk (vw Θ ρ' s'.env σ H') J l → R J H'
theorem piLe {X : Cx} {tg e : Expr} {t t' : TI} (h : PI X tg e t) (f : ∀ σ H Q, t' σ H Q → t σ H Q) : PI X tg e t' := ⟨fun pins s σ H Q I q => h.run pins s σ H Q I (f σ H Q q)⟩
def mItL (m : M IV) : M (List IV) := M.bind m fun x => match x with
  | .fl l => M.pure l
  | _ => M.no
def mItT (m : M IV) : M (List IV) := M.bind m fun x => match x with
  | .tup l => M.pure l
  | _ => M.no
theorem itl_ok {w : Vw} {a : Addr} {xs : List V} {l : List IV} (h : FzL w a xs) (r : RepL w xs l) : ItOk w (Itl w.K a) l := fun w' le tr => by
  have h' := (h.mono le).sq
  have r' := r.mono le
  rw [le.k] at h'
  refine ⟨fun i x e => ?_, fun i hi => ⟨xs, h', by rw [r.length]; exact hi⟩⟩
  obtain ⟨v, e1, rv⟩ := r'.get e
  refine ⟨⟨xs, v, h', e1⟩, fun u H' y => ?_⟩
  obtain ⟨e2, y⟩ := y
  subst e2
  have := y xs h'
  rw [e1] at this; cases this
  exact ⟨fun _ _ q => q, rv⟩
theorem itt_ok {w : Vw} {a : Addr} {xs : List V} {l : List IV} (h : FzT w a xs) (r : RepL w xs l) : ItOk w (Itt w.K a) l := fun w' le tr => by
  have h' := (h.mono le).sq
  have r' := r.mono le
  rw [le.k] at h'
  refine ⟨fun i x e => ?_, fun i hi => ⟨xs, h', by rw [r.length]; exact hi⟩⟩
  obtain ⟨v, e1, rv⟩ := r'.get e
  refine ⟨⟨xs, v, h', e1⟩, fun u H' y => ?_⟩
  obtain ⟨e2, y⟩ := y
  subst e2
  have := y xs h'
  rw [e1] at this; cases this
  exact ⟨fun _ _ q => q, rv⟩
section
variable {a b c e tg : Expr} {ma mb mc : M IV} {pos p : Pos} {mr : M (List IV)} {es : List Expr}
theorem i_list (hK : Θ.K = X.K) (ha : PE X a (tE Θ ma)) : PI X tg a (tI Θ (mItL ma)) := piLe (pi_list ha) fun σ H R ⟨ρ, s, r, o⟩ =>
  ⟨ρ, s, r, o.bind.mono fun x s1 q ρ1 H1 v st rv => by
    cases x with
    | fl l =>
      cases rv with | fl h1 l1 =>
      have e1 : X.K = (vw Θ ρ1 s1.env σ H1).K := hK.symm
      exact ⟨_, rfl, ⟨_, by rw [e1]; exact h1.sq⟩, by rw [e1]; exact q ρ1 H1 _ st (itl_ok h1 l1)⟩
    | _ => exact q.elim⟩
theorem i_tup (hK : Θ.K = X.K) (ha : PE X a (tE Θ ma)) : PI X tg a (tI Θ (mItT ma)) := piLe (pi_tup ha) fun σ H R ⟨ρ, s, r, o⟩ =>
  ⟨ρ, s, r, o.bind.mono fun x s1 q ρ1 H1 v st rv => by
    cases x with
    | tup l =>
      cases rv with | tup h1 l1 =>
      have e1 : X.K = (vw Θ ρ1 s1.env σ H1).K := hK.symm
      exact ⟨_, rfl, ⟨_, by rw [e1]; exact h1.sq⟩, by rw [e1]; exact q ρ1 H1 _ st (itt_ok h1 l1)⟩
    | _ => exact q.elim⟩
/-- range(n), range(a, b) -/
def rngL (lo : Int) (n : Nat) : List IV := (List.range n).map fun (i : Nat) => IV.int (lo + i)
theorem itr_ok {w : Vw} (lo : Int) (n : Nat) : ItOk w (Itr lo n) (rngL lo n) := fun w' le tr => by
  refine ⟨fun i x e => ?_, fun i hi => (show n ≤ i by simpa [rngL] using hi)⟩
  unfold rngL at e
  rw [List.getElem?_map] at e
  have hi : i < n := by
    cases q : (List.range n)[i]? with
    | none => rw [q] at e; cases e
    | some j => have := (List.getElem?_eq_some_iff.mp q).1; simpa using this
  rw [List.getElem?_range hi] at e
  cases e
  exact ⟨hi, fun v H' y => by obtain ⟨e1, e2⟩ := y; subst e1; subst e2; exact ⟨fun _ _ q => q, .int _⟩⟩
def rng1 : List IV → Option (List IV)
  | [.int j] => if j.natAbs ≤ 4611686018427387 then some (rngL 0 j.toNat) else none
  | _ => none
def rng2 : List IV → Option (List IV)
  | [.int i, .int j] => if i.natAbs ≤ 4611686018427387 ∧ j.natAbs ≤ 4611686018427387 then some (rngL i (j - i).toNat) else none
  | _ => none
theorem i_range1 (hg : Gl X "range") (hm : X.mg "range" = none) (ha : PA X [a] (tA Θ mr)) (hs : starEach [a] X.env = [(false, eval a X.env)] := by rfl) : PI X tg (.Call (.Name "range" p) [a] [] pos) (tI Θ (mApL rng1 mr)) :=
  piLe (pi_range1 hg hm ha hs) fun σ H R ⟨ρ, s, r, o⟩ => ⟨ρ, s, r, o.bind.mono fun l s1 q ρ1 H1 vs st rl => by
    obtain ⟨z, e, q⟩ := q.opt
    unfold rng1 at e
    split at e
    · split at e
      · rename_i hj; cases e
        obtain ⟨v, rfl, rv⟩ := rep1 rl; cases rv
        exact ⟨_, rfl, by omega, by omega, q ρ1 H1 _ st (itr_ok 0 _)⟩
      · cases e
    · cases e⟩
theorem i_range2 (hg : Gl X "range") (hm : X.mg "range" = none) (ha : PA X [a, b] (tA Θ mr)) (hs : starEach [a, b] X.env = [(false, eval a X.env), (false, eval b X.env)] := by rfl) (hs2 : starEach [b] X.env = [(false, eval b X.env)] := by rfl) : PI X tg (.Call (.Name "range" p) [a, b] [] pos) (tI Θ (mApL rng2 mr)) :=
  piLe (pi_range2 hg hm ha hs hs2) fun σ H R ⟨ρ, s, r, o⟩ => ⟨ρ, s, r, o.bind.mono fun l s1 q ρ1 H1 vs st rl => by
    obtain ⟨z, e, q⟩ := q.opt
    unfold rng2 at e
    split at e
    · split at e
      · rename_i hj; cases e
        obtain ⟨v, u, rfl, rv, ru⟩ := rep2 rl; cases rv; cases ru
        exact ⟨_, _, rfl, by omega, q ρ1 H1 _ st (itr_ok _ _)⟩
      · cases e
    · cases e⟩
/-- enumerate(list) -/
def enmL (l : List IV) : List IV := l.zipIdx.map fun p => .tup [.int (p.2 : Nat), p.1]
def enm : List IV → Option (List IV)
  | [.fl l] => some (enmL l)
  | _ => none
theorem ite_ok {w : Vw} {a : Addr} {xs : List V} {l : List IV} (h : FzL w a xs) (r : RepL w xs l) : ItOk w (Ite w.K a) (enmL l) := fun w' le tr => by
  have h' := (h.mono le).sq
  have r' := r.mono le
  rw [le.k] at h'
  refine ⟨fun i x e => ?_, fun i hi => ⟨xs, h', by rw [r.length]; simpa [enmL] using hi⟩⟩
  unfold enmL at e
  rw [List.getElem?_map, List.getElem?_zipIdx] at e
  cases q : l[i]? with
  | none => rw [q] at e; cases e
  | some y =>
    rw [q] at e
    simp only [Option.map_some, Option.some.injEq] at e
    subst e
    obtain ⟨v, e1, rv⟩ := r'.get q
    refine ⟨⟨xs, v, h', e1⟩, fun u H' z => ?_⟩
    obtain ⟨T, x', rfl, hT, rfl, z⟩ := z
    have := z xs h'
    rw [e1] at this; cases this
    have nT : ¬ w'.L T := fun q => by
      obtain ⟨o, q⟩ := tr T q
      rw [hT] at q; cases q
    have le2 : w'.Le ⟨w'.K, upd w'.H T (.tup [.int (i : Nat), v]), w'.L, w'.ρ⟩ := ⟨rfl, fun _ _ q => q, fun b o q n => ⟨by show upd _ _ _ b = _; rw [upd_ne (ne_of_none q hT)]; exact q, n⟩⟩
    refine ⟨fun b o q => by rw [upd_ne (ne_of_none q hT)]; exact q, .tup (.inr ⟨_, upd_same, .inl rfl, nT⟩) ?_⟩
    rw [Nat.zero_add]
    exact .cons (.int _) (.cons (rv.mono le2) .nil)
theorem i_enum {kk : Nat} {tpos : Pos} {elts : List Expr} (hK : Θ.K = X.K) (hg : Gl X "enumerate") (hm : X.mg "enumerate" = none) (ha : PA X [e] (tA Θ mr)) (hs : starEach [e] X.env = [(false, eval e X.env)] := by rfl) :
    PI X (.Tuple elts kk tpos) (.Call (.Name "enumerate" p) [e] [] pos) (tI Θ (mApL enm mr)) :=
  piLe (pi_enum hg hm ha hs) fun σ H R ⟨ρ, s, r, o⟩ => ⟨ρ, s, r, o.bind.mono fun l s1 q ρ1 H1 vs st rl => by
    obtain ⟨z, e, q⟩ := q.opt
    unfold enm at e
    split at e
    · cases e
      obtain ⟨v, rfl, rv⟩ := rep1 rl
      cases rv with | fl h1 l1 =>
      have e1 : X.K = (vw Θ ρ1 s1.env σ H1).K := hK.symm
      exact ⟨_, _, rfl, by rw [e1]; exact h1.sq, by rw [e1]; exact q ρ1 H1 _ st (ite_ok h1 l1)⟩
    · cases e⟩
/-- a text's signs -/
def sgnL (z : Str) : List IV := z.cps.toList.map fun c => .str ⟨#[c]⟩
def mItS (m : M IV) : M (List IV) := M.bind m fun x => match x with
  | .str z => M.pure (sgnL z)
  | _ => M.no
theorem its_ok {w : Vw} (z : Str) : ItOk w (Its z) (sgnL z) := fun w' le tr => by
  refine ⟨fun i x e => ?_, fun i hi => by
    have : z.cps.size ≤ i := by simpa [sgnL] using hi
    exact this⟩
  unfold sgnL at e
  rw [List.getElem?_map] at e
  cases q : z.cps.toList[i]? with
  | none => rw [q] at e; cases e
  | some c =>
    rw [q] at e; cases e
    have hi : i < z.cps.size := by
      have := (List.getElem?_eq_some_iff.mp q).1
      simpa using this
    refine ⟨hi, fun v H' y => ?_⟩
    obtain ⟨e1, c', e2, e3⟩ := y
    subst e1; subst e3
    rw [← Array.getElem?_toList, q] at e2
    cases e2
    exact ⟨fun _ _ q => q, .str _⟩
theorem i_str (ha : PE X a (tE Θ ma)) : PI X tg a (tI Θ (mItS ma)) := piLe (pi_str ha) fun σ H R ⟨ρ, s, r, o⟩ =>
  ⟨ρ, s, r, o.bind.mono fun x s1 q ρ1 H1 v st rv => by
    cases x with
    | str z => cases rv; exact ⟨_, rfl, q ρ1 H1 _ st (its_ok z)⟩
    | _ => exact q.elim⟩

/-! ### for, while -/
def forL (g : IV → M Unit) (body : M Flw) : List IV → M Flw
  | [] => mNx
  | x :: r => M.bind (g x) fun _ => M.bind body fun f => match f with
    | .nx => forL g body r
    | .ct => forL g body r
    | .bk => mNx
    | .rt v => M.pure (.rt v)
def mFor (mi : M (List IV)) (g : IV → M Unit) (body : M Flw) : M Flw := M.bind mi (forL g body)
variable {g : IV → M Unit} {m : M Flw} {t : M Bool} {mi : M (List IV)} {ws : List Nat} {body : List Stmt}
theorem s_for (hp : PassesOwn (model X.prog X.w) X.A X.env X.xe) (hc : X.calm = true) (hi : PI X tg e (tI Θ mi)) (hg : PG X tg (tGt Θ ws g)) (hb : PSs X body (tS Θ m))
    (hs : ∀ x, foldedSetIterable e X.env x = pure x := by intro _; rfl) : PS X (.For tg e body [] pos) (tS Θ (mFor mi g m)) := psLe (ps_for hp hc hi hg hb hs) fun D σ H ⟨ρ, s, r, o⟩ => by
  refine ⟨ρ, s, r, o.bind.mono fun l s1 q ρ1 H1 J st it => ?_⟩
  refine ⟨fun i k σ' H' => k = l.length - i ∧ i ≤ l.length ∧ ∃ ρ' s', Stp Θ ρ1 s1 σ H1 ρ' s' σ' H' ∧ Out Θ (forL g m (l.drop i) s') fun f s2 => ∀ ρ2 σ2 H2, Stp Θ ρ' s' σ' H' ρ2 s2 σ2 H2 → FlwR (vw Θ ρ2 s2.env σ2 H2) D σ2 H2 f,
    ⟨l.length, by simp, Nat.zero_le _, ρ1, s1, st.r.here, q.mono fun f s2 q2 ρ2 σ2 H2 st2 => q2 ρ2 σ2 H2 (st.trans st2)⟩, ?_⟩
  rintro i k σ' H' ⟨rfl, hi, ρ', s', st', o'⟩
  have ok := it _ st'.le fun a h => st'.r.tracked h
  by_cases hlt : i < l.length
  · refine .inr ?_
    have ex : l[i]? = some l[i] := by simp [hlt]
    obtain ⟨go, yl⟩ := ok.1 i _ ex
    refine ⟨go, fun σ3 H3 => l.length - (i + 1) = l.length - (i + 1) ∧ i + 1 ≤ l.length ∧ ∃ ρ' s', Stp Θ ρ1 s1 σ H1 ρ' s' σ3 H3 ∧ Out Θ (forL g m (l.drop (i + 1)) s') fun f s2 => ∀ ρ2 σ2 H2, Stp Θ ρ' s' σ3 H3 ρ2 s2 σ2 H2 → FlwR (vw Θ ρ2 s2.env σ2 H2) D σ2 H2 f,
      fun σ3 H3 n3 => ⟨l.length - (i + 1), by omega, n3⟩, fun v H'' y => ?_⟩
    obtain ⟨gr, rv⟩ := yl v H'' y
    have st2 := st'.r.grow gr
    rw [List.drop_eq_getElem_cons hlt] at o'
    refine ⟨ρ', s', l[i], st2.r, rv, o'.bind.mono fun _ s3 q3 ρ3 σ3 H3 st3 _ => ⟨ρ3, s3, st3.r, q3.bind.mono fun f s4 q4 ρ4 σ4 H4 st4 => ?_⟩⟩
    have stA := st2.trans (st3.trans st4)
    cases f with
    | nx => exact ⟨rfl, hlt, ρ4, s4, st'.trans stA, q4.mono fun f s2 q2 ρ2 σ2 H2 st5 => q2 ρ2 σ2 H2 (stA.trans st5)⟩
    | ct => exact ⟨rfl, hlt, ρ4, s4, st'.trans stA, q4.mono fun f s2 q2 ρ2 σ2 H2 st5 => q2 ρ2 σ2 H2 (stA.trans st5)⟩
    | bk => exact q4 ρ4 σ4 H4 stA
    | rt v => exact fun u ru => q4 ρ4 σ4 H4 stA u ru
  · have e' : i = l.length := by omega
    subst e'
    rw [List.drop_length] at o'
    exact .inl ⟨ok.2 _ (Nat.le_refl _), o' ρ' σ' H' st'.r.here⟩
def whileL (t : M Bool) (body : M Flw) : Nat → M Flw
  | 0 => M.no
  | n + 1 => M.bind t fun b => if b = true then M.bind body fun f => match f with
    | .nx => whileL t body n
    | .ct => whileL t body n
    | .bk => mNx
    | .rt v => M.pure (.rt v)
    else mNx
def mWhile (n : Nat) (t : M Bool) (body : M Flw) : M Flw := whileL t body n
theorem s_while {n : Nat} (hp : PassesOwn (model X.prog X.w) X.A X.env X.xe) (hc : PT X c (tT Θ t)) (hb : PSs X body (tS Θ m)) : PS X (.While c body [] pos) (tS Θ (mWhile n t m)) := psLe (ps_while hp hc hb) fun D σ H ⟨ρ, s, r, o⟩ => by
  refine ⟨fun k σ' H' => ∃ ρ' s', Stp Θ ρ s σ H ρ' s' σ' H' ∧ Out Θ (whileL t m k s') fun f s2 => ∀ ρ2 σ2 H2, Stp Θ ρ' s' σ' H' ρ2 s2 σ2 H2 → FlwR (vw Θ ρ2 s2.env σ2 H2) D σ2 H2 f,
    ⟨n, ρ, s, r.here, o⟩, ?_⟩
  rintro k σ' H' ⟨ρ', s', st', o'⟩
  cases k with
  | zero => exact o'.elim
  | succ k =>
    refine ⟨ρ', s', st'.r, o'.bind.mono fun b s3 q3 ρ3 H3 b' st3 eb => ?_⟩
    subst eb
    cases b' with
    | true =>
      rw [if_pos rfl] at q3 ⊢
      refine ⟨fun σ4 H4 => ∃ ρ' s', Stp Θ ρ s σ H ρ' s' σ4 H4 ∧ Out Θ (whileL t m k s') fun f s2 => ∀ ρ2 σ2 H2, Stp Θ ρ' s' σ4 H4 ρ2 s2 σ2 H2 → FlwR (vw Θ ρ2 s2.env σ2 H2) D σ2 H2 f, fun σ4 H4 n4 => ⟨k, Nat.lt_succ_self k, n4⟩, ρ3, s3, st3.r, q3.bind.mono fun f s4 q4 ρ4 σ4 H4 st4 => ?_⟩
      have stA := st3.trans st4
      cases f with
      | nx => exact ⟨ρ4, s4, st'.trans stA, q4.mono fun f s2 q2 ρ2 σ2 H2 st5 => q2 ρ2 σ2 H2 (stA.trans st5)⟩
      | ct => exact ⟨ρ4, s4, st'.trans stA, q4.mono fun f s2 q2 ρ2 σ2 H2 st5 => q2 ρ2 σ2 H2 (stA.trans st5)⟩
      | bk => exact q4 ρ4 σ4 H4 stA
      | rt v => exact fun u ru => q4 ρ4 σ4 H4 stA u ru
    | false =>
      rw [if_neg Bool.false_ne_true] at q3 ⊢
      exact q3 ρ3 σ' H3 st3
end
end Mi
set_option Elab.async false
set_option linter.all false
set_option maxRecDepth 100000
namespace Mi
open PySem L2 PyProof.Rows

variable {Θ : Fx} {ρ ρ' : List Addr} {s s' : S} {σ σ' : L2.St} {H H' : Hp} {X : Cx} {K : PySem.W.Frag}

/-! ### comprehensions -/
/-- the slots matter only where something is known of them -/
theorem StR.congr (r : StR Θ ρ s σ H) (hl : σ'.length = σ.length) (h : ∀ (i : Nat) (x : Slot), s.env[i]? = some x → x ≠ .emp → σ'[i]? = σ[i]?) : Stp Θ ρ s σ H ρ s σ' H := by
  have hO : ∀ a, Ow σ' s.env a → Ow σ s.env a := fun a ⟨i, h1, h2⟩ => by
    have h2' := own_iff.mp h2
    obtain ⟨x, e, hx⟩ := h2'
    exact ⟨i, by rw [← h i x e (by rintro rfl; cases hx)]; exact h1, h2⟩
  have le : Vw.Le (vw Θ ρ s.env σ H) (vw Θ ρ s.env σ' H) := vw_less hO
  refine ⟨⟨hl.trans r.len, r.slen, fun i x e => ?_, fun i a o e1 e2 => (r.obj i a o e1 e2).mono le rfl, r.nd, fun a q => r.sep a (hO a q), fun i j a h1 h2 h3 h4 => ?_, fun a f => ⟨(r.fo a f).1, (r.fo a f).2.1, fun q => (r.fo a f).2.2 (hO a q)⟩, r.base.trans le, r.fkeep, fun i c fs e => by rw [h i _ e (by simp)]; exact r.self i c fs e⟩, le⟩
  · have q := r.slot i x e
    cases x with
    | emp => trivial
    | val v => rw [h i _ e (by simp)]; obtain ⟨u, h1, h2⟩ := q; exact ⟨u, h1, h2.mono le⟩
    | own l => rw [h i _ e (by simp)]; obtain ⟨a, vs, h1, h2, h3⟩ := q; exact ⟨a, vs, h1, h2, h3.mono le⟩
    | ins c fs => rw [h i _ e (by simp)]; obtain ⟨a, dx, gs, h1, h2, h3⟩ := q; exact ⟨a, dx, gs, h1, h2, h3.mono le⟩
  · have d : ∀ k : Nat, ((∃ l, s.env[k]? = some (.own l)) ∨ ∃ c fs, s.env[k]? = some (.ins c fs)) → σ'[k]? = some (some (.ref a)) → σ[k]? = some (some (.ref a)) := fun k z q => by
      obtain ⟨x, e, hx⟩ := own_iff.mp z
      rw [← h k x e (by rintro rfl; cases hx)]; exact q
    exact r.one i j a (d i h3 h1) (d j h4 h2) h3 h4
/-- slots forgotten on the mirror's side -/
def wipeE (ws : List Nat) (env : List Slot) : List Slot := ws.foldr (fun i e => e.set i .emp) env
theorem wipeE_get {env : List Slot} {j : Nat} : ∀ {ws : List Nat} {x : Slot}, (wipeE ws env)[j]? = some x → x ≠ .emp → j ∉ ws ∧ env[j]? = some x
  | [], x, h, _ => ⟨by simp, h⟩
  | i :: ws, x, h, n => by
    have h : ((wipeE ws env).set i .emp)[j]? = some x := h
    by_cases hj : i = j
    · subst hj
      rw [List.getElem?_set_self'] at h
      cases q : (wipeE ws env)[i]? with
      | none => rw [q] at h; cases h
      | some y => rw [q] at h; cases h; exact absurd rfl n
    · rw [List.getElem?_set_ne hj] at h
      obtain ⟨h1, h2⟩ := wipeE_get h n
      exact ⟨by simp only [List.mem_cons, not_or]; exact ⟨fun e => hj e.symm, h1⟩, h2⟩
theorem wipeE_len {env : List Slot} : ∀ {ws : List Nat}, (wipeE ws env).length = env.length
  | [] => rfl
  | i :: ws => by show ((wipeE ws env).set i .emp).length = _; rw [List.length_set, wipeE_len]
theorem StR.wipeE (r : StR Θ ρ s σ H) (ws : List Nat) : Stp Θ ρ s σ H ρ { s with env := wipeE ws s.env } σ H := by
  have d : ∀ (k : Nat) (x : Slot), (Mi.wipeE ws s.env)[k]? = some x → x ≠ .emp → s.env[k]? = some x := fun k x e n => (wipeE_get e n).2
  have dO : ∀ k : Nat, ((∃ l, (Mi.wipeE ws s.env)[k]? = some (.own l)) ∨ ∃ c fs, (Mi.wipeE ws s.env)[k]? = some (.ins c fs)) → ((∃ l, s.env[k]? = some (.own l)) ∨ ∃ c fs, s.env[k]? = some (.ins c fs)) := fun k z => by
    obtain ⟨x, e, hx⟩ := own_iff.mp z
    exact own_iff.mpr ⟨x, d k x e (by rintro rfl; cases hx), hx⟩
  have hO : ∀ a, Ow σ (Mi.wipeE ws s.env) a → Ow σ s.env a := fun a ⟨i, h1, h2⟩ => ⟨i, h1, dO i h2⟩
  have le : Vw.Le (vw Θ ρ s.env σ H) (vw Θ ρ (Mi.wipeE ws s.env) σ H) := vw_less hO
  refine ⟨⟨r.len.trans wipeE_len.symm, r.slen, fun i x e => ?_, fun i a o e1 e2 => (r.obj i a o e1 e2).mono le rfl, r.nd, fun a q => r.sep a (hO a q), fun i j a h1 h2 h3 h4 => r.one i j a h1 h2 (dO i h3) (dO j h4), fun a f => ⟨(r.fo a f).1, (r.fo a f).2.1, fun q => (r.fo a f).2.2 (hO a q)⟩, r.base.trans le, r.fkeep, fun i c fs e => r.self i c fs (d i _ e (by simp))⟩, le⟩
  cases x with
  | emp => trivial
  | val v => have q := r.slot i _ (d i _ e (by simp)); obtain ⟨u, h1, h2⟩ := q; exact ⟨u, h1, h2.mono le⟩
  | own l => have q := r.slot i _ (d i _ e (by simp)); obtain ⟨a, vs, h1, h2, h3⟩ := q; exact ⟨a, vs, h1, h2, h3.mono le⟩
  | ins c fs => have q := r.slot i _ (d i _ e (by simp)); obtain ⟨a, dx, gs, h1, h2, h3⟩ := q; exact ⟨a, dx, gs, h1, h2, h3.mono le⟩
theorem wipe_in {σ : L2.St} {j : Nat} : ∀ {ws : List Nat}, j ∈ ws → j < σ.length → (wipe σ ws)[j]? = some none
  | v :: vs, h, hl => by
    unfold wipe
    by_cases hj : v = j
    · subst hj; rw [List.getElem?_set_self (by rw [wipe_length]; exact hl)]
    · rw [List.getElem?_set_ne hj]
      exact wipe_in (by rcases List.mem_cons.mp h with e | e; exact absurd e.symm hj; exact e) hl
theorem wipe_only {σ σ' : L2.St} {ws us : List Nat} (h : Only us σ σ') (hs : ∀ i ∈ us, i ∈ ws) : wipe σ' ws = wipe σ ws := by
  apply List.ext_getElem?
  intro j
  by_cases hj : j ∈ ws
  · by_cases hl : j < σ.length
    · rw [wipe_in hj hl, wipe_in hj (by rw [h.1]; exact hl)]
    · rw [List.getElem?_eq_none (by rw [wipe_length, h.1]; omega), List.getElem?_eq_none (by rw [wipe_length]; omega)]
  · rw [wipe_out hj, wipe_out hj]; exact h.2 j fun z => hj (hs j z)
theorem wipe_wipe {σ : L2.St} {ws : List Nat} : wipe (wipe σ ws) ws = wipe σ ws := by
  apply List.ext_getElem?
  intro j
  by_cases hj : j ∈ ws
  · by_cases hl : j < σ.length
    · rw [wipe_in hj hl, wipe_in hj (by rw [wipe_length]; exact hl)]
    · rw [List.getElem?_eq_none (by rw [wipe_length, wipe_length]; omega), List.getElem?_eq_none (by rw [wipe_length]; omega)]
  · rw [wipe_out hj]
/-- one more object that must not be touched: the list that is being made -/
def plusF (Θ : Fx) (D : Addr) (w0 : Vw) : Fx := ⟨Θ.K, fun a => Θ.F a ∨ a = D, w0, EXof Θ.K (fun a => Θ.F a ∨ a = D) w0 (fun _ _ _ => False), Θ.me⟩
def erase (H : Hp) (D : Addr) : Hp := fun a => if a = D then none else H a
theorem erase_ne {D a : Addr} (h : a ≠ D) : erase H D a = H a := by unfold erase; rw [if_neg h]
theorem erase_at {D : Addr} : erase H D D = none := by unfold erase; rw [if_pos rfl]
theorem upd_erase {D : Addr} {o : HO} : upd H D o = upd (erase H D) D o := by
  funext b; unfold upd erase; split <;> rfl
theorem StR.plus (r : StR Θ ρ s σ H) {D : Addr} {vs : List V} (hD : H D = none) {w0 : Vw} (hw : w0 = ⟨Θ.K, upd H D (.lst vs), fun a => a ∈ ρ ∨ (Ow σ s.env a ∨ (Θ.F a ∨ a = D)), ρ⟩) :
    StR (plusF Θ D w0) ρ s σ (upd H D (.lst vs)) ∧ (vw Θ ρ s.env σ H).Le (vw (plusF Θ D w0) ρ s.env σ (upd H D (.lst vs))) := by
  have ne : ∀ a o, H a = some o → a ≠ D := fun a o e z => by subst z; rw [hD] at e; cases e
  have le : (vw Θ ρ s.env σ H).Le (vw (plusF Θ D w0) ρ s.env σ (upd H D (.lst vs))) := ⟨rfl, fun _ _ e => e, fun a o e n =>
    ⟨(upd_ne (ne a o e)).trans e, fun q => q.elim (fun q => n (.inl q)) fun q => q.elim (fun q => n (.inr (.inl q))) fun q => q.elim (fun q => n (.inr (.inr q))) fun q => ne a o e q⟩⟩
  have nL : ∀ a, (a ∈ ρ ∨ (Ow σ s.env a ∨ Θ.F a)) → a ≠ D := fun a h => let ⟨o, e⟩ := r.tracked h; ne a o e
  refine ⟨⟨r.len, r.slen, fun i x e => ?_, fun i a o e1 e2 => (r.obj i a o e1 e2).mono le (upd_ne (nL a (.inl (List.mem_of_getElem? e1)))), r.nd, r.sep, r.one, fun a f => ?_, ?_, fun a o _ q => ?_, r.self⟩, le⟩
  · have q := r.slot i x e
    cases x with
    | emp => trivial
    | val v => obtain ⟨u, h1, h2⟩ := q; exact ⟨u, h1, h2.mono le⟩
    | own l => obtain ⟨a, us, h1, h2, h3⟩ := q; exact ⟨a, us, h1, (upd_ne (nL a (.inr (.inl ⟨i, h1, .inl ⟨l, e⟩⟩)))).trans h2, h3.mono le⟩
    | ins c fs => obtain ⟨a, dx, gs, h1, h2, h3⟩ := q; exact ⟨a, dx, gs, h1, (upd_ne (nL a (.inr (.inl ⟨i, h1, .inr ⟨c, fs, e⟩⟩)))).trans h2, h3.mono le⟩
  · rcases f with f | rfl
    · obtain ⟨⟨o, e⟩, h2⟩ := r.fo a f
      exact ⟨⟨o, (upd_ne (ne a o e)).trans e⟩, h2⟩
    · exact ⟨⟨_, upd_same⟩, fun q => nL _ (.inl q) rfl, fun q => nL _ (.inr (.inl q)) rfl⟩
  · subst hw; exact .refl _
  · subst hw; exact q
theorem StR.minus {D : Addr} {w0 : Vw} (r' : StR (plusF Θ D w0) ρ' s' σ' H') (b0 : Vw.Le Θ.w0 w0) (fk : ∀ a o, Θ.F a → Θ.w0.H a = some o → w0.H a = some o) (hD : ∀ a, Θ.F a → a ≠ D) :
    StR Θ ρ' s' σ' (erase H' D) ∧ (vw (plusF Θ D w0) ρ' s'.env σ' H').Le (vw Θ ρ' s'.env σ' (erase H' D)) := by
  have le : (vw (plusF Θ D w0) ρ' s'.env σ' H').Le (vw Θ ρ' s'.env σ' (erase H' D)) := ⟨rfl, fun _ _ e => e, fun a o e n =>
    ⟨(erase_ne fun z => n (.inr (.inr (.inr z)))).trans e, fun q => n (q.imp id fun q => q.imp id .inl)⟩⟩
  have hDD := r'.fo D (.inr rfl)
  have nL : ∀ a, (a ∈ ρ' ∨ Ow σ' s'.env a) → a ≠ D := fun a h z => by
    subst z
    rcases h with h | h
    · exact hDD.2.1 h
    · exact hDD.2.2 h
  refine ⟨⟨r'.len, r'.slen, fun i x e => ?_, fun i a o e1 e2 => (r'.obj i a o e1 e2).mono le (erase_ne (nL a (.inl (List.mem_of_getElem? e1)))), r'.nd, r'.sep, r'.one, fun a f => ?_, b0.trans (r'.base.trans le), fun a o f q => ?_, r'.self⟩, le⟩
  · have q := r'.slot i x e
    cases x with
    | emp => trivial
    | val v => obtain ⟨u, h1, h2⟩ := q; exact ⟨u, h1, h2.mono le⟩
    | own l => obtain ⟨a, us, h1, h2, h3⟩ := q; exact ⟨a, us, h1, (erase_ne (nL a (.inr ⟨i, h1, .inl ⟨l, e⟩⟩))).trans h2, h3.mono le⟩
    | ins c fs => obtain ⟨a, dx, gs, h1, h2, h3⟩ := q; exact ⟨a, dx, gs, h1, (erase_ne (nL a (.inr ⟨i, h1, .inr ⟨c, fs, e⟩⟩))).trans h2, h3.mono le⟩
  · obtain ⟨⟨o, e⟩, h2⟩ := r'.fo a (.inl f)
    exact ⟨⟨o, (erase_ne (hD a f)).trans e⟩, h2⟩
  · exact (erase_ne (hD a f)).trans (r'.fkeep a o (.inl f) (fk a o f q))
/-- what raises is not in a comprehension -/
def nox {α : Type} (m : M α) : M α := fun s => match m s with
  | .ex _ _ _ => .no
  | r => r
theorem Out.nox {Θ' : Fx} {α : Type} {m : M α} {Q : α → S → Prop} (h : Out Θ (nox m s) Q) : Out Θ' (m s) Q := by
  unfold Mi.nox at h
  cases e : m s with
  | ok a s' => rw [e] at h; exact h
  | ex c fs s' => rw [e] at h; exact h.elim
  | no => rw [e] at h; exact h.elim
def wipeM (ws : List Nat) : M Unit := fun s => .ok () { s with env := wipeE ws s.env }
def compL (ws : List Nat) (g : IV → M Unit) (t : M Bool) (e : M IV) : List IV → List IV → M (List IV)
  | [], acc => M.pure acc
  | x :: r, acc => M.bind (nox (g x)) fun _ => M.bind (nox t) fun b => if b = true then M.bind (nox e) fun y => if acc.length < szl then M.bind (wipeM ws) fun _ => compL ws g t e r (acc ++ [y]) else M.no
    else M.bind (wipeM ws) fun _ => compL ws g t e r acc
def mComp (ws : List Nat) (mi : M (List IV)) (g : IV → M Unit) (t : M Bool) (e : M IV) : M (List IV) := M.bind mi fun l => M.bind (wipeM ws) fun _ => compL ws g t e l []
def tYesM : M Bool := M.pure true
end Mi
set_option Elab.async false
set_option linter.all false
set_option maxRecDepth 100000
namespace Mi
open PySem L2 PyProof.Rows

variable {Θ : Fx} {ρ ρ' : List Addr} {s s' : S} {σ σ' : L2.St} {H H' : Hp} {X : Cx} {K : PySem.W.Frag}

abbrev E0X : XK := fun _ _ _ => False
def Sub (K : PySem.W.Frag) (Θ' : Fx) : Prop := Θ'.K = K ∧ Θ'.EX = EXof K Θ'.F Θ'.w0 E0X
theorem upd_at {D : Addr} {o : HO} (h : H D = some o) : H = upd (erase H D) D o := by
  funext b
  unfold upd erase
  split
  · rename_i e; subst e; exact h
  · rfl
theorem tLc_of {l : Nat} {ws us : List Nat} {mi : M (List IV)} {g : IV → M Unit} {t : M Bool} {me : M IV} {Q : VK} (hs : ∀ i ∈ us, i ∈ ws) (h : tNw Θ (mComp ws mi g t me) σ H Q) :
    tLc (tI Θ mi) (fun v σ H Q => ∃ Θ', Sub Θ.K Θ' ∧ tGt Θ' us g v σ H Q) (fun σ H Q => ∃ Θ', Sub Θ.K Θ' ∧ tT Θ' t σ H Q) (fun σ H Q => ∃ Θ', Sub Θ.K Θ' ∧ tE Θ' me σ H Q) ws σ H Q := by
  obtain ⟨ρ, s, r, o⟩ := h
  refine ⟨ρ, s, r, o.bind.mono fun l s1 q ρ1 H1 J st it => fun D hD => ?_⟩
  have q := q.bind
  have q : Out Θ (compL ws g t me l [] { s1 with env := wipeE ws s1.env }) _ := q
  have stw := st.r.wipeE ws
  have wz0 : ∀ (i : Nat) (x : Slot), (wipeE ws s1.env)[i]? = some x → x ≠ .emp → i ∉ ws := fun i x e n => (wipeE_get e n).1
  have stc := stw.r.congr (σ' := wipe σ ws) (wipe_length σ ws) fun i x e n => wipe_out (wz0 i x e n)
  have stA := stw.trans stc
  refine ⟨fun i k H' => k = l.length - i ∧ i ≤ l.length ∧ ∃ ρ' s' H0 acc vs, Stp Θ ρ1 s1 σ H1 ρ' s' (wipe σ ws) H0 ∧ H0 D = none ∧ H' = upd H0 D (.lst vs) ∧ RepL (vw Θ ρ' s'.env (wipe σ ws) H0) vs acc ∧
      (∀ (i : Nat) (x : Slot), s'.env[i]? = some x → x ≠ .emp → i ∉ ws) ∧
      Out Θ (compL ws g t me (l.drop i) acc s') (fun l' s2 => ∀ ρ2 H2 vs', Stp Θ ρ' s' (wipe σ ws) H0 ρ2 s2 (wipe σ ws) H2 → (∀ (i : Nat) (x : Slot), s2.env[i]? = some x → x ≠ .emp → i ∉ ws) → H2 D = none → RepL (vw Θ ρ2 s2.env (wipe σ ws) H2) vs' l' → Q (.ref D) (upd H2 D (.lst vs'))),
    ⟨l.length, by simp, Nat.zero_le _, ρ1, _, H1, [], [], stA, hD, rfl, .nil, wz0, q.mono fun l' s2 q2 ρ2 H2 vs' st2 wz hD2 rl => ?_⟩, ?_⟩
  · have back := st2.r.congr (σ' := σ) (wipe_length σ ws).symm fun i x e n => (wipe_out (wz i x e n)).symm
    exact q2 ρ2 H2 D vs' (st.trans (stA.trans (st2.trans back))) hD2 (rl.mono back.le)
  rintro i k H' ⟨rfl, hi, ρ', s', H0, acc, vs, st', hD0, rfl, rl, wz, o'⟩
  obtain ⟨rP, leP⟩ := st'.r.plus (vs := vs) hD0 rfl
  generalize hw0 : (⟨Θ.K, upd H0 D (.lst vs), fun a => a ∈ ρ' ∨ (Ow (wipe σ ws) s'.env a ∨ (Θ.F a ∨ a = D)), ρ'⟩ : Vw) = w0 at rP leP
  have hw0H : w0.H = upd H0 D (.lst vs) := by rw [← hw0]
  have hSub : Sub Θ.K (plusF Θ D w0) := ⟨rfl, rfl⟩
  have ok := it _ (st'.le.trans leP) fun a h => rP.tracked h
  have b0 : Vw.Le Θ.w0 w0 := by
    have := st'.r.base.trans leP
    rw [← hw0]
    exact this
  have hDF : ∀ a, Θ.F a → a ≠ D := fun a f z => by
    obtain ⟨⟨o, e⟩, _⟩ := st'.r.fo a f
    subst z; rw [hD0] at e; cases e
  have fk : ∀ a o, Θ.F a → Θ.w0.H a = some o → w0.H a = some o := fun a o f e => by
    rw [hw0H, upd_ne (hDF a f)]; exact st'.r.fkeep a o f e
  by_cases hlt : i < l.length
  · refine .inr ?_
    have ex : l[i]? = some l[i] := by simp [hlt]
    obtain ⟨go, yl⟩ := ok.1 i _ ex
    -- from a state behind the turn to the next one
    have again : ∀ {ρ5 s5 σ3 H5} {acc' : List IV} {vs' : List V}, Stp (plusF Θ D w0) ρ' s' (wipe σ ws) (upd H0 D (.lst vs)) ρ5 s5 σ3 H5 → wipe σ3 ws = wipe σ ws → σ3.length = σ.length →
        Stp Θ ρ' s' (wipe σ ws) H0 ρ5 { s5 with env := wipeE ws s5.env } (wipe σ ws) (erase H5 D) ∧ (vw (plusF Θ D w0) ρ5 s5.env σ3 H5).Le (vw Θ ρ5 (wipeE ws s5.env) (wipe σ ws) (erase H5 D)) := fun {ρ5 s5 σ3 H5 acc' vs'} st5 hwp hl => by
      have a1 := st5.r.wipeE ws
      have a2 := a1.r.congr (σ' := wipe σ ws) (by rw [wipe_length, hl]) fun i x e n => by
        rw [← hwp]; exact wipe_out (wipeE_get e n).1
      obtain ⟨a3, a4⟩ := a2.r.minus b0 fk hDF
      exact ⟨⟨a3, leP.trans (st5.le.trans (a1.le.trans (a2.le.trans a4)))⟩, a1.le.trans (a2.le.trans a4)⟩
    refine ⟨go, fun H3 => l.length - (i + 1) = l.length - (i + 1) ∧ i + 1 ≤ l.length ∧ ∃ ρ' s' H0 acc vs, Stp Θ ρ1 s1 σ H1 ρ' s' (wipe σ ws) H0 ∧ H0 D = none ∧ H3 = upd H0 D (.lst vs) ∧ RepL (vw Θ ρ' s'.env (wipe σ ws) H0) vs acc ∧
      (∀ (i : Nat) (x : Slot), s'.env[i]? = some x → x ≠ .emp → i ∉ ws) ∧
      Out Θ (compL ws g t me (l.drop (i + 1)) acc s') (fun l' s2 => ∀ ρ2 H2 vs', Stp Θ ρ' s' (wipe σ ws) H0 ρ2 s2 (wipe σ ws) H2 → (∀ (i : Nat) (x : Slot), s2.env[i]? = some x → x ≠ .emp → i ∉ ws) → H2 D = none → RepL (vw Θ ρ2 s2.env (wipe σ ws) H2) vs' l' → Q (.ref D) (upd H2 D (.lst vs'))),
      fun H3 n3 => ⟨l.length - (i + 1), by omega, n3⟩, fun v H'' y => ?_⟩
    obtain ⟨gr, rv⟩ := yl v H'' y
    have st2 := rP.grow gr
    rw [List.drop_eq_getElem_cons hlt] at o'
    refine ⟨plusF Θ D w0, hSub, ρ', s', l[i], st2.r, rv, o'.bind.nox.mono fun _ s3 q3 ρ3 σ3 H3 st3 ol => ?_⟩
    have hwp : wipe σ3 ws = wipe σ ws := (wipe_only ol hs).trans wipe_wipe
    have hl3 : σ3.length = σ.length := ol.1.trans (wipe_length σ ws)
    refine ⟨hwp, plusF Θ D w0, hSub, ρ3, s3, st3.r, q3.bind.nox.mono fun b s4 q4 ρ4 H4 b' st4 eb => ?_⟩
    subst eb
    have wzN : ∀ (s5 : S) (i : Nat) (x : Slot), (wipeE ws s5.env)[i]? = some x → x ≠ .emp → i ∉ ws := fun s5 i x e n => (wipeE_get e n).1
    cases b' with
    | true =>
      rw [if_pos rfl] at q4 ⊢
      refine ⟨plusF Θ D w0, hSub, ρ4, s4, st4.r, q4.bind.nox.mono fun y s5 q5 ρ5 H5 y' st5 ry => ?_⟩
      have stT := st2.trans (st3.trans (st4.trans st5))
      have hat : H5 D = some (.lst vs) := st5.r.fkeep D _ (.inr rfl) (by show w0.H D = _; rw [hw0H]; exact upd_same)
      obtain ⟨n1, n2⟩ := again (acc' := acc) (vs' := vs) stT hwp hl3
      split at q5
      · rename_i hz
        refine ⟨vs, hat, by rw [rl.length]; exact lt_szl hz, rfl, hlt, ρ5, _, erase H5 D, acc ++ [y], vs ++ [y'], st'.trans n1, erase_at, upd_erase, (rl.mono n1.le).append (.cons (ry.mono n2) .nil), wzN s5, ?_⟩
        exact (show Out Θ (compL ws g t me (l.drop (i + 1)) _ _) _ from q5.bind).mono fun l' s6 q6 ρ6 H6 vs6 st6 => q6 ρ6 H6 vs6 (n1.trans st6)
      · exact q5.elim
    | false =>
      rw [if_neg Bool.false_ne_true] at q4 ⊢
      have stT := st2.trans (st3.trans st4)
      have hat : H4 D = some (.lst vs) := st4.r.fkeep D _ (.inr rfl) (by show w0.H D = _; rw [hw0H]; exact upd_same)
      obtain ⟨n1, n2⟩ := again (acc' := acc) (vs' := vs) stT hwp hl3
      exact ⟨rfl, hlt, ρ4, _, erase H4 D, acc, vs, st'.trans n1, erase_at, upd_at hat, rl.mono n1.le, wzN s4, (show Out Θ (compL ws g t me (l.drop (i + 1)) _ _) _ from q4.bind).mono fun l' s6 q6 ρ6 H6 vs6 st6 => q6 ρ6 H6 vs6 (n1.trans st6)⟩
  · have e' : i = l.length := by omega
    subst e'
    rw [List.drop_length] at o'
    exact .inl ⟨ok.2 _ (Nat.le_refl _), o' ρ' H0 vs st'.r.here wz hD0 rl⟩
theorem pe_ex {e : Expr} {t : Fx → TE} {C : Fx → Prop} (h : ∀ Θ', C Θ' → PE X e (t Θ')) : PE X e (fun σ H Q => ∃ Θ', C Θ' ∧ t Θ' σ H Q) := ⟨fun pins s σ H Q I ⟨Θ', c, q⟩ => (h Θ' c).run pins s σ H Q I q⟩
theorem pg_ex {e : Expr} {t : Fx → TG} {C : Fx → Prop} (h : ∀ Θ', C Θ' → PG X e (t Θ')) : PG X e (fun v σ H Q => ∃ Θ', C Θ' ∧ t Θ' v σ H Q) := ⟨fun pins s σ H v u Q I r ⟨Θ', c, q⟩ => (h Θ' c).run pins s σ H v u Q I r q⟩
theorem pts_ex {es : List Expr} {t : Fx → TT} {C : Fx → Prop} (h : ∀ Θ', C Θ' → PTs X es (t Θ')) : PTs X es (fun σ H Q => ∃ Θ', C Θ' ∧ t Θ' σ H Q) := ⟨fun pins s σ H Q I ⟨Θ', c, q⟩ => (h Θ' c).run pins s σ H Q I q⟩
theorem p_none : PTs X [] (tT Θ tYesM) := ⟨fun pins s σ H Q I q => pts_nil.run pins s σ H Q I (by obtain ⟨ρ, s, r, o⟩ := q; exact o ρ H true r.here rfl)⟩
theorem p_one {c : Expr} {t : M Bool} (h : PT X c (tT Θ t)) : PTs X [c] (tT Θ t) := pts_one h
section
variable {elt tg iter : Expr} {ifs : List Expr} {scope : Scope} {own : List (Str × Nat)} {pos : Pos} {us : List Nat} {mi : M (List IV)} {g : IV → M Unit} {t : M Bool} {me : M IV}
/-- the context of a comprehension's block -/
abbrev BX (X : Cx) (scope : Scope) (s : Shared) (H : Hp) (C : Addr) (cl : List (Str × Addr)) (fp : List Addr) : Cx := X.blk s H scope (compEnvC scope cl C X.env) fp
theorem n_comp (hc : X.calm = true) (hN : X.N.Nodup) (hK : Θ.K = X.K) (hi : PI X tg iter (tI Θ mi)) (ok : BlkOk X.N X.env.scope scope own) (hus : ∀ i ∈ us, i ∈ own.map (·.2))
    (hg : ∀ s H C cl fp Θ', Sub X.K Θ' → PG (BX X scope s H C cl fp) tg (tGt Θ' us g)) (ht : ∀ s H C cl fp Θ', Sub X.K Θ' → PTs (BX X scope s H C cl fp) ifs (tT Θ' t)) (he : ∀ s H C cl fp Θ', Sub X.K Θ' → PE (BX X scope s H C cl fp) elt (tE Θ' me))
    (hs : ∀ x, foldedSetIterable iter X.env x = pure x := by intro _; rfl) : PE X (.ListComp elt [⟨tg, iter, ifs, 0⟩] scope pos) (tNw Θ (mComp (own.map (·.2)) mi g t me)) := by
  rw [← hK] at hg ht he
  exact peLe (pe_lc hc hN hi ok (fun s H C cl fp => pg_ex (hg s H C cl fp)) (fun s H C cl fp => pts_ex (ht s H C cl fp)) (fun s H C cl fp => pe_ex (he s H C cl fp)) hs) fun σ H Q q => tLc_of (l := 0) hus q
/-- name = [..] -/
theorem s_ownC {i : Nat} {y : Str} {py spos : Pos} (hc : X.calm = true) (hN : X.N.Nodup) (hK : Θ.K = X.K) (hy : X.N[i]? = some y) (hyl : X.env.scope.names.lookup y = some .local)
    (hsw : swapsWith (.ListComp elt [⟨tg, iter, ifs, 0⟩] scope pos) (some (.Name y py)) spos.line X.env = pure true) (hi : PI X tg iter (tI Θ mi)) (ok : BlkOk X.N X.env.scope scope own) (hus : ∀ i ∈ us, i ∈ own.map (·.2))
    (hg : ∀ s H C cl fp Θ', Sub X.K Θ' → PG (BX X scope s H C cl fp) tg (tGt Θ' us g)) (ht : ∀ s H C cl fp Θ', Sub X.K Θ' → PTs (BX X scope s H C cl fp) ifs (tT Θ' t)) (he : ∀ s H C cl fp Θ', Sub X.K Θ' → PE (BX X scope s H C cl fp) elt (tE Θ' me))
    (hs : ∀ x, foldedSetIterable iter X.env x = pure x := by intro _; rfl) : PS X (.Assign [.Name y py] (.ListComp elt [⟨tg, iter, ifs, 0⟩] scope pos) spos) (tS Θ (mOwn i (mComp (own.map (·.2)) mi g t me))) := by
  rw [← hK] at hg ht he
  exact psLe (ps_setLc hc hN hy hyl hsw hi ok (fun s H C cl fp => pg_ex (hg s H C cl fp)) (fun s H C cl fp => pts_ex (ht s H C cl fp)) (fun s H C cl fp => pe_ex (he s H C cl fp)) hs) fun D σ H q => tS_own (fun _ _ _ z => tLc_of (l := 0) hus z) q
theorem s_setC {i : Nat} {y : Str} {py spos : Pos} (hc : X.calm = true) (hN : X.N.Nodup) (hK : Θ.K = X.K) (hy : X.N[i]? = some y) (hyl : X.env.scope.names.lookup y = some .local)
    (hsw : swapsWith (.ListComp elt [⟨tg, iter, ifs, 0⟩] scope pos) (some (.Name y py)) spos.line X.env = pure true) (hi : PI X tg iter (tI Θ mi)) (ok : BlkOk X.N X.env.scope scope own) (hus : ∀ i ∈ us, i ∈ own.map (·.2))
    (hg : ∀ s H C cl fp Θ', Sub X.K Θ' → PG (BX X scope s H C cl fp) tg (tGt Θ' us g)) (ht : ∀ s H C cl fp Θ', Sub X.K Θ' → PTs (BX X scope s H C cl fp) ifs (tT Θ' t)) (he : ∀ s H C cl fp Θ', Sub X.K Θ' → PE (BX X scope s H C cl fp) elt (tE Θ' me))
    (hs : ∀ x, foldedSetIterable iter X.env x = pure x := by intro _; rfl) : PS X (.Assign [.Name y py] (.ListComp elt [⟨tg, iter, ifs, 0⟩] scope pos) spos) (tS Θ (mSet i (mFl (mComp (own.map (·.2)) mi g t me)))) := by
  rw [← hK] at hg ht he
  exact psLe (ps_setLc hc hN hy hyl hsw hi ok (fun s H C cl fp => pg_ex (hg s H C cl fp)) (fun s H C cl fp => pts_ex (ht s H C cl fp)) (fun s H C cl fp => pe_ex (he s H C cl fp)) hs) fun D σ H q => tS_set (fun _ _ _ z => tLc_of (l := 0) hus (tNw_fl z)) q
end
end Mi
set_option Elab.async false
set_option linter.all false
set_option maxRecDepth 100000
namespace Mi
open PySem L2 PyProof.Rows

variable {Θ : Fx} {ρ ρ' : List Addr} {s s' : S} {σ σ' : L2.St} {H H' : Hp} {X : Cx} {K : PySem.W.Frag}

/-! ### an own list that is read -/
def scI : IV → Bool
  | .non | .bl _ | .int _ | .str _ => true
  | _ => false
theorem sc_any {w w' : Vw} {v : V} {x : IV} (h : scI x = true) (r : RepV w v x) : RepV w' v x := by
  cases r <;> first | (exact absurd (show false = true from h) Bool.false_ne_true) | constructor
/-- slot i's own list as the first operand; what comes is a scalar -/
def mOwnO (f : IV → IV → Option IV) (i : Nat) (mb : M IV) : M IV := fun s => match s.env[i]? with
  | some (.own _) => M.bind mb (fun y s => match s.env[i]? with
    | some (.own l) => match f (.fl l) y with
      | some z => if scI z = true then .ok z s else .no
      | none => .no
    | _ => .no) s
  | _ => .no
/-- a built-in upon it -/
def mOwnA (f : List IV → Option IV) (i : Nat) : M IV := fun s => match s.env[i]? with
  | some (.own l) => match f [.fl l] with
    | some z => if scI z = true then .ok z s else .no
    | none => .no
  | _ => .no
theorem own_rep {l : List IV} {i : Nat} (r : StR Θ ρ s σ H) (e : s.env[i]? = some (.own l)) : ∃ a, σ[i]? = some (some (.ref a)) ∧ RepV (vw Θ ρ (setE i (.val (.fl l)) s).env σ H) (.ref a) (.fl l) := by
  obtain ⟨a, vs, h1, h2, h3⟩ := r.slot i _ e
  have st := r.freeze e
  obtain ⟨v, k1, k2⟩ := st.r.slot i (.val (.fl l)) (by show (s.env.set i _)[i]? = _; rw [List.getElem?_set_self', e]; rfl)
  rw [h1] at k1; cases k1
  exact ⟨a, h1, k2⟩
theorem tE_ownO {r2 : R2} {f : IV → IV → Option IV} {i : Nat} {mb : M IV} {Q : VK} (hr : OpS Θ r2 f) (h : tE Θ (mOwnO f i mb) σ H Q) : tOp r2 (tVar i) (tE Θ mb) σ H Q := by
  obtain ⟨ρ, s, r, o⟩ := h
  unfold mOwnO at o
  split at o
  · rename_i l0 e0
    obtain ⟨a, h1, _⟩ := own_rep r e0
    refine ⟨_, h1, ρ, s, r, o.bind.mono fun y s1 q ρ1 H1 yv st ry => ?_⟩
    split at q
    · rename_i l e1
      obtain ⟨a', k1, k2⟩ := own_rep st.r e1
      rw [h1] at k1; cases k1
      split at q
      · rename_i z ez
        split at q
        · rename_i hz
          have fz := st.r.freeze e1
          exact hr ρ1 _ σ H1 (.fl l) y _ yv z Q fz.r k2 (ry.mono fz.le) ez fun H2 v g rv => q ρ1 H2 v (st.trans (st.r.grow g)) (sc_any hz rv)
        · exact q.elim
      · exact q.elim
    · exact q.elim
  · exact o.elim
theorem tE_ownA {rc : List V → Hp → VK → Prop} {f : List IV → Option IV} {i : Nat} {Q : VK} (hr : CaS Θ rc f) (h : tE Θ (mOwnA f i) σ H Q) : tCB rc (tCons (tVar i) tNil) σ H Q := by
  obtain ⟨ρ, s, r, o⟩ := h
  unfold mOwnA at o
  split at o
  · rename_i l e1
    obtain ⟨a, h1, k2⟩ := own_rep r e1
    refine ⟨_, h1, ?_⟩
    split at o
    · rename_i z ez
      split at o
      · rename_i hz
        have fz := r.freeze e1
        exact hr ρ _ σ H [.fl l] [.ref a] z Q fz.r (.cons k2 .nil) ez fun H2 v g rv => o ρ H2 v (r.grow g) (sc_any hz rv)
      · exact o.elim
    · exact o.elim
  · exact o.elim
/-- found[k], found own -/
def mOwnIx (i : Nat) (mb : M IV) : M IV := fun s => match s.env[i]? with
  | some (.own _) => M.bind mb (fun y s => match s.env[i]?, y with
    | some (.own l), .int k => match atI l k with
      | some z => .ok z s
      | none => .no
    | _, _ => .no) s
  | _ => .no
theorem tE_ownIx {i : Nat} {mb : M IV} {Q : VK} (hK : Θ.K = K) (h : tE Θ (mOwnIx i mb) σ H Q) : tOp (rIx K) (tVar i) (tE Θ mb) σ H Q := by
  obtain ⟨ρ, s, r, o⟩ := h
  unfold mOwnIx at o
  split at o
  · rename_i l0 e0
    obtain ⟨a, h1, _⟩ := own_rep r e0
    refine ⟨_, h1, ρ, s, r, o.bind.mono fun y s1 q ρ1 H1 yv st ry => ?_⟩
    split at q
    · rename_i l k e1
      obtain ⟨a', vs, k1, k2, k3⟩ := st.r.slot i _ e1
      rw [h1] at k1; cases k1
      split at q
      · rename_i z ez
        obtain ⟨v, e2, rv⟩ := atI_rep k3 ez
        cases ry
        exact .inl ⟨_, vs, k, v, rfl, rfl, SqL.of k2, e2, q ρ1 H1 v st rv⟩
      · exact q.elim
    · exact q.elim
  · exact o.elim
section
variable {a b c e : Expr} {ma mb mc : M IV} {pos p p1 : Pos} {mr : M (List IV)} {es : List Expr} {i : Nat} {x y : Str}
theorem e_ownIx (hK : Θ.K = X.K) (hN : X.N[i]? = some x := by rfl) (hv : Vis X.env.scope x := by first | exact Or.inl rfl | exact Or.inr (Or.inl rfl) | exact Or.inr (Or.inr rfl)) (hb : PE X b (tE Θ mb)) (hs : PlainIx b) (hd : (x == ("__debug__" : Str)) = false := by decide) (hcd : (x == ("__classdict__" : Str)) = false := by decide) :
    PE X (.Subscript (.Name x p1) b pos) (tE Θ (mOwnIx i mb)) := peLe (pe_ix ix_seq (pe_var hN hv hd hcd) hb hs) fun _ _ _ h => tE_ownIx hK h
theorem e_ownCmp {op : CmpOp} {r : R2} {f : IV → IV → Option IV} (hN : X.N[i]? = some x := by rfl) (hv : Vis X.env.scope x := by first | exact Or.inl rfl | exact Or.inr (Or.inl rfl) | exact Or.inr (Or.inr rfl)) (ho : OpR X (compareOp op) r) (hr : OpS Θ r f) (hb : PE X b (tE Θ mb)) (hm : behindInMarks op b = false) (hd : (x == ("__debug__" : Str)) = false := by decide) (hcd : (x == ("__classdict__" : Str)) = false := by decide) :
    PE X (.Compare (.Name x p1) [op] [b] pos) (tE Θ (mOwnO f i mb)) := peLe (pe_cmpR ho (pe_var hN hv hd hcd) hb hm) fun _ _ _ h => tE_ownO hr h
theorem t_ownCmp {op : CmpOp} {r : R2} {f : IV → IV → Option IV} (hN : X.N[i]? = some x := by rfl) (hv : Vis X.env.scope x := by first | exact Or.inl rfl | exact Or.inr (Or.inl rfl) | exact Or.inr (Or.inr rfl)) (ho : OpR X (compareOp op) r) (hr : OpS Θ r f) (hb : PE X b (tE Θ mb)) (hm : behindInMarks op b = false) (hd : (x == ("__debug__" : Str)) = false := by decide) (hcd : (x == ("__classdict__" : Str)) = false := by decide) :
    PT X (.Compare (.Name x p1) [op] [b] pos) (tT Θ (mTst (mOwnO f i mb))) := ptLe (pt_cmpR ho (pe_var hN hv hd hcd) hb hm) fun σ H Q q => tst_of q fun _ z => tE_ownO hr z
theorem e_ownB {id : String} {r : List V → Hp → VK → Prop} {f : List IV → Option IV} (hN : X.N[i]? = some y := by rfl) (hv : Vis X.env.scope y := by first | exact Or.inl rfl | exact Or.inr (Or.inl rfl) | exact Or.inr (Or.inr rfl)) (hc : CallR X (.builtin id) r) (hr : CaS Θ r f) (hg : Gl X x) (hm : X.mg x = none) (hvv : bootBuiltins x = some (.builtin id)) (hn : x ≠ "__name__" := by decide) (hdb : (x == ("__debug__" : Str)) = false := by decide)
    (hd : (y == ("__debug__" : Str)) = false := by decide) (hcd : (y == ("__classdict__" : Str)) = false := by decide) : PE X (.Call (.Name x p) [.Name y p1] [] pos) (tE Θ (mOwnA f i)) :=
  peLe (pe_callB hc hg hm hvv (pa_cons (pe_var hN hv hd hcd) pa_nil) hn hdb) fun _ _ _ q => tE_ownA hr q
theorem e_ownTy {T : String} {r : List V → Hp → VK → Prop} {f : List IV → Option IV} (hN : X.N[i]? = some y := by rfl) (hv : Vis X.env.scope y := by first | exact Or.inl rfl | exact Or.inr (Or.inl rfl) | exact Or.inr (Or.inr rfl)) (hc : CallR X (.type T) r) (hr : CaS Θ r f) (hg : Gl X x) (hm : X.mg x = none) (hvv : bootBuiltins x = some (.type T)) (hn : x ≠ "__name__" := by decide) (hdb : (x == ("__debug__" : Str)) = false := by decide)
    (hd : (y == ("__debug__" : Str)) = false := by decide) (hcd : (y == ("__classdict__" : Str)) = false := by decide) : PE X (.Call (.Name x p) [.Name y p1] [] pos) (tE Θ (mOwnA f i)) :=
  peLe (pe_callTy hc hg hm hvv (pa_cons (pe_var hN hv hd hcd) pa_nil) hn hdb) fun _ _ _ q => tE_ownA hr q
end

/-! ### lists of the store -/
theorem StR.setSto (r : StR Θ ρ s σ H) {j : Nat} {a : Addr} {l0 l : List IV} {vs : List V} (e : ρ[j]? = some a) (e0 : s.sto[j]? = some (.lst l0)) (hl : RepL (vw Θ ρ s.env σ H) vs l) :
    Stp Θ ρ s σ H ρ { s with sto := s.sto.set j (.lst l) } σ (upd H a (.lst vs)) := by
  have am : a ∈ ρ := List.mem_of_getElem? e
  have le : (vw Θ ρ s.env σ H).Le (vw Θ ρ s.env σ (upd H a (.lst vs))) := ⟨rfl, fun _ _ q => q, fun b o q n => ⟨(upd_ne fun z => n (.inl (by rw [z]; exact am))).trans q, n⟩⟩
  refine ⟨⟨r.len, by simp [r.slen], fun i x q => ?_, fun i b o e1 e2 => ?_, r.nd, r.sep, r.one, fun b f => ?_, r.base.trans le, fun b o f q => ?_, r.self⟩, le⟩
  · have z := r.slot i x q
    cases x with
    | emp => trivial
    | val v => obtain ⟨u, h1, h2⟩ := z; exact ⟨u, h1, h2.mono le⟩
    | own k => obtain ⟨b, us, h1, h2, h3⟩ := z; exact ⟨b, us, h1, (upd_ne fun z => r.sep b ⟨i, h1, .inl ⟨k, q⟩⟩ (by rw [z]; exact am)).trans h2, h3.mono le⟩
    | ins c fs => obtain ⟨b, dx, gs, h1, h2, h3⟩ := z; exact ⟨b, dx, gs, h1, (upd_ne fun z => r.sep b ⟨i, h1, .inr ⟨c, fs, q⟩⟩ (by rw [z]; exact am)).trans h2, h3.mono le⟩
  · by_cases hj : j = i
    · subst hj
      rw [e] at e1; cases e1
      have e2 : (s.sto.set j (.lst l))[j]? = some o := e2
      rw [List.getElem?_set_self', e0] at e2
      cases e2
      exact ⟨vs, upd_same, hl.mono le⟩
    · have e2 : (s.sto.set j (.lst l))[i]? = some o := e2
      rw [List.getElem?_set_ne hj] at e2
      exact (r.obj i b o e1 e2).mono le (upd_ne fun z => hj (r.nd j i a e (by rw [← z]; exact e1)))
  · obtain ⟨⟨o, q⟩, n1, n2⟩ := r.fo b f
    exact ⟨⟨o, (upd_ne fun z => n1 (by rw [z]; exact am)).trans q⟩, n1, n2⟩
  · exact (upd_ne fun z => (r.fo b f).2.1 (by rw [z]; exact am)).trans (r.fkeep b o f q)
theorem StR.alloc (r : StR Θ ρ s σ H) {p : Addr} {l : List IV} {vs : List V} (hp : H p = none) (hl : RepL (vw Θ ρ s.env σ H) vs l) :
    Stp Θ ρ s σ H (ρ ++ [p]) { s with sto := s.sto ++ [.lst l] } σ (upd H p (.lst vs)) := by
  have ne : ∀ a o, H a = some o → a ≠ p := fun a o e z => by subst z; rw [hp] at e; cases e
  have nL : ∀ a, (a ∈ ρ ∨ (Ow σ s.env a ∨ Θ.F a)) → a ≠ p := fun a h => let ⟨o, e⟩ := r.tracked h; ne a o e
  have le : (vw Θ ρ s.env σ H).Le (vw Θ (ρ ++ [p]) s.env σ (upd H p (.lst vs))) := ⟨rfl, fun i a q => by
      have q : ρ[i]? = some a := q
      show (ρ ++ [p])[i]? = some a
      rw [List.getElem?_append_left (List.getElem?_eq_some_iff.mp q).1]; exact q, fun b o q n => ⟨(upd_ne (ne b o q)).trans q, fun z => by
      rcases z with z | z
      · rcases List.mem_append.mp z with z | z
        · exact n (.inl z)
        · exact ne b o q (by simpa using z)
      · exact n (.inr z)⟩⟩
  have at_ : ∀ (i : Nat) (a : Addr), (ρ ++ [p])[i]? = some a → ρ[i]? = some a ∨ (i = ρ.length ∧ a = p) := fun i a q => by
    by_cases hi : i < ρ.length
    · rw [List.getElem?_append_left hi] at q; exact .inl q
    · rw [List.getElem?_append_right (by omega)] at q
      have : i - ρ.length = 0 := by
        have := (List.getElem?_eq_some_iff.mp q).1
        simp at this; omega
      rw [this] at q
      simp at q
      exact .inr ⟨by omega, q.symm⟩
  refine ⟨⟨r.len, by simp [r.slen], fun i x q => ?_, fun i b o e1 e2 => ?_, fun i j a h1 h2 => ?_, fun a h z => ?_, r.one, fun b f => ?_, r.base.trans le, fun b o f q => ?_, r.self⟩, le⟩
  · have z := r.slot i x q
    cases x with
    | emp => trivial
    | val v => obtain ⟨u, h1, h2⟩ := z; exact ⟨u, h1, h2.mono le⟩
    | own k => obtain ⟨b, us, h1, h2, h3⟩ := z; exact ⟨b, us, h1, (upd_ne (nL b (.inr (.inl ⟨i, h1, .inl ⟨k, q⟩⟩)))).trans h2, h3.mono le⟩
    | ins c fs => obtain ⟨b, dx, gs, h1, h2, h3⟩ := z; exact ⟨b, dx, gs, h1, (upd_ne (nL b (.inr (.inl ⟨i, h1, .inr ⟨c, fs, q⟩⟩)))).trans h2, h3.mono le⟩
  · have e2 : (s.sto ++ [.lst l])[i]? = some o := e2
    rcases at_ i b e1 with e1 | ⟨rfl, rfl⟩
    · have hi : i < s.sto.length := by rw [← r.slen]; exact (List.getElem?_eq_some_iff.mp e1).1
      rw [List.getElem?_append_left hi] at e2
      exact (r.obj i b o e1 e2).mono le (upd_ne (nL b (.inl (List.mem_of_getElem? e1))))
    · rw [r.slen, List.getElem?_append_right (Nat.le_refl _), Nat.sub_self] at e2
      simp at e2
      subst e2
      exact ⟨vs, upd_same, hl.mono le⟩
  · rcases at_ i a h1 with k1 | ⟨k1, k1'⟩
    · rcases at_ j a h2 with k2 | ⟨k2, k2'⟩
      · exact r.nd i j a k1 k2
      · exact absurd k2' (nL _ (.inl (List.mem_of_getElem? k1)))
    · rcases at_ j a h2 with k2 | ⟨k2, _⟩
      · exact absurd k1' (nL _ (.inl (List.mem_of_getElem? k2)))
      · rw [k1, k2]
  · rcases List.mem_append.mp z with z | z
    · exact r.sep a h z
    · exact nL a (.inr (.inl h)) (by simpa using z)
  · obtain ⟨⟨o, q⟩, n1, n2⟩ := r.fo b f
    refine ⟨⟨o, (upd_ne (ne b o q)).trans q⟩, fun z => ?_, n2⟩
    rcases List.mem_append.mp z with z | z
    · exact n1 z
    · exact ne b o q (by simpa using z)
  · exact (upd_ne (nL b (.inr (.inr f)))).trans (r.fkeep b o f q)
/-- a new list that lives in the store -/
def mRf (m : M (List IV)) : M IV := M.bind m fun l s => .ok (.ref s.sto.length) { s with sto := s.sto ++ [.lst l] }
theorem e_newR {e : Expr} {m : M (List IV)} (he : PE X e (tNw Θ m)) : PE X e (tE Θ (mRf m)) := peLe he fun σ H Q ⟨ρ, s, r, o⟩ =>
  ⟨ρ, s, r, o.bind.mono fun l s1 q ρ1 H0 p vs st hp rl => by
    have st2 := st.r.alloc hp rl
    refine q _ _ _ (st.trans st2) (.ref ?_)
    show (ρ1 ++ [p])[s1.sto.length]? = some p
    rw [← st.r.slen, List.getElem?_append_right (Nat.le_refl _), Nat.sub_self]; rfl⟩
def ixS (μ : List SO) : IV → IV → Option IV
  | .ref j, .int k => match μ[j]? with
    | some (.lst l) => atI l k
    | _ => none
  | x, y => ixV x y
def mIx (ma mb : M IV) : M IV := M.bind ma fun x => M.bind mb fun y s => match ixS s.sto x y with
  | some z => .ok z s
  | none => .no
section
variable {a b c e : Expr} {ma mb mc : M IV} {pos p p1 : Pos} {mr : M (List IV)} {es : List Expr} {i : Nat} {x y : Str}
theorem e_ixM (hK : Θ.K = X.K) (ha : PE X a (tE Θ ma)) (hb : PE X b (tE Θ mb)) (hs : PlainIx b) : PE X (.Subscript a b pos) (tE Θ (mIx ma mb)) :=
  peLe (pe_ix ix_seq ha hb hs) fun σ H Q h => by
    refine (tM.bind (R := RepV) h).imp fun x H1 ⟨ρ1, s1, xi, r1, rx, o1⟩ => ?_
    refine ⟨ρ1, s1, r1, o1.bind.mono fun yi s2 q ρ2 H2 y st2 ry => ?_⟩
    split at q
    · rename_i z ez
      unfold ixS at ez
      split at ez
      · rename_i j k
        split at ez
        · rename_i l el
          cases ry
          cases rx with | ref hj =>
          have hj2 := st2.le.pre _ _ hj
          obtain ⟨vs, h1, h2⟩ := st2.r.obj j _ _ hj2 el
          obtain ⟨v, e2, rv⟩ := atI_rep h2 ez
          exact .inl ⟨_, vs, k, v, rfl, rfl, SqL.of h1, e2, q ρ2 H2 v st2 rv⟩
        · cases ez
      · exact ixV_ok hK ρ2 s2 σ H2 xi yi x y z Q st2.r (rx.mono st2.le) ry ez fun H3 v g rv => q ρ2 H3 v (st2.trans (st2.r.grow g)) rv
    · exact q.elim
/-- o[i] = v, o a list of the store -/
def mSetIx (mv mo mi : M IV) : M Flw := M.bind mv fun v => M.bind mo fun o => M.bind mi fun i s => match o, i with
  | .ref j, .int k => match s.sto[j]? with
    | some (.lst l) => match ixN l.length k with
      | some n => .ok .nx { s with sto := s.sto.set j (.lst (l.set n v)) }
      | none => .no
    | _ => .no
  | _, _ => .no
theorem s_setIx (hv : PE X e (tE Θ mc)) (ho : PE X a (tE Θ ma)) (hi : PE X b (tE Θ mb)) (hs : swapsWithSole [.Subscript a b p] e pos.line X.env = pure false := by rfl) (hw : swappedStores [.Subscript a b p] e X.env = pure none := by rfl)
    (h1 : (assignEach [.Subscript a b p] X.env).map (·.2) = [assign (.Subscript a b p) X.env] := by rfl)
    (hq : ∀ v, assign (.Subscript a b p) X.env v = (do
      let ov ← holding [v] (eval a X.env)
      let iv ← holding [v, ov] (eval b X.env)
      standAt p
      holding [v, ov, iv] (setItem ov iv v)
      release [v, ov, iv] []) := by intro _; rfl) : PS X (.Assign [.Subscript a b p] e pos) (tS Θ (mSetIx mc ma mb)) :=
  psLe (ps_asg hv (pg_sub ho hi set_list hq) hs hw h1) fun D σ H h => (tS.bind (R := RepV) h).imp fun v H1 ⟨ρ1, s1, vi, r1, rv, o1⟩ =>
    ⟨ρ1, s1, r1, o1.bind.mono fun oi s2 q2 ρ2 H2 o st2 ro => ⟨ρ2, s2, st2.r, q2.bind.mono fun ii s3 q3 ρ3 H3 iv st3 ri => by
      split at q3
      · rename_i j k
        split at q3
        · rename_i l el
          split at q3
          · rename_i n en
            cases ri
            cases ro with | ref hj =>
            have hj3 := st3.le.pre _ _ hj
            obtain ⟨vs, h1, h2⟩ := st3.r.obj j _ _ hj3 el
            have st4 := st3.r.setSto hj3 el (h2.set ((rv.mono st2.le).mono st3.le) n)
            exact ⟨_, vs, k, n, rfl, rfl, h1, by rw [h2.length]; exact en, q3 ρ3 σ _ (st2.trans (st3.trans st4))⟩
          · exact q3.elim
        · exact q3.elim
      · exact q3.elim⟩⟩
end
end Mi
set_option Elab.async false
set_option linter.all false
set_option maxRecDepth 100000
namespace Mi
open PySem L2 PyProof.Rows

variable {Θ : Fx} {ρ ρ' : List Addr} {s s' : S} {σ σ' : L2.St} {H H' : Hp} {X : Cx} {K : PySem.W.Frag}

/-! ### an instance that is being made -/
/-- slot i's own object is written anew -/
theorem StR.setIns (r : StR Θ ρ s σ H) {i : Nat} {p c dx : Addr} {fs0 fs : List (Str × IV)} {gs : List (Str × V)} (h1 : σ[i]? = some (some (.ref p))) (h2 : s.env[i]? = some (.ins c fs0))
    (hl : RepF (vw Θ ρ s.env σ H) gs fs) : Stp Θ ρ s σ H ρ (setE i (.ins c fs) s) σ (upd H p (.ins c dx gs)) := by
  have pE : ∀ a, a ≠ p → upd H p (.ins c dx gs) a = H a := fun a h => upd_ne h
  have ow : Ow σ s.env p := ⟨i, h1, .inr ⟨c, fs0, h2⟩⟩
  have hO : ∀ a, Ow σ (s.env.set i (.ins c fs)) a → Ow σ s.env a := fun a ⟨j, q1, q2⟩ => by
    by_cases hj : i = j
    · subst hj; rw [h1] at q1; cases q1; exact ow
    · rw [List.getElem?_set_ne hj] at q2; exact ⟨j, q1, q2⟩
  have le : Vw.Le (vw Θ ρ s.env σ H) (vw Θ ρ (s.env.set i (.ins c fs)) σ (upd H p (.ins c dx gs))) := by
    refine ⟨rfl, fun _ _ e => e, fun a o e n => ?_⟩
    have hap : a ≠ p := fun z => n (.inr (.inl (by rw [z]; exact ow)))
    exact ⟨(pE a hap).trans e, fun q => n (q.imp id fun q => q.imp (hO a) id)⟩
  have oth : ∀ (j : Nat) (y : Slot) (a : Addr), i ≠ j → s.env[j]? = some y → isOwn y = true → σ[j]? = some (some (.ref a)) → a ≠ p := fun j y a hj e hy q z => by
    subst z
    exact hj (r.one i j a h1 q (.inr ⟨c, fs0, h2⟩) (own_iff.mpr ⟨y, e, hy⟩))
  have hi : i < s.env.length := (List.getElem?_eq_some_iff.mp h2).1
  refine ⟨⟨by simp [setE, r.len], r.slen, fun j y e => ?_, fun j a o e1 e2 => ?_, r.nd, fun a h => r.sep a (hO a h), fun j k a q1 q2 q3 q4 => ?_, fun a h => ?_, r.base.trans le, fun a o f q => ?_, fun j c' fs' q => by
    by_cases hj : i = j
    · subst hj; exact r.self i c fs0 h2
    · have q : (s.env.set i (.ins c fs))[j]? = some (.ins c' fs') := q
      rw [List.getElem?_set_ne hj] at q
      exact r.self j c' fs' q⟩, le⟩
  · by_cases hj : i = j
    · subst hj
      have e' : (s.env.set i (.ins c fs))[i]? = some (.ins c fs) := by simp [hi]
      have e'' : y = .ins c fs := Option.some.inj (e.symm.trans e')
      subst e''
      exact ⟨p, dx, gs, h1, upd_same, hl.mono le⟩
    · have e' : s.env[j]? = some y := by
        have : (s.env.set i (.ins c fs))[j]? = some y := e
        rwa [List.getElem?_set_ne hj] at this
      have q := r.slot j y e'
      cases y with
      | emp => trivial
      | val z => obtain ⟨u, h1, h2⟩ := q; exact ⟨u, h1, h2.mono le⟩
      | own l => obtain ⟨a, us, k1, k2, k3⟩ := q; exact ⟨a, us, k1, (pE a (oth j _ a hj e' rfl k1)).trans k2, k3.mono le⟩
      | ins c fs => obtain ⟨a, dx, gs, k1, k2, k3⟩ := q; exact ⟨a, dx, gs, k1, (pE a (oth j _ a hj e' rfl k1)).trans k2, k3.mono le⟩
  · exact (r.obj j a o e1 e2).mono le (pE a fun z => r.sep p ow (by rw [← z]; exact List.mem_of_getElem? e1))
  · have d : ∀ m : Nat, ((∃ l, (s.env.set i (.ins c fs))[m]? = some (.own l)) ∨ ∃ c' fs', (s.env.set i (.ins c fs))[m]? = some (.ins c' fs')) → ((∃ l, s.env[m]? = some (.own l)) ∨ ∃ c fs, s.env[m]? = some (.ins c fs)) := fun m z => by
      by_cases hm : i = m
      · subst hm; exact .inr ⟨c, fs0, h2⟩
      · rw [List.getElem?_set_ne hm] at z; exact z
    exact r.one j k a q1 q2 (d j q3) (d k q4)
  · obtain ⟨⟨o, e⟩, n1, n2⟩ := r.fo a h
    have hap : a ≠ p := fun z => n2 (by rw [z]; exact ow)
    exact ⟨⟨o, (pE a hap).trans e⟩, n1, fun q => n2 (hO a q)⟩
  · exact (pE a fun z => (r.fo a f).2.2 (by rw [z]; exact ow)).trans (r.fkeep a o f q)
inductive RI where
  | ok (fs : List (Str × IV)) (μ : List SO) | ex (c : Addr) (fs : List (Str × IV)) (μ : List SO) | no
abbrev FnI := List IV → List SO → RI
def spI (K : PySem.W.Frag) (C : Addr) (fn : FnI) : Sp := fun vs H Q E => ∃ x dx ws H0 ρ μ xs F, vs = .ref x :: ws ∧ H0 x = none ∧ H0 dx = none ∧ dx ≠ x ∧ H = upd (upd H0 dx (.own x)) x (.ins C dx []) ∧ EnR K F ρ μ H0 ∧ RepL (cw K F ρ H0) ws xs ∧ match fn xs μ with
  | .ok fs μ' => ∀ ρ' H' dx' gs, EnR K F ρ' μ' H' → (cw K F ρ H0).Le (cw K F ρ' H') → (∀ a o, F a → H0 a = some o → H' a = some o) → H' x = some (.ins C dx' gs) → ¬ (cw K F ρ' H').L x → RepF (cw K F ρ' H') gs fs → Q .non H'
  | .ex c fs μ' => ∀ ρ' H' d, EnR K F ρ' μ' H' → (cw K F ρ H0).Le (cw K F ρ' H') → (∀ a o, F a → H0 a = some o → H' a = some o) → XDR (cw K F ρ' H') H' d fs → E (.ref c) (some d) H'
  | .no => False
def endI (C : Addr) (f : Flw) (o : Option Slot) (μ : List SO) : RI := match o with
  | some (.ins c fs) => if c = C then (match f with | .nx => .ok fs μ | .rt .non => .ok fs μ | _ => .no) else .no
  | _ => .no
def runI (n np : Nat) (C : Addr) (m : M Flw) : FnI := fun xs μ => if xs.length + 1 = np then (match m ⟨.ins C [] :: (xs.map .val ++ List.replicate (n - 1 - xs.length) .emp), μ⟩ with
  | .ok f s => endI C f s.env[0]? s.sto
  | .ex c fs s => .ex c fs s.sto
  | .no => .no) else .no
theorem start_okI {N : List Str} {F : Addr → Prop} {ws : List V} {xs : List IV} {μ : List SO} {EX : Addr → List (Str × IV) → S → Prop} {x dx C : Addr} {H0 : Hp} (e : EnR K F ρ μ H0) (r : RepL (cw K F ρ H0) ws xs) (hl : ws.length + 1 ≤ N.length) (hx : H0 x = none) (hd : H0 dx = none) (hn : dx ≠ x) :
    StR ⟨K, F, cw K F ρ H0, EX, x⟩ ρ ⟨.ins C [] :: (xs.map .val ++ List.replicate (N.length - 1 - xs.length) .emp), μ⟩ (L2.start N (.ref x :: ws)) (upd (upd H0 dx (.own x)) x (.ins C dx [])) := by
  have hxl := r.length
  have ne : ∀ a o, H0 a = some o → a ≠ x ∧ a ≠ dx := fun a o q => ⟨fun z => (by rw [z, hx] at q; cases q), fun z => (by rw [z, hd] at q; cases q)⟩
  have kp : ∀ a o, H0 a = some o → upd (upd H0 dx (.own x)) x (.ins C dx []) a = some o := fun a o q => by rw [upd_ne (ne a o q).1, upd_ne (ne a o q).2]; exact q
  have env1 : ∀ (i : Nat) (y : Slot), (xs.map Slot.val ++ List.replicate (N.length - 1 - xs.length) Slot.emp)[i]? = some y → isOwn y = false ∧ ∀ z, y = .val z → xs[i]? = some z := fun i y q => by
    by_cases hi : i < xs.length
    · rw [List.getElem?_append_left (by simpa using hi), List.getElem?_map] at q
      cases e' : xs[i]? with
      | none => rw [e'] at q; cases q
      | some z => rw [e'] at q; cases q; exact ⟨rfl, fun z' h => by cases h; rfl⟩
    · rw [List.getElem?_append_right (by simpa using hi)] at q
      have := List.mem_of_getElem? q
      rw [List.mem_replicate] at this
      rw [this.2]; exact ⟨rfl, fun z h => nomatch h⟩
  have st0 : (L2.start N (.ref x :: ws))[0]? = some (some (.ref x)) := by unfold L2.start; rfl
  have hO : ∀ a, Ow (L2.start N (.ref x :: ws)) (.ins C [] :: (xs.map Slot.val ++ List.replicate (N.length - 1 - xs.length) Slot.emp)) a → a = x := fun a ⟨i, h1, h2⟩ => by
    rw [own_iff] at h2
    obtain ⟨y, h2, h3⟩ := h2
    cases i with
    | zero => rw [st0] at h1; cases h1; rfl
    | succ i =>
      rw [List.getElem?_cons_succ] at h2
      rw [(env1 i y h2).1] at h3; cases h3
  have le : (cw K F ρ H0).Le (vw ⟨K, F, cw K F ρ H0, EX, x⟩ ρ (.ins C [] :: (xs.map Slot.val ++ List.replicate (N.length - 1 - xs.length) Slot.emp)) (L2.start N (.ref x :: ws)) (upd (upd H0 dx (.own x)) x (.ins C dx []))) :=
    ⟨rfl, fun _ _ q => q, fun a o q n => ⟨kp a o q, fun z => z.elim (fun z => n (.inl z)) fun z => z.elim (fun z => (ne a o q).1 (hO a z)) fun z => n (.inr z)⟩⟩
  refine ⟨by simp [L2.start]; omega, e.slen, fun i y q => ?_, fun i a o e1 e2 => ?_, e.nd, fun a h z => ?_, fun i j a h1 h2 h3 h4 => ?_, fun a h => ?_, le, fun a o _ q => kp a o q, fun i c fs q => by
    cases i with
    | zero => exact st0
    | succ i => have q : (xs.map Slot.val ++ List.replicate (N.length - 1 - xs.length) Slot.emp)[i]? = some (.ins c fs) := q
                have := (env1 i _ q).1
                cases this⟩
  · cases i with
    | zero =>
      have q : some (Slot.ins C []) = some y := q
      cases q
      exact ⟨x, dx, [], st0, upd_same, .nil⟩
    | succ i =>
      have q : (xs.map Slot.val ++ List.replicate (N.length - 1 - xs.length) Slot.emp)[i]? = some y := q
      obtain ⟨h1, h2⟩ := env1 i y q
      cases y with
      | emp => trivial
      | val z =>
        have hz := h2 z rfl
        obtain ⟨v, hv, rv⟩ := r.get hz
        refine ⟨v, ?_, rv.mono le⟩
        have hi : i < ws.length := (List.getElem?_eq_some_iff.mp hv).1
        show (L2.start N (.ref x :: ws))[i + 1]? = some (some v)
        unfold L2.start
        rw [List.map_cons, List.cons_append, List.getElem?_cons_succ, List.getElem?_append_left (by simpa using hi), List.getElem?_map, hv]
        rfl
      | own l => cases h1
      | ins c fs => cases h1
  · have q := e.obj i a o e1 e2
    have hk : ∃ u, H0 a = some u := by
      cases o with
      | lst l => obtain ⟨vs, h2, _⟩ := q; exact ⟨_, h2⟩
      | ins c fs => obtain ⟨dx', gs, h2, _⟩ := q; exact ⟨_, h2⟩
    obtain ⟨u, hu⟩ := hk
    exact q.mono le (by rw [show (cw K F ρ H0).H a = some u from hu]; exact kp a u hu)
  · have := hO a h; subst this
    obtain ⟨i, hi, e'⟩ := List.mem_iff_getElem.mp z
    have e'' : ρ[i]? = some a := List.getElem?_eq_some_iff.mpr ⟨hi, e'⟩
    have hs : i < μ.length := by rw [← e.slen]; exact hi
    have q := e.obj i a μ[i] e'' (by simp [hs])
    cases e3 : μ[i] with
    | lst l => rw [e3] at q; obtain ⟨vs, h2, _⟩ := q; have h2 : H0 a = _ := h2; rw [hx] at h2; cases h2
    | ins c fs => rw [e3] at q; obtain ⟨dx', gs, h2, _⟩ := q; have h2 : H0 a = _ := h2; rw [hx] at h2; cases h2
  · have d : ∀ i : Nat, ((∃ l, (Slot.ins C [] :: (xs.map Slot.val ++ List.replicate (N.length - 1 - xs.length) Slot.emp))[i]? = some (.own l)) ∨ ∃ c fs, (Slot.ins C [] :: (xs.map Slot.val ++ List.replicate (N.length - 1 - xs.length) Slot.emp))[i]? = some (.ins c fs)) → i = 0 := fun i z => by
      obtain ⟨y, z1, z2⟩ := own_iff.mp z
      cases i with
      | zero => rfl
      | succ i => rw [List.getElem?_cons_succ] at z1; rw [(env1 i y z1).1] at z2; cases z2
    rw [d i h3, d j h4]
  · obtain ⟨⟨o, q⟩, n1⟩ := e.fo a h
    exact ⟨⟨o, kp a o q⟩, n1, fun z => (ne a o q).1 (hO a z)⟩
section
variable {P : Program} {w : World} {mg : Str → Option Value} {base : Heap} {CX : CXT}
theorem okI {x qual : Str} {st : Stmt} {f C : Addr} {fd : FuncData} {N ps : List Str} {k : Nat} {m : M Flw} (F : Fun K x qual st f fd) (S : FnScope N ps (defScope st))
    (hb : ∀ (cdv : Value) (A : Around) (outer : List Env) (s : Shared) (H : Hp) (E : XK) (Θ : Fx), Room k (A.deeper (envOfC qual (defScope st) s.heap.objs.size f cdv)) → Θ.K = K → Θ.EX = EXof K Θ.F Θ.w0 E →
      PSs (cxOf CX P w K mg base N qual (defScope st) f cdv A outer s H E) (defBody st) (tS Θ m)) :
    FnOk P w K mg base CX (k + 1) f fd ps (spI K C (runI N.length ps.length C m)) := by
  obtain ⟨oc, od, kV, doc, pm, an, cdv, ct, osl, rfl, lk, hcd⟩ := F.ex
  have hlen : ∀ vs H Q E, spI K C (runI N.length ps.length C m) vs H Q E → vs.length = ps.length := fun vs H Q E ⟨x, dx, ws, H0, ρ, μ, xs, FF, e, _, _, _, _, en, rl, q⟩ => by
    subst e
    unfold runI at q
    by_cases hl : xs.length + 1 = ps.length
    · rw [List.length_cons, rl.length]; exact hl
    · rw [if_neg hl] at q; exact q.elim
  refine fn_of lk hcd S hlen fun A outer s H vs Q E hr hsp => ?_
  have hl := hlen _ _ _ _ hsp
  obtain ⟨x, dx, ws, H0, ρ, μ, xs, FF, rfl, hx, hd, hn, rfl, en, rl, q⟩ := hsp
  have hle : ws.length + 1 ≤ N.length := by
    have := congrArg List.length S.pre
    rw [List.length_take] at this
    rw [List.length_cons] at hl
    omega
  unfold runI at q
  rw [if_pos (by rw [List.length_cons, rl.length] at hl; exact hl)] at q
  refine ⟨_, hb cdv A outer s _ E ⟨K, FF, cw K FF ρ H0, EXof K FF (cw K FF ρ H0) E, x⟩ hr rfl rfl, ρ, _, start_okI (C := C) en rl hle hx hd hn, ?_⟩
  cases e : m ⟨.ins C [] :: (xs.map .val ++ List.replicate (N.length - 1 - xs.length) .emp), μ⟩ with
  | no => rw [e] at q; exact q.elim
  | ex c fs s' => rw [e] at q; exact q
  | ok f s' =>
    rw [e] at q
    dsimp only at q
    intro ρ' σ' H' st
    have en' := st.r.en
    have le' : (cw K FF ρ H0).Le (cw K FF ρ' H') := st.r.base.trans st.r.leC
    cases e0 : s'.env[0]? with
    | none => rw [e0] at q; exact q.elim
    | some y =>
      rw [e0] at q
      cases y with
      | ins c fs =>
        unfold endI at q
        dsimp only at q
        by_cases hc : c = C
        · rw [if_pos hc] at q
          subst hc
          obtain ⟨a, dx', gs, h1, h2, h3⟩ := st.r.slot 0 _ e0
          have h4 := st.r.self 0 c fs e0
          rw [h1] at h4
          have h5 : a = x := by injection h4 with h4; injection h4 with h4; injection h4
          subst h5
          have ow : Ow σ' s'.env a := ⟨0, h1, .inr ⟨c, fs, e0⟩⟩
          have nL : ¬ (cw K FF ρ' H').L a := fun z => z.elim (st.r.sep a ow) fun z => (st.r.fo a z).2.2 ow
          have fk : ∀ b o, FF b → H0 b = some o → H' b = some o := fun b o f e => st.r.fkeep b o f e
          cases f with
          | nx => exact q ρ' H' dx' gs en' le' fk h2 nL (h3.mono st.r.leC)
          | rt v =>
            cases v with
            | non => exact fun u ru => by cases ru; exact q ρ' H' dx' gs en' le' fk h2 nL (h3.mono st.r.leC)
            | _ => exact q.elim
          | bk => exact q.elim
          | ct => exact q.elim
        · rw [if_neg hc] at q; exact q.elim
      | _ => exact q.elim
end
/-! ### C(..): a new instance, a value from then on -/
def mMake (C : Addr) (fn : FnI) (m : M (List IV)) : M IV := M.bind m fun xs s => match fn xs s.sto with
  | .ok fs μ => .ok (.obj C fs) { s with sto := μ }
  | .ex c fs μ => .ex c fs { s with sto := μ }
  | .no => .no
/-- .. an object of the store -/
def mMakeR (C : Addr) (fn : FnI) (m : M (List IV)) : M IV := M.bind m fun xs s => match fn xs s.sto with
  | .ok fs μ => .ok (.ref μ.length) { s with sto := μ ++ [.ins C fs] }
  | .ex c fs μ => .ex c fs { s with sto := μ }
  | .no => .no
section
variable {CX : CXT} {E : XK} {k : Nat} {f C : Addr} {fd : FuncData} {ps : List Str} {fn : FnI} {x : Str} {p pos : Pos} {e : Expr} {es : List Expr} {mr : M (List IV)}
theorem tE_make {Q : VK} (hK : Θ.K = K) (hE : Θ.EX = EXof K Θ.F Θ.w0 E) (h : tE Θ (mMake C fn mr) σ H Q) : tMake C (spI K C fn) [] E (tA Θ mr) σ H Q :=
  (tM.bind (R := RepL) h).imp fun vs H1 ⟨ρ1, s1, xs, r1, rl, o⟩ => by
    subst hK
    intro x dx hx hd hn
    rw [List.append_nil]
    refine ⟨x, dx, vs, H1, ρ1, s1.sto, xs, calleeF Θ s1 σ, rfl, hx, hd, hn, rfl, r1.enOw, rl, ?_⟩
    cases e : fn xs s1.sto with
    | no => rw [e] at o; exact o.elim
    | ok fs μ' =>
      rw [e] at o
      intro ρ' H' dx' gs en le k hxx nL rf
      exact ⟨rfl, o ρ' H' (.ref x) (r1.back en le k) (.obj hxx nL rf)⟩
    | ex c fs μ' =>
      rw [e] at o
      intro ρ' H' d en le k xd
      have o : Θ.EX c fs { s1 with sto := μ' } := o
      rw [hE] at o
      have st := r1.back en le k
      have lc := st.r.leC
      obtain ⟨gs, h1, h2, h3⟩ := xd
      exact o ρ' H' d st.r.en (st.r.base.trans lc) st.r.fkeep ⟨gs, h1, (lc.keep d _ h1 h2).2, h3.mono lc⟩
theorem e_make (M : Mk X.K C f) (F : FnOk X.prog X.w X.K X.mg X.base CX k f fd ps (spI X.K C fn)) (hr : Room (k + 1) X.A) (hg : Gl X x) (hm : X.mg x = some (.ref C)) (hb : L2.Binds X.K fd ps []) (hx : Passes CX X E)
    (hK : Θ.K = X.K) (hE : Θ.EX = EXof X.K Θ.F Θ.w0 E) (ha : PA X (e :: es) (tA Θ mr))
    (hd : (x == ("__debug__" : Str)) = false := by decide) (hs : starEach (e :: es) X.env = (false, eval e X.env) :: starEach es X.env := by rfl) (hpl : (backTo pos (starEach es X.env)).any (·.1) = false := by rfl) :
    PE X (.Call (.Name x p) (e :: es) [] pos) (tE Θ (mMake C fn mr)) := peLe (pe_make M F hr hg hm hb .nil hx ha hd hs hpl) fun _ _ _ h => tE_make hK hE h
end
/-! ### fields -/
section
variable {C : Addr} {f : Str} {o value : Expr} {mo mv : M IV} {pos pos' : Pos}
def fldOf (C : Addr) (f : Str) (x : IV) (s : S) : Option IV := match x with
  | .obj c fs => if c = C then fs.lookup f else none
  | .ref j => match s.sto[j]? with
    | some (.ins c fs) => if c = C then fs.lookup f else none
    | _ => none
  | _ => none
def mFld (C : Addr) (f : Str) (m : M IV) : M IV := M.bind m fun x s => match fldOf C f x s with
  | some v => .ok v s
  | none => .no
theorem e_fld (hK : Θ.K = X.K) (cl : Cls X.K C) (na : NoAttr X.K C f) (ho : PE X o (tE Θ mo)) (hb : attributeBase o f X.env (eval o X.env) = eval o X.env := by rfl) : PE X (.Attribute o f pos) (tE Θ (mFld C f mo)) :=
  peLe (pe_fld ho hb) fun σ H Q h => (tM.bind (R := RepV) h).imp fun x H1 ⟨ρ1, s1, xi, r1, rx, o1⟩ => by
    split at o1
    · rename_i v ev
      unfold fldOf at ev
      split at ev
      · split at ev
        · rename_i hc; subst hc
          cases rx with | obj h1 h2 h3 =>
          obtain ⟨u, k1, k2⟩ := h3.lookup ev
          exact ⟨_, _, _, _, u, rfl, h1, cl, na, k1, o1 ρ1 H1 u r1.here k2⟩
        · cases ev
      · split at ev
        · rename_i c fs el
          split at ev
          · rename_i hc; subst hc
            cases rx with | ref hj =>
            obtain ⟨dx, gs, h1, h2⟩ := r1.obj _ _ _ hj el
            obtain ⟨u, k1, k2⟩ := h2.lookup ev
            exact ⟨_, _, _, _, u, rfl, h1, cl, na, k1, o1 ρ1 H1 u r1.here k2⟩
          · cases ev
        · cases ev
      · cases ev
    · exact o1.elim
/-- self.f = e in an __init__ (self in slot 0) -/
def mSelf (C : Addr) (f : Str) (mv : M IV) : M Flw := M.bind mv fun v s => match s.env[(0 : Nat)]? with
  | some (.ins c fs) => if c = C ∧ fs.length < 100 then .ok .nx (setE 0 (.ins c (putI f v fs)) s) else .no
  | _ => .no
theorem s_self {x : Str} {p1 : Pos} (hN : X.N[0]? = some x := by rfl) (hvv : Vis X.env.scope x := by first | exact Or.inl rfl | exact Or.inr (Or.inl rfl) | exact Or.inr (Or.inr rfl)) (cl : Cls X.K C) (na : NoAttr X.K C f) (hv : PE X value (tE Θ mv))
    (hs : swapsWith value (some (.Attribute (.Name x p1) f pos')) pos.line X.env = pure false := by rfl)
    (hd : (x == ("__debug__" : Str)) = false := by decide) (hcd : (x == ("__classdict__" : Str)) = false := by decide) : PS X (.Assign [.Attribute (.Name x p1) f pos'] value pos) (tS Θ (mSelf C f mv)) := by
  refine psLe (ps_fld (pe_var hN hvv hd hcd) hv hs) fun D σ H h => (tS.bind (R := RepV) h).imp fun v H1 ⟨ρ1, s1, vi, r1, rv, o1⟩ => ?_
  split at o1
  · rename_i c fs e0
    split at o1
    · rename_i hz
      obtain ⟨a, dx, gs, h1, h2, h3⟩ := r1.slot 0 _ e0
      obtain ⟨hc, hz⟩ := hz
      subst hc
      refine ⟨_, h1, a, c, dx, gs, rfl, h2, cl, na, by rw [h3.length]; omega, ?_⟩
      exact o1 ρ1 σ _ (r1.setIns h1 e0 (h3.putI rv))
    · exact o1.elim
  · exact o1.elim
end
end Mi
set_option Elab.async false
set_option linter.all false
set_option maxRecDepth 100000
namespace Mi
open PySem L2 PyProof.Rows

variable {Θ : Fx} {ρ ρ' : List Addr} {s s' : S} {σ σ' : L2.St} {H H' : Hp} {X : Cx} {K : PySem.W.Frag}

/-! ### a * b -/
theorem list_mulW (l : Addr) (items : Array Value) (n : Nat) (sl : Array (Option Value)) (x : Int) (u : Tok) (hc0 : ¬(!Builtin.List.listFitsIndex x) = true) (hc1 : ¬items.size * x.toNat > (2 ^ 63 - 1) / 8) (hc2 : ¬Builtin.List.listTooLong (items.size * x.toNat) = true) :
    Meets (Builtin.«list.__mul__» ⟨[.ref l, .int x u], []⟩) (fun _ R s => s.heap.get? l = some { cls := .type "list", dict := none, data := .seq items n, slots := sl } ∧ R (.ok (.ret (Value.ref s.heap.objs.size))) { s with heap := s.heap.push { cls := Value.type "list", data := Data.seq (List.foldl (fun x1 x2 => x1 ++ x2) #[] (List.replicate (if items.isEmpty = true then 0 else x.toNat) items)) }, toks := s.toks }) :=
  .of_wp fun prog w A R s h => by
    obtain ⟨hp, g, d, tk, os⟩ := s; obtain ⟨hl, h⟩ := h
    have hsz := PySem.AutoListH.joined_fits hc2
    wp_walk; refine wpAny_ite_false (decide_eq_false (Nat.not_lt.mpr hsz)) ?_; wp_walk; exact ⟨_, rfl, h⟩
theorem rmulW (a : Int) (t : Tok) (l : Addr) (items : Array Value) (n : Nat) (sl : Array (Option Value)) :
    Meets (Builtin.«int.__rmul__» ⟨[.int a t, .ref l], []⟩) (fun _ R s => s.heap.get? l = some { cls := .type "list", dict := none, data := .seq items n, slots := sl } ∧ R (.ok (.ret Value.notImplemented)) s) :=
  .of_wp fun prog w A R s h => by obtain ⟨hp, g, d, tk, os⟩ := s; obtain ⟨hl, h⟩ := h; wp_walk; exact ⟨_, rfl, h⟩
def rRepR (K : PySem.W.Frag) : R2 := fun x y H Q => ∃ l k xs, x = .ref l ∧ y = .int k ∧ SqL K H l xs ∧ -(2 ^ 63) ≤ k ∧ k < 2 ^ 63 ∧ xs.length * k.toNat ≤ sizeLine ∧
  ∀ p, H p = none → Q (.ref p) (upd H p (.lst (List.replicate k.toNat xs).flatten))
theorem op_repR : OpR X (binaryOp .Mult) (rRepR X.K) := by
  intro pins s σ H x y v u Q I rx ry h
  obtain ⟨l, k, xs, rfl, rfl, hH, h1, h2, hz, q⟩ := h
  cases rx
  obtain ⟨t, rfl⟩ := ry
  obtain ⟨z, its, n, sl, r, hl, e⟩ := lstZ I hH
  have hlen : its.toArray.size * k.toNat ≤ sizeLine := by rw [List.size_toArray, ← hl]; exact hz
  have hcap : ¬ its.toArray.size * k.toNat > (2 ^ 63 - 1) / 8 := by
    have : (sizeLine : Nat) ≤ (2 ^ 63 - 1) / 8 := by decide
    omega
  have hfit : ¬ (!Builtin.List.listFitsIndex k) = true := by
    rw [fitsIndex_both h1 h2]
    exact Bool.false_ne_true
  have hlong : ¬ Builtin.List.listTooLong (its.toArray.size * k.toNat) = true := by
    rw [notLongL hlen]
    exact Bool.false_ne_true
  have hnew : List.foldl (fun x1 x2 => x1 ++ x2) #[] (List.replicate (if its.toArray.isEmpty = true then 0 else k.toNat) its.toArray) = (List.replicate k.toNat its).flatten.toArray := by
    have f0 : ∀ m : Nat, List.foldl (fun x1 x2 => x1 ++ x2) #[] (List.replicate m its.toArray) = (List.replicate m its).flatten.toArray := fun m => by
      have := foldl_rep its m []
      rw [List.nil_append] at this
      exact this
    rw [f0]
    cases its with
    | nil => simp
    | cons a r' => rw [if_neg (by simp)]
  refine wpAny_binaryOp_repeat_ref (T := "list") (U := "int") (by decide) ⟨_, e, rfl⟩ (fun s' => typeIs_int s' k t) noFill_list_mul F.fills_int_mul F.slot_int_rmul repeat_list F.slot_int_index.lookup
    (call_meets F.slot_int_rmul (typeIs_int s k t) F.entry_int_rmul (F.args_int_rmul_2 _ _) (rmulW k t l its.toArray n sl)
      ⟨e, rfl, ⟨_, e, rfl⟩, call_meets F.slot_list_mul ⟨_, e, rfl⟩ F.entry_list_mul (F.args_list_mul_2 _ _) (list_mulW l its.toArray n sl k t hfit hcap hlong) ⟨e, ?_⟩⟩)
  rw [hnew]
  exact ⟨.ref _, _, I.lnew (t' := s.toks) (r.rep k.toNat) (by rw [PyProof.Rows.lm_len_rep_flat, Nat.mul_comm]; exact hz), rfl, q _ I.fresh⟩
def mulV : IV → IV → Option IV
  | .int i, .int j => if i.natAbs < 18446744073709551616 ∨ j.natAbs < 18446744073709551616 then some (.int (i * j)) else none
  | .fl l, .int k => if k.natAbs ≤ 1000000000 ∧ l.length * k.toNat ≤ szl then some (.fl (List.replicate k.toNat l).flatten) else none
  | _, _ => none
def rMulV (K : PySem.W.Frag) : R2 := fun x y H Q => rI CMul (fun i j => .int (i * j)) x y H Q ∨ rRepR K x y H Q
theorem op_mulV : OpR X (binaryOp .Mult) (rMulV X.K) := op_mul.or op_repR
theorem mulV_ok {K : PySem.W.Frag} (hK : Θ.K = K) : OpS Θ (rMulV K) mulV := by
  intro ρ s σ H x y xv yv z Q r rx ry e b
  subst hK
  unfold mulV at e
  split at e
  · split at e
    · cases rx; cases ry; cases e; rename_i h
      exact .inl ⟨_, _, rfl, rfl, h.imp (fun h => by omega) (fun h => by omega), b.now r (.int _)⟩
    · cases e
  · split at e
    · rename_i h; cases e
      cases ry
      cases rx with | fl h1 l1 =>
      exact .inr ⟨_, _, _, rfl, rfl, h1.sq, by omega, by omega, by rw [l1.length]; exact le_szl h.2, fun p hp => b.fl r hp (l1.flat _)⟩
    · cases e
  · cases e

/-! ### a table of the module: keys texts, values ints -/
structure KTab (K : PySem.W.Frag) (w : World) (d : Addr) (tab : List (Str × Int)) : Prop where
  kd : ∃ es n, KDict K w d es n
  get : ∀ z, match tab.lookup z with
    | none => PySem.W.nsIn K d z = some none
    | some i => ∃ t, PySem.W.nsIn K d z = some (some (.int i t))
def tabV (tab : List (Str × Int)) : IV → Option IV
  | .str z => (tab.lookup z).map .int
  | _ => none
def tabIn (neg : Bool) (tab : List (Str × Int)) : IV → Option IV
  | .str z => some (.bl (if neg then (tab.lookup z).isNone else (tab.lookup z).isSome))
  | _ => none
section
variable {a b c e : Expr} {ma mb mc : M IV} {pos p1 p2 : Pos} {d : Addr} {tab : List (Str × Int)} {x : Str}
theorem e_mul (hK : Θ.K = X.K) (ha : PE X a (tE Θ ma)) (hb : PE X b (tE Θ mb)) : PE X (.BinOp a .Mult b pos) (tE Θ (mOp mulV ma mb)) := e_op op_mulV (mulV_ok hK) ha hb
theorem pe_d (hg : Gl X x) (hm : X.mg x = some (.ref d)) (hd : (x == ("__debug__" : Str)) = false := by decide) : PE X (.Name x p1) (tC (.ref d)) := pe_glob hg hm rfl hd
theorem e_tabIn (T : KTab X.K X.w d tab) (ha : PE X a (tE Θ ma)) (hg : Gl X x) (hm : X.mg x = some (.ref d)) (hd : (x == ("__debug__" : Str)) = false := by decide) : PE X (.Compare a [.In] [.Name x p1] pos) (tE Θ (mUn (tabIn false tab) ma)) := by
  obtain ⟨es, n, D⟩ := T.kd
  refine peLe (pe_cmpR (op_in_kd D) ha (pe_d hg hm hd) (by with_unfolding_all rfl)) fun σ H Q h => (tM.bind (R := RepV) h).imp fun xv H1 ⟨ρ1, s1, xi, r1, rx, o1⟩ => ?_
  obtain ⟨z, e, q⟩ := o1.opt
  unfold tabIn at e
  split at e
  · rename_i z
    cases rx; cases e
    have g := T.get z
    cases e2 : tab.lookup z with
    | none => rw [e2] at g q; exact ⟨_, none, rfl, rfl, g, q ρ1 H1 _ r1.here (.bl _)⟩
    | some i => rw [e2] at g q; obtain ⟨t, g⟩ := g; exact ⟨_, _, rfl, rfl, g, q ρ1 H1 _ r1.here (.bl _)⟩
  · cases e
theorem e_tabNin (T : KTab X.K X.w d tab) (ha : PE X a (tE Θ ma)) (hg : Gl X x) (hm : X.mg x = some (.ref d)) (hd : (x == ("__debug__" : Str)) = false := by decide) : PE X (.Compare a [.NotIn] [.Name x p1] pos) (tE Θ (mUn (tabIn true tab) ma)) := by
  obtain ⟨es, n, D⟩ := T.kd
  refine peLe (pe_cmpR (op_notIn_kd D) ha (pe_d hg hm hd) (by with_unfolding_all rfl)) fun σ H Q h => (tM.bind (R := RepV) h).imp fun xv H1 ⟨ρ1, s1, xi, r1, rx, o1⟩ => ?_
  obtain ⟨z, e, q⟩ := o1.opt
  unfold tabIn at e
  split at e
  · rename_i z
    cases rx; cases e
    have g := T.get z
    cases e2 : tab.lookup z with
    | none => rw [e2] at g q; exact ⟨_, none, rfl, rfl, g, q ρ1 H1 _ r1.here (.bl _)⟩
    | some i => rw [e2] at g q; obtain ⟨t, g⟩ := g; exact ⟨_, _, rfl, rfl, g, q ρ1 H1 _ r1.here (.bl _)⟩
  · cases e
theorem t_tabIn (T : KTab X.K X.w d tab) (ha : PE X a (tE Θ ma)) (hg : Gl X x) (hm : X.mg x = some (.ref d)) (hd : (x == ("__debug__" : Str)) = false := by decide) : PT X (.Compare a [.In] [.Name x p1] pos) (tT Θ (mTst (mUn (tabIn false tab) ma))) := by
  obtain ⟨es, n, D⟩ := T.kd
  refine ptLe (pt_cmpR (op_in_kd D) ha (pe_d hg hm hd) (by with_unfolding_all rfl)) fun σ H Q h => tst_of h fun Q' h => (tM.bind (R := RepV) h).imp fun xv H1 ⟨ρ1, s1, xi, r1, rx, o1⟩ => ?_
  obtain ⟨z, e, q⟩ := o1.opt
  unfold tabIn at e
  split at e
  · rename_i z
    cases rx; cases e
    have g := T.get z
    cases e2 : tab.lookup z with
    | none => rw [e2] at g q; exact ⟨_, none, rfl, rfl, g, q ρ1 H1 _ r1.here (.bl _)⟩
    | some i => rw [e2] at g q; obtain ⟨t, g⟩ := g; exact ⟨_, _, rfl, rfl, g, q ρ1 H1 _ r1.here (.bl _)⟩
  · cases e
theorem t_tabNin (T : KTab X.K X.w d tab) (ha : PE X a (tE Θ ma)) (hg : Gl X x) (hm : X.mg x = some (.ref d)) (hd : (x == ("__debug__" : Str)) = false := by decide) : PT X (.Compare a [.NotIn] [.Name x p1] pos) (tT Θ (mTst (mUn (tabIn true tab) ma))) := by
  obtain ⟨es, n, D⟩ := T.kd
  refine ptLe (pt_cmpR (op_notIn_kd D) ha (pe_d hg hm hd) (by with_unfolding_all rfl)) fun σ H Q h => tst_of h fun Q' h => (tM.bind (R := RepV) h).imp fun xv H1 ⟨ρ1, s1, xi, r1, rx, o1⟩ => ?_
  obtain ⟨z, e, q⟩ := o1.opt
  unfold tabIn at e
  split at e
  · rename_i z
    cases rx; cases e
    have g := T.get z
    cases e2 : tab.lookup z with
    | none => rw [e2] at g q; exact ⟨_, none, rfl, rfl, g, q ρ1 H1 _ r1.here (.bl _)⟩
    | some i => rw [e2] at g q; obtain ⟨t, g⟩ := g; exact ⟨_, _, rfl, rfl, g, q ρ1 H1 _ r1.here (.bl _)⟩
  · cases e
theorem e_tab (T : KTab X.K X.w d tab) (ha : PE X a (tE Θ ma)) (hg : Gl X x) (hm : X.mg x = some (.ref d)) (hs : PlainIx a) (hd : (x == ("__debug__" : Str)) = false := by decide) : PE X (.Subscript (.Name x p1) a pos) (tE Θ (mUn (tabV tab) ma)) := by
  obtain ⟨es, n, D⟩ := T.kd
  refine peLe (pe_ix ix_kdict (pe_d hg hm hd) ha hs) fun σ H Q h => (tM.bind (R := RepV) h).imp fun xv H1 ⟨ρ1, s1, xi, r1, rx, o1⟩ => ?_
  obtain ⟨z, e, q⟩ := o1.opt
  unfold tabV at e
  split at e
  · rename_i z
    cases rx
    have g := T.get z
    cases e2 : tab.lookup z with
    | none => rw [e2] at e; cases e
    | some i =>
      rw [e2] at g e
      cases e
      obtain ⟨t, g⟩ := g
      exact ⟨d, z, .int i, rfl, rfl, ⟨es, n, _, D.at_, D.lit, g, ⟨t, rfl⟩⟩, q ρ1 H1 _ r1.here (.int _)⟩
  · cases e
end
/-! ### x.pop(), x own; tuple(x) -/
def mPop (i : Nat) : M IV := fun s => match s.env[i]? with
  | some (.own l) => match l.getLast? with
    | some v => .ok v (setE i (.own l.dropLast) s)
    | none => .no
  | _ => .no
theorem tE_pop {i : Nat} {Q : VK} (h : tE Θ (mPop i) σ H Q) : tBM0 K "list" rPop (tVar i) σ H Q := by
  obtain ⟨ρ, s, r, o⟩ := h
  unfold mPop at o
  split at o
  · rename_i l e0
    obtain ⟨a, vs, h1, h2, h3⟩ := r.slot i _ e0
    split at o
    · rename_i v ev
      refine ⟨_, h1, .inl ⟨rfl, _, SqL.of h2⟩, ?_⟩
      rw [List.getLast?_eq_getElem?] at ev
      obtain ⟨u, k1, k2⟩ := h3.get ev
      have st := r.setOwn (p := a) (.inr ⟨h1, l, e0⟩) h3.dropLast
      rw [set_same h1] at st
      exact ⟨a, vs, u, rfl, rfl, h2, by rw [h3.length]; exact k1, o ρ _ u st (k2.mono st.le)⟩
    · exact o.elim
  · exact o.elim
def mOwnTup (i : Nat) : M IV := fun s => match s.env[i]? with
  | some (.own l) => .ok (.tup l) s
  | _ => .no
section
variable {a b c e : Expr} {ma mb mc : M IV} {pos p p1 p2 apos cpos : Pos} {x y : Str} {i : Nat} {mr : M (List IV)}
theorem e_pop (hN : X.N[i]? = some x := by rfl) (hv : Vis X.env.scope x := by first | exact Or.inl rfl | exact Or.inr (Or.inl rfl) | exact Or.inr (Or.inr rfl)) (hd : (x == ("__debug__" : Str)) = false := by decide) (hcd : (x == ("__classdict__" : Str)) = false := by decide)
    (hbase : attributeBase (.Name x p1) "pop" X.env (eval (.Name x p1) X.env) = eval (.Name x p1) X.env := by rfl) (hline : (apos.endLine == cpos.line) = true := by rfl) :
    PE X (.Call (.Attribute (.Name x p1) "pop" apos) [] [] cpos) (tE Θ (mPop i)) :=
  peLe (pe_bm0 PySem.F.plainAttrs_list PySem.F.slot_list_pop PySem.F.type_list_pop mt_pop (pe_var hN hv hd hcd) hbase hline) fun σ H Q h => tE_pop h
theorem e_ownTup (hN : X.N[i]? = some y := by rfl) (hv : Vis X.env.scope y := by first | exact Or.inl rfl | exact Or.inr (Or.inl rfl) | exact Or.inr (Or.inr rfl)) (hg : Gl X x) (hm : X.mg x = none) (hvv : bootBuiltins x = some (.type "tuple")) (hn : x ≠ "__name__" := by decide) (hdb : (x == ("__debug__" : Str)) = false := by decide)
    (hd : (y == ("__debug__" : Str)) = false := by decide) (hcd : (y == ("__classdict__" : Str)) = false := by decide) : PE X (.Call (.Name x p) [.Name y p1] [] pos) (tE Θ (mOwnTup i)) :=
  peLe (pe_callTy call_tuple_of hg hm hvv (pa_cons (pe_var hN hv hd hcd) pa_nil) hn hdb) fun σ H Q ⟨ρ, s, r, o⟩ => by
    unfold mOwnTup at o
    split at o
    · rename_i l e0
      obtain ⟨a, vs, h1, h2, h3⟩ := r.slot i _ e0
      refine ⟨_, h1, a, vs, rfl, .inl ⟨SqL.of h2, fun q hq => ?_⟩⟩
      obtain ⟨st, n⟩ := r.laid (o := .tup vs) hq
      exact o ρ _ _ st (.tup (.inr ⟨_, upd_same, .inl rfl, n⟩) (h3.mono st.le))
    · exact o.elim

/-! ### a, b = .., new lists among them -/
def mParVN (i j : Nat) (m1 : M IV) (m2 : M (List IV)) : M Flw := M.bind m1 fun v => M.bind m2 fun l s => .ok .nx (setE j (.own l) (setE i (.val v) s))
def mParNV (i j : Nat) (m1 : M (List IV)) (m2 : M IV) : M Flw := M.bind m1 fun l => M.bind (nox m2) fun v s => .ok .nx (setE j (.val v) (setE i (.own l) s))
def mParNN (i j : Nat) (m1 : M (List IV)) (m2 : M (List IV)) : M Flw := M.bind m1 fun l => M.bind (nox m2) fun k s => .ok .nx (setE j (.own k) (setE i (.own l) s))
def mParVVN (i j k : Nat) (m1 m2 : M IV) (m3 : M (List IV)) : M Flw := M.bind m1 fun v => M.bind m2 fun u => M.bind m3 fun l s => .ok .nx (setE k (.own l) (setE j (.val u) (setE i (.val v) s)))
/-- two names at once: as the swapped stores do, or by a tuple that is laid and unpacked -/
def t2 (i j : Nat) (ta : TA) : TS := fun D σ H => ta σ H fun vs H1 => ∃ v w, vs = [v, w] ∧ ∀ H2, (∀ a o, H1 a = some o → H2 a = some o) → D.nx ((σ.set i (some v)).set j (some w)) H2
theorem t2_par {j : Nat} {ta : TA} {D : Ends} (mono : ∀ Q Q' : List V → Hp → Prop, (∀ vs H, Q vs H → Q' vs H) → ta σ H Q → ta σ H Q') (h : t2 i j ta D σ H) : tPar i j ta D σ H :=
  mono _ _ (fun vs H1 ⟨v, w, e, q⟩ => ⟨v, w, e, q H1 fun _ _ z => z⟩) h
theorem t2_asg {j : Nat} {ta : TA} {D : Ends} (mono : ∀ Q Q' : List V → Hp → Prop, (∀ vs H, Q vs H → Q' vs H) → ta σ H Q → ta σ H Q') (h : t2 i j ta D σ H) : tAsg (tTup ta) (gTup K 2 (gCons (gName i) (gCons (gName j) gNil))) D σ H :=
  mono _ _ (fun vs H1 ⟨v, w, e, q⟩ => by
    subst e
    exact ⟨by show 2 ≤ sizeLine; rw [sizeLine_eq]; decide, fun T hT => ⟨T, [v, w], rfl, SqT.of upd_same, rfl, v, [w], rfl, w, [], rfl, rfl, q _ (grow_new hT)⟩⟩) h
theorem StR.to (r : Stp Θ ρ s σ H ρ' s' σ' H') {H2 : Hp} (g : ∀ a o, H' a = some o → H2 a = some o) : Stp Θ ρ s σ H ρ' s' σ' H2 := r.trans (r.r.grow g)
theorem p_par {j : Nat} {px py pt : Pos} {kt k2 pt2} {ta : TA} {m : M Flw} (hc : X.calm = true) (hN : X.N.Nodup) (hi : X.N[i]? = some x) (hj : X.N[j]? = some y) (hij : i ≠ j)
    (hx : X.env.scope.names.lookup x = some .local) (hy : X.env.scope.names.lookup y = some .local) (ha : PA X [a, b] ta) (mono : ∀ σ H, ∀ Q Q' : List V → Hp → Prop, (∀ vs H, Q vs H → Q' vs H) → ta σ H Q → ta σ H Q')
    (f : ∀ D σ H, tS Θ m D σ H → t2 i j ta D σ H) (hw : swappedStores [.Tuple [.Name x px, .Name y py] kt pt] (.Tuple [a, b] k2 pt2) X.env = pure (some [x, y]))
    (hs : swapsWithSole [.Tuple [.Name x px, .Name y py] kt pt] (.Tuple [a, b] k2 pt2) pos.line X.env = pure false := by rfl) :
    PS X (.Assign [.Tuple [.Name x px, .Name y py] kt pt] (.Tuple [a, b] k2 pt2) pos) (tS Θ m) := psLe (ps_par hc hN hi hj hij hx hy ha hw hs) fun D σ H h => t2_par (mono σ H) (f D σ H h)
theorem p_asg {j : Nat} {px py pt : Pos} {kt k2 pt2} {ta : TA} {m : M Flw} (hc : X.calm = true) (hN : X.N.Nodup) (hi : X.N[i]? = some x) (hj : X.N[j]? = some y)
    (hx : Loc X.env.scope x) (hy : Loc X.env.scope y) (ha : PA X [a, b] ta) (mono : ∀ σ H, ∀ Q Q' : List V → Hp → Prop, (∀ vs H, Q vs H → Q' vs H) → ta σ H Q → ta σ H Q')
    (f : ∀ D σ H, tS Θ m D σ H → t2 i j ta D σ H) (hw : swappedStores [.Tuple [.Name x px, .Name y py] kt pt] (.Tuple [a, b] k2 pt2) X.env = pure none) (hf : X.fn x = true) (hf2 : X.fn y = true)
    (hs : swapsWithSole [.Tuple [.Name x px, .Name y py] kt pt] (.Tuple [a, b] k2 pt2) pos.line X.env = pure false := by rfl)
    (h1 : (assignEach [.Tuple [.Name x px, .Name y py] kt pt] X.env).map (·.2) = [assign (.Tuple [.Name x px, .Name y py] kt pt) X.env] := by rfl)
    (h2 : (assignEach [.Name x px, .Name y py] X.env).map (·.2) = assign (.Name x px) X.env :: (assignEach [.Name y py] X.env).map (·.2) := by rfl) (h3 : (assignEach [.Name y py] X.env).map (·.2) = assign (.Name y py) X.env :: (assignEach [] X.env).map (·.2) := by rfl)
    (hn : (assignEach [.Name x px, .Name y py] X.env).length = 2 := by rfl) (hst : (assignEach [.Name x px, .Name y py] X.env).findIdx? (·.1) = none := by rfl) :
    PS X (.Assign [.Tuple [.Name x px, .Name y py] kt pt] (.Tuple [a, b] k2 pt2) pos) (tS Θ m) :=
  psLe (ps_asg (pe_tup ha) (pg_tup hc (pgs_cons (pg_name hN hi hx (.inl hf)) (pgs_cons (pg_name hN hj hy (.inl hf2)) pgs_nil h3) h2) hn hst) hs hw h1) fun D σ H h => t2_asg (mono σ H) (f D σ H h)
theorem monoE {m : M IV} : ∀ σ H, ∀ Q Q' : VK, (∀ v H, Q v H → Q' v H) → tE Θ m σ H Q → tE Θ m σ H Q' := fun σ H Q Q' f h => h.imp f
theorem monoN {m : M (List IV)} : ∀ σ H, ∀ Q Q' : VK, (∀ v H, Q v H → Q' v H) → tNw Θ m σ H Q → tNw Θ m σ H Q' := fun σ H Q Q' f ⟨ρ, s, r, o⟩ => ⟨ρ, s, r, o.mono fun l s1 q ρ1 H0 p vs st hp rl => f _ _ (q ρ1 H0 p vs st hp rl)⟩
theorem monoX {t : Fx → TE} {C : Fx → Prop} (h : ∀ Θ' σ H, ∀ Q Q' : VK, (∀ v H, Q v H → Q' v H) → t Θ' σ H Q → t Θ' σ H Q') : ∀ σ H, ∀ Q Q' : VK, (∀ v H, Q v H → Q' v H) → (∃ Θ', C Θ' ∧ t Θ' σ H Q) → ∃ Θ', C Θ' ∧ t Θ' σ H Q' := fun σ H Q Q' f ⟨Θ', c, q⟩ => ⟨Θ', c, h Θ' σ H Q Q' f q⟩
theorem mono2 {t u : TE} (h : ∀ σ H, ∀ Q Q' : VK, (∀ v H, Q v H → Q' v H) → t σ H Q → t σ H Q') (k : ∀ σ H, ∀ Q Q' : VK, (∀ v H, Q v H → Q' v H) → u σ H Q → u σ H Q') :
    ∀ σ H, ∀ Q Q' : List V → Hp → Prop, (∀ vs H, Q vs H → Q' vs H) → tCons t (tCons u tNil) σ H Q → tCons t (tCons u tNil) σ H Q' := fun σ H Q Q' f z => h σ H _ _ (fun v H1 z => k σ H1 _ _ (fun u H2 z => f _ _ z) z) z
theorem t2_VN {j : Nat} {ml : M (List IV)} {D : Ends} (h : tS Θ (mParVN i j ma ml) D σ H) : t2 i j (tCons (tE Θ ma) (tCons (tNw Θ ml) tNil)) D σ H :=
  (tS.bind (R := RepV) h).imp fun v H1 ⟨ρ1, s1, vi, r1, rv, o⟩ => ⟨ρ1, s1, r1, o.bind.mono fun l s2 q ρ2 H0 p vs st2 hp rl => by
    refine ⟨v, .ref p, rfl, fun H9 g => ?_⟩
    have st3 := st2.r.setVal (i := i) (rv.mono st2.le)
    have st4 := st3.r.setOwn (i := j) (.inl hp) (rl.mono st3.le)
    exact q ρ2 _ _ (StR.to (st2.trans (st3.trans st4)) g)⟩
theorem s_parVN {j : Nat} {px py pt : Pos} {kt k2 pt2} {ml : M (List IV)} (hc : X.calm = true) (hN : X.N.Nodup) (hi : X.N[i]? = some x) (hj : X.N[j]? = some y) (hij : i ≠ j)
    (hx : X.env.scope.names.lookup x = some .local) (hy : X.env.scope.names.lookup y = some .local) (ha : PE X a (tE Θ ma)) (hb : PE X b (tNw Θ ml))
    (hw : swappedStores [.Tuple [.Name x px, .Name y py] kt pt] (.Tuple [a, b] k2 pt2) X.env = pure (some [x, y]))
    (hs : swapsWithSole [.Tuple [.Name x px, .Name y py] kt pt] (.Tuple [a, b] k2 pt2) pos.line X.env = pure false := by rfl) (h1 : starEach [a, b] X.env = (false, eval a X.env) :: starEach [b] X.env := by rfl) (h2 : starEach [b] X.env = (false, eval b X.env) :: starEach [] X.env := by rfl) :
    PS X (.Assign [.Tuple [.Name x px, .Name y py] kt pt] (.Tuple [a, b] k2 pt2) pos) (tS Θ (mParVN i j ma ml)) := p_par hc hN hi hj hij hx hy (pa_cons ha (pa_cons hb pa_nil h2) h1) (mono2 monoE monoN) (fun D σ H h => t2_VN h) hw hs
theorem s_asgVN {j : Nat} {px py pt : Pos} {kt k2 pt2} {ml : M (List IV)} (hc : X.calm = true) (hN : X.N.Nodup) (hi : X.N[i]? = some x) (hj : X.N[j]? = some y)
    (hx : Loc X.env.scope x) (hy : Loc X.env.scope y) (ha : PE X a (tE Θ ma)) (hb : PE X b (tNw Θ ml))
    (hw : swappedStores [.Tuple [.Name x px, .Name y py] kt pt] (.Tuple [a, b] k2 pt2) X.env = pure none) (hf : X.fn x = true) (hf2 : X.fn y = true)
    (hs : swapsWithSole [.Tuple [.Name x px, .Name y py] kt pt] (.Tuple [a, b] k2 pt2) pos.line X.env = pure false := by rfl)
    (h1' : (assignEach [.Tuple [.Name x px, .Name y py] kt pt] X.env).map (·.2) = [assign (.Tuple [.Name x px, .Name y py] kt pt) X.env] := by rfl)
    (h2' : (assignEach [.Name x px, .Name y py] X.env).map (·.2) = assign (.Name x px) X.env :: (assignEach [.Name y py] X.env).map (·.2) := by rfl) (h3' : (assignEach [.Name y py] X.env).map (·.2) = assign (.Name y py) X.env :: (assignEach [] X.env).map (·.2) := by rfl)
    (hn : (assignEach [.Name x px, .Name y py] X.env).length = 2 := by rfl) (hst : (assignEach [.Name x px, .Name y py] X.env).findIdx? (·.1) = none := by rfl)
    (h1 : starEach [a, b] X.env = (false, eval a X.env) :: starEach [b] X.env := by rfl) (h2 : starEach [b] X.env = (false, eval b X.env) :: starEach [] X.env := by rfl) :
    PS X (.Assign [.Tuple [.Name x px, .Name y py] kt pt] (.Tuple [a, b] k2 pt2) pos) (tS Θ (mParVN i j ma ml)) := p_asg hc hN hi hj hx hy (pa_cons ha (pa_cons hb pa_nil h2) h1) (mono2 monoE monoN) (fun D σ H h => t2_VN h) hw hf hf2 hs h1' h2' h3' hn hst
theorem s_parVVN {j k : Nat} {z : Str} {px py pz pt : Pos} {kt k2 pt2} {ml : M (List IV)} (hc : X.calm = true) (hN : X.N.Nodup) (hi : X.N[i]? = some x) (hj : X.N[j]? = some y) (hk : X.N[k]? = some z) (hij : i ≠ j) (hik : i ≠ k) (hjk : j ≠ k)
    (hx : X.env.scope.names.lookup x = some .local) (hy : X.env.scope.names.lookup y = some .local) (hz : X.env.scope.names.lookup z = some .local) (ha : PE X a (tE Θ ma)) (hb : PE X b (tE Θ mb)) (hcc : PE X c (tNw Θ ml))
    (hw : swappedStores [.Tuple [.Name x px, .Name y py, .Name z pz] kt pt] (.Tuple [a, b, c] k2 pt2) X.env = pure (some [x, y, z]))
    (hs : swapsWithSole [.Tuple [.Name x px, .Name y py, .Name z pz] kt pt] (.Tuple [a, b, c] k2 pt2) pos.line X.env = pure false := by rfl) (h1 : starEach [a, b, c] X.env = (false, eval a X.env) :: starEach [b, c] X.env := by rfl) (h2 : starEach [b, c] X.env = (false, eval b X.env) :: starEach [c] X.env := by rfl) (h3 : starEach [c] X.env = (false, eval c X.env) :: starEach [] X.env := by rfl) :
    PS X (.Assign [.Tuple [.Name x px, .Name y py, .Name z pz] kt pt] (.Tuple [a, b, c] k2 pt2) pos) (tS Θ (mParVVN i j k ma mb ml)) := psLe (ps_par3 hc hN hi hj hk hij hik hjk hx hy hz (pa_cons ha (pa_cons hb (pa_cons hcc pa_nil h3) h2) h1) hw hs) fun D σ H h =>
  (tS.bind (R := RepV) h).imp fun v H1 ⟨ρ1, s1, vi, r1, rv, o⟩ => ⟨ρ1, s1, r1, o.bind.mono fun ui s2 q ρ2 H2 u st2 ru => ⟨ρ2, s2, st2.r, q.bind.mono fun l s3 q ρ3 H0 p vs st3 hp rl => by
    refine ⟨v, u, .ref p, rfl, ?_⟩
    have st4 := st3.r.setVal (i := i) ((rv.mono st2.le).mono st3.le)
    have st5 := st4.r.setVal (i := j) ((ru.mono st3.le).mono st4.le)
    have st6 := st5.r.setOwn (i := k) (.inl hp) ((rl.mono st4.le).mono st5.le)
    exact q ρ3 _ _ (st2.trans (st3.trans (st4.trans (st5.trans st6))))⟩⟩
/-- with a new list kept aside -/
theorem aside (r : StR Θ ρ s σ H) {p : Addr} {vs : List V} (hp : H p = none) : ∃ w0, StR (plusF Θ p w0) ρ s σ (upd H p (.lst vs)) ∧ (vw Θ ρ s.env σ H).Le (vw (plusF Θ p w0) ρ s.env σ (upd H p (.lst vs))) ∧
    ∀ {ρ2 s2 σ2 H2}, StR (plusF Θ p w0) ρ2 s2 σ2 H2 → H2 p = some (.lst vs) ∧ StR Θ ρ2 s2 σ2 (erase H2 p) ∧ (vw (plusF Θ p w0) ρ2 s2.env σ2 H2).Le (vw Θ ρ2 s2.env σ2 (erase H2 p)) := by
  obtain ⟨h1, h2⟩ := r.plus (vs := vs) hp rfl
  refine ⟨_, h1, h2, fun {ρ2 s2 σ2 H2} r2 => ?_⟩
  have hD : ∀ a, Θ.F a → a ≠ p := fun a f z => by
    obtain ⟨⟨o, e⟩, _⟩ := r.fo a f
    rw [z, hp] at e; cases e
  exact ⟨r2.fkeep p _ (.inr rfl) upd_same, r2.minus (r.base.trans h2) (fun a o f e => (upd_ne (hD a f)).trans (r.fkeep a o f e)) hD⟩
theorem t2_NV {j : Nat} {ml : M (List IV)} {D : Ends} (h : tS Θ (mParNV i j ml mb) D σ H) : t2 i j (tCons (tNw Θ ml) (tCons (fun σ H Q => ∃ Θ', Sub Θ.K Θ' ∧ tE Θ' mb σ H Q) tNil)) D σ H := by
  obtain ⟨ρ, s, r, o⟩ := h
  refine ⟨ρ, s, r, o.bind.mono fun l s1 q ρ1 H1 p vs st1 hp rl => ?_⟩
  obtain ⟨w0, rP, leP, back⟩ := aside st1.r (vs := vs) hp
  refine ⟨plusF Θ p w0, ⟨rfl, rfl⟩, ρ1, s1, rP, q.bind.nox.mono fun vi s2 q ρ2 H2 v st2 rv => ?_⟩
  refine ⟨.ref p, v, rfl, fun H9 g => ?_⟩
  obtain ⟨hat, r3, le3⟩ := back st2.r
  have e3 := upd_at hat
  have leT : (vw Θ ρ1 s1.env σ H1).Le (vw Θ ρ2 s2.env σ (erase H2 p)) := leP.trans (st2.le.trans le3)
  have st4 := r3.setOwn (i := i) (.inl erase_at) (rl.mono leT)
  rw [← e3] at st4
  have st5 := st4.r.setVal (i := j) ((rv.mono le3).mono st4.le)
  have stT : Stp Θ ρ1 s1 σ H1 ρ2 s2 σ (erase H2 p) := ⟨r3, leT⟩
  exact q ρ2 _ _ (StR.to (st1.trans (stT.trans (st4.trans st5))) g)
theorem s_parNV {j : Nat} {px py pt : Pos} {kt k2 pt2} {ml : M (List IV)} (hK : Θ.K = X.K) (hc : X.calm = true) (hN : X.N.Nodup) (hi : X.N[i]? = some x) (hj : X.N[j]? = some y) (hij : i ≠ j)
    (hx : X.env.scope.names.lookup x = some .local) (hy : X.env.scope.names.lookup y = some .local) (ha : PE X a (tNw Θ ml)) (hb : ∀ Θ', Sub X.K Θ' → PE X b (tE Θ' mb))
    (hw : swappedStores [.Tuple [.Name x px, .Name y py] kt pt] (.Tuple [a, b] k2 pt2) X.env = pure (some [x, y]))
    (hs : swapsWithSole [.Tuple [.Name x px, .Name y py] kt pt] (.Tuple [a, b] k2 pt2) pos.line X.env = pure false := by rfl) (h1 : starEach [a, b] X.env = (false, eval a X.env) :: starEach [b] X.env := by rfl) (h2 : starEach [b] X.env = (false, eval b X.env) :: starEach [] X.env := by rfl) :
    PS X (.Assign [.Tuple [.Name x px, .Name y py] kt pt] (.Tuple [a, b] k2 pt2) pos) (tS Θ (mParNV i j ml mb)) := by
  rw [← hK] at hb
  exact p_par hc hN hi hj hij hx hy (pa_cons ha (pa_cons (pe_ex hb) pa_nil h2) h1) (mono2 monoN (monoX fun Θ' => monoE)) (fun D σ H h => t2_NV h) hw hs
theorem s_asgNV {j : Nat} {px py pt : Pos} {kt k2 pt2} {ml : M (List IV)} (hK : Θ.K = X.K) (hc : X.calm = true) (hN : X.N.Nodup) (hi : X.N[i]? = some x) (hj : X.N[j]? = some y) (hx : Loc X.env.scope x) (hy : Loc X.env.scope y) (ha : PE X a (tNw Θ ml)) (hb : ∀ Θ', Sub X.K Θ' → PE X b (tE Θ' mb))
    (hw : swappedStores [.Tuple [.Name x px, .Name y py] kt pt] (.Tuple [a, b] k2 pt2) X.env = pure none) (hf : X.fn x = true) (hf2 : X.fn y = true)
    (hs : swapsWithSole [.Tuple [.Name x px, .Name y py] kt pt] (.Tuple [a, b] k2 pt2) pos.line X.env = pure false := by rfl)
    (h1' : (assignEach [.Tuple [.Name x px, .Name y py] kt pt] X.env).map (·.2) = [assign (.Tuple [.Name x px, .Name y py] kt pt) X.env] := by rfl)
    (h2' : (assignEach [.Name x px, .Name y py] X.env).map (·.2) = assign (.Name x px) X.env :: (assignEach [.Name y py] X.env).map (·.2) := by rfl) (h3' : (assignEach [.Name y py] X.env).map (·.2) = assign (.Name y py) X.env :: (assignEach [] X.env).map (·.2) := by rfl)
    (hn : (assignEach [.Name x px, .Name y py] X.env).length = 2 := by rfl) (hst : (assignEach [.Name x px, .Name y py] X.env).findIdx? (·.1) = none := by rfl)
    (h1 : starEach [a, b] X.env = (false, eval a X.env) :: starEach [b] X.env := by rfl) (h2 : starEach [b] X.env = (false, eval b X.env) :: starEach [] X.env := by rfl) :
    PS X (.Assign [.Tuple [.Name x px, .Name y py] kt pt] (.Tuple [a, b] k2 pt2) pos) (tS Θ (mParNV i j ml mb)) := by
  rw [← hK] at hb
  exact p_asg hc hN hi hj hx hy (pa_cons ha (pa_cons (pe_ex hb) pa_nil h2) h1) (mono2 monoN (monoX fun Θ' => monoE)) (fun D σ H h => t2_NV h) hw hf hf2 hs h1' h2' h3' hn hst
theorem t2_NN {j : Nat} {ml mk : M (List IV)} {D : Ends} (h : tS Θ (mParNN i j ml mk) D σ H) : t2 i j (tCons (tNw Θ ml) (tCons (fun σ H Q => ∃ Θ', Sub Θ.K Θ' ∧ tNw Θ' mk σ H Q) tNil)) D σ H := by
  obtain ⟨ρ, s, r, o⟩ := h
  refine ⟨ρ, s, r, o.bind.mono fun l s1 q ρ1 H1 p vs st1 hp rl => ?_⟩
  obtain ⟨w0, rP, leP, back⟩ := aside st1.r (vs := vs) hp
  refine ⟨plusF Θ p w0, ⟨rfl, rfl⟩, ρ1, s1, rP, q.bind.nox.mono fun k s2 q ρ2 H2 p2 us st2 hp2 rk => ?_⟩
  refine ⟨.ref p, .ref p2, rfl, fun H9 g => ?_⟩
  obtain ⟨hat, r3, le3⟩ := back st2.r
  have e3 := upd_at hat
  have leT : (vw Θ ρ1 s1.env σ H1).Le (vw Θ ρ2 s2.env σ (erase H2 p)) := leP.trans (st2.le.trans le3)
  have st4 := r3.setOwn (i := i) (.inl erase_at) (rl.mono leT)
  rw [← e3] at st4
  have st5 := st4.r.setOwn (i := j) (.inl hp2) ((rk.mono le3).mono st4.le)
  have stT : Stp Θ ρ1 s1 σ H1 ρ2 s2 σ (erase H2 p) := ⟨r3, leT⟩
  exact q ρ2 _ _ (StR.to (st1.trans (stT.trans (st4.trans st5))) g)
theorem s_parNN {j : Nat} {px py pt : Pos} {kt k2 pt2} {ml mk : M (List IV)} (hK : Θ.K = X.K) (hc : X.calm = true) (hN : X.N.Nodup) (hi : X.N[i]? = some x) (hj : X.N[j]? = some y) (hij : i ≠ j)
    (hx : X.env.scope.names.lookup x = some .local) (hy : X.env.scope.names.lookup y = some .local) (ha : PE X a (tNw Θ ml)) (hb : ∀ Θ', Sub X.K Θ' → PE X b (tNw Θ' mk))
    (hw : swappedStores [.Tuple [.Name x px, .Name y py] kt pt] (.Tuple [a, b] k2 pt2) X.env = pure (some [x, y]))
    (hs : swapsWithSole [.Tuple [.Name x px, .Name y py] kt pt] (.Tuple [a, b] k2 pt2) pos.line X.env = pure false := by rfl) (h1 : starEach [a, b] X.env = (false, eval a X.env) :: starEach [b] X.env := by rfl) (h2 : starEach [b] X.env = (false, eval b X.env) :: starEach [] X.env := by rfl) :
    PS X (.Assign [.Tuple [.Name x px, .Name y py] kt pt] (.Tuple [a, b] k2 pt2) pos) (tS Θ (mParNN i j ml mk)) := by
  rw [← hK] at hb
  exact p_par hc hN hi hj hij hx hy (pa_cons ha (pa_cons (pe_ex hb) pa_nil h2) h1) (mono2 monoN (monoX fun Θ' => monoN)) (fun D σ H h => t2_NN h) hw hs
theorem s_asgNN {j : Nat} {px py pt : Pos} {kt k2 pt2} {ml mk : M (List IV)} (hK : Θ.K = X.K) (hc : X.calm = true) (hN : X.N.Nodup) (hi : X.N[i]? = some x) (hj : X.N[j]? = some y) (hx : Loc X.env.scope x) (hy : Loc X.env.scope y) (ha : PE X a (tNw Θ ml)) (hb : ∀ Θ', Sub X.K Θ' → PE X b (tNw Θ' mk))
    (hw : swappedStores [.Tuple [.Name x px, .Name y py] kt pt] (.Tuple [a, b] k2 pt2) X.env = pure none) (hf : X.fn x = true) (hf2 : X.fn y = true)
    (hs : swapsWithSole [.Tuple [.Name x px, .Name y py] kt pt] (.Tuple [a, b] k2 pt2) pos.line X.env = pure false := by rfl)
    (h1' : (assignEach [.Tuple [.Name x px, .Name y py] kt pt] X.env).map (·.2) = [assign (.Tuple [.Name x px, .Name y py] kt pt) X.env] := by rfl)
    (h2' : (assignEach [.Name x px, .Name y py] X.env).map (·.2) = assign (.Name x px) X.env :: (assignEach [.Name y py] X.env).map (·.2) := by rfl) (h3' : (assignEach [.Name y py] X.env).map (·.2) = assign (.Name y py) X.env :: (assignEach [] X.env).map (·.2) := by rfl)
    (hn : (assignEach [.Name x px, .Name y py] X.env).length = 2 := by rfl) (hst : (assignEach [.Name x px, .Name y py] X.env).findIdx? (·.1) = none := by rfl)
    (h1 : starEach [a, b] X.env = (false, eval a X.env) :: starEach [b] X.env := by rfl) (h2 : starEach [b] X.env = (false, eval b X.env) :: starEach [] X.env := by rfl) :
    PS X (.Assign [.Tuple [.Name x px, .Name y py] kt pt] (.Tuple [a, b] k2 pt2) pos) (tS Θ (mParNN i j ml mk)) := by
  rw [← hK] at hb
  exact p_asg hc hN hi hj hx hy (pa_cons ha (pa_cons (pe_ex hb) pa_nil h2) h1) (mono2 monoN (monoX fun Θ' => monoN)) (fun D σ H h => t2_NN h) hw hf hf2 hs h1' h2' h3' hn hst
end
end Mi
set_option Elab.async false
set_option linter.all false
set_option maxRecDepth 100000
namespace Mi
open PySem L2 PyProof.Rows

variable {Θ : Fx} {ρ ρ' : List Addr} {s s' : S} {σ σ' : L2.St} {H H' : Hp} {X : Cx} {K : PySem.W.Frag}

/-! ### defs from which nothing is raised -/
section
variable {P : Program} {w : World} {mg : Str → Option Value} {base : Heap}
theorem okM0 {x qual : Str} {st : Stmt} {f : Addr} {fd : FuncData} {N ps : List Str} {k : Nat} {m : M Flw} (F : Fun K x qual st f fd) (S : FnScope N ps (defScope st))
    (hb : ∀ (cdv : Value) (A : Around) (outer : List Env) (s : Shared) (H : Hp) (E : XK) (Θ : Fx), Room k (A.deeper (envOfC qual (defScope st) s.heap.objs.size f cdv)) → Θ.K = K → Θ.EX = EXof K Θ.F Θ.w0 E →
      PSs (cxOf CX0 P w K mg base N qual (defScope st) f cdv A outer s H E).nox (defBody st) (tS Θ m)) :
    FnOk P w K mg base CX0 (k + 1) f fd ps (spF K (ar ps.length (runF N.length m))) := okM F S fun cdv A outer s H E Θ hr hK hE => (hb cdv A outer s H E Θ hr hK hE).nox
theorem okI0 {x qual : Str} {st : Stmt} {f C : Addr} {fd : FuncData} {N ps : List Str} {k : Nat} {m : M Flw} (F : Fun K x qual st f fd) (S : FnScope N ps (defScope st))
    (hb : ∀ (cdv : Value) (A : Around) (outer : List Env) (s : Shared) (H : Hp) (E : XK) (Θ : Fx), Room k (A.deeper (envOfC qual (defScope st) s.heap.objs.size f cdv)) → Θ.K = K → Θ.EX = EXof K Θ.F Θ.w0 E →
      PSs (cxOf CX0 P w K mg base N qual (defScope st) f cdv A outer s H E).nox (defBody st) (tS Θ m)) :
    FnOk P w K mg base CX0 (k + 1) f fd ps (spI K C (runI N.length ps.length C m)) := okI F S fun cdv A outer s H E Θ hr hK hE => (hb cdv A outer s H E Θ hr hK hE).nox
end
theorem okNo {P : Program} {w : World} {mg : Str → Option Value} {base : Heap} {CX : CXT} {f : Addr} {fd : FuncData} {ps : List Str} {k : Nat} : FnOk P w K mg base CX k f fd ps (spF K fun _ _ => .no) :=
  ⟨fun _ _ _ _ ⟨_, _, _, _, _, _, q⟩ => q.elim, fun _ _ _ _ _ _ _ _ _ _ _ _ _ ⟨_, _, _, _, _, _, q⟩ => q.elim⟩
/-- a def as the top left it -/
structure FnB (K : PySem.W.Frag) (mg : Str → Option Value) (x : Str) (st : Stmt) (ps : List Str) (f : Addr) (fd : FuncData) : Prop where
  g : mg x = some (.ref f)
  F : Fun K x x st f fd
  b : L2.Binds K fd ps []
/-- a class's __init__ -/
structure InB (K : PySem.W.Frag) (mg : Str → Option Value) (x : Str) (st : Stmt) (qual : Str) (ps : List Str) (C f : Addr) (fd : FuncData) : Prop where
  g : mg x = some (.ref C)
  mK : Mk K C f
  F : Fun K "__init__" qual st f fd
  b : L2.Binds K fd ps []
section
variable {k j : Nat} {f C : Addr} {fd : FuncData} {ps : List Str} {fn : Fn} {fi : FnI} {x qual : Str} {st : Stmt} {p pos : Pos} {e a : Expr} {es : List Expr} {mr : M (List IV)} {E : XK} {i : Int}
theorem c_call (B : FnB X.K X.mg x st ps f fd) (G : FnOk X.prog X.w X.K X.mg X.base CX0 k f fd ps (spF X.K fn)) (hr : Room j X.A) (hjk : k ≤ j) (hg : Gl X x) (hK : Θ.K = X.K) (hE : Θ.EX = EXof X.K Θ.F Θ.w0 E) (ha : PA X (e :: es) (tA Θ mr))
    (hd : (x == ("__debug__" : Str)) = false := by decide) (hs : starEach (e :: es) X.env = (false, eval e X.env) :: starEach es X.env := by rfl) (hpl : (backTo pos (starEach es X.env)).any (·.1) = false := by rfl) :
    PE X (.Call (.Name x p) (e :: es) [] pos) (tE Θ (mCall fn mr)) := e_call G (hr.mono hjk) hg B.g B.F.kp B.b (fun _ _ _ _ _ _ _ h => h.elim) hK hE ha hd hs hpl
theorem c_call0 (B : FnB X.K X.mg x st ps f fd) (G : FnOk X.prog X.w X.K X.mg X.base CX0 k f fd ps (spF X.K fn)) (hr : Room j X.A) (hjk : k ≤ j) (hg : Gl X x) (hK : Θ.K = X.K) (hE : Θ.EX = EXof X.K Θ.F Θ.w0 E)
    (hd : (x == ("__debug__" : Str)) = false := by decide) : PE X (.Call (.Name x p) [] [] pos) (tE Θ (mCall fn mNil)) := e_call0 G (hr.mono hjk) hg B.g B.F.kp B.b (fun _ _ _ _ _ _ _ h => h.elim) hK hE hd
theorem c_make (B : InB X.K X.mg x st qual ps C f fd) (G : FnOk X.prog X.w X.K X.mg X.base CX0 k f fd ps (spI X.K C fi)) (hr : Room j X.A) (hjk : k + 1 ≤ j) (hg : Gl X x) (hK : Θ.K = X.K) (hE : Θ.EX = EXof X.K Θ.F Θ.w0 E) (ha : PA X (e :: es) (tA Θ mr))
    (hd : (x == ("__debug__" : Str)) = false := by decide) (hs : starEach (e :: es) X.env = (false, eval e X.env) :: starEach es X.env := by rfl) (hpl : (backTo pos (starEach es X.env)).any (·.1) = false := by rfl) :
    PE X (.Call (.Name x p) (e :: es) [] pos) (tE Θ (mMake C fi mr)) := e_make B.mK G (hr.mono hjk) hg B.g B.b (fun _ _ _ _ _ _ _ h => h.elim) hK hE ha hd hs hpl
theorem e_gint (h : ∃ t, X.mg x = some (.int i t)) (hg : Gl X x) (hd : (x == ("__debug__" : Str)) = false := by decide) : PE X (.Name x p) (tE Θ (mC (.int i))) := by
  obtain ⟨t, h⟩ := h
  exact peLe (pe_glob hg h (v := .int i) ⟨t, rfl⟩ hd) fun _ _ _ h => tE_C (fun _ => .int _) h
theorem e_bty {n : String} (hg : Gl X x) (hm : X.mg x = none) (hv : bootBuiltins x = some (.type n)) (hn : x ≠ "__name__" := by decide) (hd : (x == ("__debug__" : Str)) = false := by decide) : PE X (.Name x p) (tE Θ (mC (.ty n))) :=
  peLe (pe_bltn hg hm hv (v := .ty n) rfl hn hd) fun _ _ _ h => tE_C (fun _ => .ty _) h
theorem e_gadr {C : Addr} (hK : Θ.K = X.K) (hm : X.mg x = some (.ref C)) (ho : ∃ o, X.K.lookup C = some o) (hg : Gl X x) (hd : (x == ("__debug__" : Str)) = false := by decide) : PE X (.Name x p) (tE Θ (mC (.adr C))) :=
  peLe (pe_glob hg hm (v := .ref C) rfl hd) fun σ H Q h => by
    obtain ⟨ρ, s, r, o⟩ := h
    exact o ρ H _ r.here (.adr (by rw [show (vw Θ ρ s.env σ H).K = X.K from hK]; exact ho))
/-- a new dict that is never looked at -/
theorem e_fd : PE X (.Dict [] [] pos) (tE Θ (mC .fd)) := peLe pe_dnewK fun σ H Q ⟨ρ, s, r, o⟩ => by
  intro d hd
  obtain ⟨st, n⟩ := r.laid (o := .dK []) hd
  exact o ρ _ _ st (.fd upd_same n)
end

section
theorem s_par3 {i j k : Nat} {x y z : Str} {a b c : Expr} {ma : M (List IV)} {px py pz pt pos : Pos} {kt k2 pt2} (hc : X.calm = true) (hN : X.N.Nodup) (hi : X.N[i]? = some x) (hj : X.N[j]? = some y) (hl : X.N[k]? = some z) (hij : i ≠ j) (hil : i ≠ k) (hjl : j ≠ k)
    (hx : X.env.scope.names.lookup x = some .local) (hy : X.env.scope.names.lookup y = some .local) (hz : X.env.scope.names.lookup z = some .local) (ha : PA X [a, b, c] (tA Θ ma))
    (hw : swappedStores [.Tuple [.Name x px, .Name y py, .Name z pz] kt pt] (.Tuple [a, b, c] k2 pt2) X.env = pure (some [x, y, z]))
    (hs : swapsWithSole [.Tuple [.Name x px, .Name y py, .Name z pz] kt pt] (.Tuple [a, b, c] k2 pt2) pos.line X.env = pure false := by rfl) :
    PS X (.Assign [.Tuple [.Name x px, .Name y py, .Name z pz] kt pt] (.Tuple [a, b, c] k2 pt2) pos) (tS Θ (mPar3 i j k ma)) := psLe (ps_par3 hc hN hi hj hl hij hil hjl hx hy hz ha hw hs) fun D σ H h =>
  (tS.bind (R := RepL) h).imp fun vs H1 ⟨ρ1, s1, l, r1, rl, o⟩ => by
    cases rl with
    | nil => exact o.elim
    | cons h1 t1 => cases t1 with
      | nil => exact o.elim
      | cons h2 t2 => cases t2 with
        | nil => exact o.elim
        | cons h3 t3 => cases t3 with
          | nil =>
            have st1 := r1.setVal (i := i) h1
            have st2 := st1.r.setVal (i := j) (h2.mono st1.le)
            have st3 := st2.r.setVal (i := k) (h3.mono (st1.trans st2).le)
            exact ⟨_, _, _, rfl, o ρ1 _ H1 ((st1.trans st2).trans st3)⟩
          | cons _ _ => exact o.elim
end
end Mi
set_option Elab.async false
set_option linter.all false
set_option maxRecDepth 100000
namespace Mi
open PySem L2 PyProof.Rows

variable {K : PySem.W.Frag}

/-! ### the end: the law's promise, a table of the top -/
theorem en_nil {K : PySem.W.Frag} (H : Hp) : EnR K (fun _ => False) [] [] H := ⟨rfl, fun i a o e => by simp at e, fun i j a e => by simp at e, fun a h => h.elim⟩
def spLaw (K : PySem.W.Frag) : Sp := fun vs H Q _ => ∃ (a : Addr) (ns : List Int), vs = [.ref a] ∧ SqL K H a (ns.map V.int) ∧ ns.length ≤ 63 ∧ L2.Only H ∧ ∀ H', Q (.bl true) H'
theorem rep_ints (w : Vw) : ∀ ns : List Int, RepL w (ns.map V.int) (ns.map IV.int)
  | [] => .nil
  | n :: ns => .cons (.int n) (rep_ints w ns)
theorem law_in {fn : Fn} (h : ∀ ns : List Int, ns.length ≤ 63 → ∃ μ, fn [.fl (ns.map .int)] [] = .ok (.bl true) μ) (vs : List V) (H : Hp) (Q : VK) (E : XK) (q : spLaw K vs H Q E) : spF K fn vs H Q E := by
  obtain ⟨a, ns, rfl, hS, hl, hO, k⟩ := q
  obtain ⟨μ, e⟩ := h ns hl
  refine ⟨[], [], [.fl (ns.map .int)], fun _ => False, en_nil H, .cons (.fl ?_ (rep_ints _ ns)) .nil, ?_⟩
  · rcases hS with hS | hS
    · rcases hS with hS | ⟨o, hS⟩
      · rcases hO a with z | ⟨o, xs, z⟩
        · rw [hS] at z; cases z
        · rw [hS] at z; cases z
      · exact .inr ⟨_, hS, .inr ⟨o, rfl⟩, fun z => z.elim (fun z => by cases z) id⟩
    · exact .inl hS
  · rw [e]
    intro ρ' H' v _ _ _ rv
    cases rv
    exact k H'
def TabE (P : Params) : List (Str × Int) → List DictEntry → Prop
  | [], [] => True
  | p :: r, e :: s => (∃ t, e.key = .str p.1 t) ∧ e.hash = PyData.keyHash P p.1 ∧ (∃ t, e.val = .int p.2 t) ∧ TabE P r s
  | _, _ => False
theorem tabE_keys {P : Params} : ∀ {tab : List (Str × Int)} {es : List DictEntry}, TabE P tab es → PySem.W.KeysLit P es
  | [], [], _ => trivial
  | p :: r, e :: s, ⟨⟨t, h1⟩, h2, _, h4⟩ => ⟨⟨p.1, t, h1, h2⟩, tabE_keys h4⟩
  | [], _ :: _, h => h.elim
  | _ :: _, [], h => h.elim
theorem tabE_get {P : Params} (z : Str) : ∀ {tab : List (Str × Int)} {es : List DictEntry}, TabE P tab es → match tab.lookup z with
    | none => es.find? (·.key.isStr z) = none ∧ es.any (·.refKey) = false
    | some i => ∃ e t, es.find? (·.key.isStr z) = some e ∧ e.val = .int i t
  | [], [], _ => ⟨rfl, rfl⟩
  | p :: r, e :: s, ⟨⟨t, h1⟩, h2, ⟨u, h3⟩, h4⟩ => by
    have ih := tabE_get z h4
    obtain ⟨x, i⟩ := p
    have hk : e.key.isStr z = (x == z) := by rw [PySem.W.isStr_of, show e.key = .str x t from h1]; rfl
    have hr : e.refKey = false := by unfold DictEntry.refKey; rw [show e.key = .str x t from h1]
    rw [List.lookup_cons]
    by_cases hx : z = x
    · subst hx
      rw [show (z == z) = true from by simp]
      exact ⟨e, u, by rw [List.find?_cons, hk]; simp, h3⟩
    · have hx' : (x == z) = false := by simpa using fun q => hx q.symm
      rw [show (z == x) = false from by simpa using hx]
      show match r.lookup z with
        | none => _
        | some i => _
      cases q : r.lookup z with
      | none =>
        rw [q] at ih
        exact ⟨by rw [List.find?_cons, hk, hx']; exact ih.1, by rw [List.any_cons, hr]; exact ih.2⟩
      | some j =>
        rw [q] at ih
        obtain ⟨e', t', k1, k2⟩ := ih
        exact ⟨e', t', by rw [List.find?_cons, hk, hx']; exact k1, k2⟩
  | [], _ :: _, h => h.elim
  | _ :: _, [], h => h.elim
theorem ktab_of {w : World} {d : Addr} {tab : List (Str × Int)} {es : Array DictEntry} {n : Nat} (l : K.lookup d = some ⟨.type "dict", none, .dict es n, #[]⟩) (e : TabE w.params tab es.toList) (z : (d == sysModules) = false) : KTab K w d tab := by
  refine ⟨⟨es, n, l, tabE_keys e, z⟩, fun x => ?_⟩
  have g := tabE_get x e
  unfold PySem.W.nsIn
  rw [l]
  cases q : tab.lookup x with
  | none =>
    rw [q] at g
    show (match es.toList.find? (·.key.isStr x) with
      | some e => some (some e.val)
      | none => if es.toList.any (·.refKey) then none else some none) = some none
    rw [g.1, g.2]
    rfl
  | some i =>
    rw [q] at g
    obtain ⟨e', t, k1, k2⟩ := g
    refine ⟨t, ?_⟩
    show (match es.toList.find? (·.key.isStr x) with
      | some e => some (some e.val)
      | none => if es.toList.any (·.refKey) then none else some none) = some (some (.int i t))
    rw [k1]
    exact congrArg (fun v => some (some v)) k2
theorem walkM {l : PySem.W.OpenLaw} {q : Program} {loose : List Str} {XP : (Str → Option Value) → Heap → Prop} {YP : World → Heap → Prop} {d : DefRec} {K : Params → PySem.W.Frag} {k : Nat} {x : Str} (hn : l.most = some 63) (hdf : d.params.defaults = []) (hr : Room k callerA)
    (hY : ∀ (w : World) (h : Heap), YP w h → (K w.params).In h)
    (F : ∀ (w : World) (mg : Str → Option Value) (fa : Addr) (h : Heap), (K w.params).In h → h.Ns mainGlobals mg → mg d.name = some (.ref fa) →
      ∃ fd : FuncData, (∀ (s : Shared) (u : Value), BindsTo s fd ⟨[u], []⟩ [(x, u)]) ∧ ∀ base : Heap, (K w.params).In base → base.Ns mainGlobals mg → FnOk l.prog w (K w.params) mg base CX0 k fa fd [x] (spLaw (K w.params))) :
    PySem.W.WalkO q loose XP YP l.row.toRowW d [] (fun f vs => PySem.call f vs) :=
  L2.walk_of (n := 63) (k := k) (x := x) (CX := fun _ => CX0) (sp := fun w => spLaw (K w.params)) hn (by decide) hdf hr hY F (fun _ _ a ns hl hO hS => ⟨a, ns, rfl, hS, hl, hO, fun _ => rfl⟩) fun _ _ _ _ _ z => z
end Mi
set_option Elab.async false
set_option linter.all false
set_option maxRecDepth 100000
namespace Mi
open PySem L2 PyProof.Rows

variable {Θ : Fx} {ρ ρ' : List Addr} {s s' : S} {σ σ' : L2.St} {H H' : Hp} {X : Cx} {K : PySem.W.Frag}

section
variable {a b c e : Expr} {ma mb mc mv : M IV} {pos p p1 : Pos} {mr : M (List IV)} {tg : Expr} {x : Str}
/-! ### new lists by operators -/
def mulL : IV → IV → Option (List IV)
  | .fl l, .int k => if k.natAbs ≤ 1000000000 ∧ l.length * k.toNat ≤ szl then some (List.replicate k.toNat l).flatten else none
  | _, _ => none
def addL : IV → IV → Option (List IV)
  | .fl a, .fl b => if a.length + b.length ≤ szl then some (a ++ b) else none
  | _, _ => none
def mOpL (f : IV → IV → Option (List IV)) (a b : M IV) : M (List IV) := M.bind a fun x => M.bind b fun y => M.opt (f x y)
theorem n_mul (hK : Θ.K = X.K) (ha : PE X a (tE Θ ma)) (hb : PE X b (tE Θ mb)) : PE X (.BinOp a .Mult b pos) (tNw Θ (mOpL mulL ma mb)) :=
  peLe (pe_op op_repR ha hb) fun σ H Q ⟨ρ, s, r, o⟩ => ⟨ρ, s, r, o.bind.mono fun x s1 q ρ1 H1 v st1 rx =>
    ⟨ρ1, s1, st1.r, q.bind.mono fun y s2 q2 ρ2 H2 u st2 ry => by
      obtain ⟨z, e, q3⟩ := q2.opt
      unfold mulL at e
      split at e
      · split at e
        · rename_i h; cases e
          have rx' := rx.mono st2.le
          cases ry
          cases rx' with | fl h1 l1 =>
          have hq := h1.sq
          refine ⟨_, _, _, rfl, rfl, by rw [← hK]; exact hq, by omega, by omega, by rw [l1.length]; exact le_szl h.2, fun p hp => q3 ρ2 H2 p _ (st1.trans st2) hp (l1.flat _)⟩
        · cases e
      · cases e⟩⟩
theorem n_add (hK : Θ.K = X.K) (ha : PE X a (tE Θ ma)) (hb : PE X b (tE Θ mb)) : PE X (.BinOp a .Add b pos) (tNw Θ (mOpL addL ma mb)) :=
  peLe (pe_op op_catR ha hb) fun σ H Q ⟨ρ, s, r, o⟩ => ⟨ρ, s, r, o.bind.mono fun x s1 q ρ1 H1 v st1 rx =>
    ⟨ρ1, s1, st1.r, q.bind.mono fun y s2 q2 ρ2 H2 u st2 ry => by
      obtain ⟨z, e, q3⟩ := q2.opt
      unfold addL at e
      split at e
      · split at e
        · rename_i h; cases e
          have rx' := rx.mono st2.le
          cases ry with | fl h2 l2 =>
          cases rx' with | fl h1 l1 =>
          have hq1 := h1.sq
          have hq2 := h2.sq
          refine ⟨_, _, _, _, rfl, rfl, by rw [← hK]; exact hq1, by rw [← hK]; exact hq2, by rw [l1.length, l2.length]; exact le_szl h, fun p hp => q3 ρ2 H2 p _ (st1.trans st2) hp (l1.append l2)⟩
        · cases e
      · cases e⟩⟩
def listL : List IV → Option (List IV)
  | [.fl l] => some l
  | [.tup l] => some l
  | _ => none
theorem n_list (hK : Θ.K = X.K) (hg : Gl X x) (hm : X.mg x = none) (hv : bootBuiltins x = some (.type "list")) (ha : PA X [e] (tA Θ mr)) (hn : x ≠ "__name__" := by decide) (hdb : (x == ("__debug__" : Str)) = false := by decide)
    (he : starEach [e] X.env = (false, eval e X.env) :: starEach [] X.env := by rfl) (hpl : (backTo pos (starEach [] X.env)).any (·.1) = false := by rfl) : PE X (.Call (.Name x p) [e] [] pos) (tNw Θ (mApL listL mr)) :=
  peLe (pe_callTy call_list_of hg hm hv ha hn hdb he hpl) fun σ H Q ⟨ρ, s, r, o⟩ => ⟨ρ, s, r, o.bind.mono fun l s1 q ρ1 H1 vs st rl => by
    obtain ⟨z, e, q⟩ := q.opt
    unfold listL at e
    split at e
    · obtain ⟨v, rfl, rv⟩ := rep1 rl; cases e
      cases rv with | fl h1 l1 => exact ⟨_, _, rfl, .inl (by rw [← hK]; exact h1.sq), fun p hp => q ρ1 H1 p _ st hp l1⟩
    · obtain ⟨v, rfl, rv⟩ := rep1 rl; cases e
      cases rv with | tup h1 l1 => exact ⟨_, _, rfl, .inr (by rw [← hK]; exact h1.sq), fun p hp => q ρ1 H1 p _ st hp l1⟩
    · cases e⟩
/-! ### x[k] = v, x own -/
def mOwnSet (i : Nat) (mv mk : M IV) : M Flw := M.bind mv fun v s => match s.env[i]? with
  | some (.own _) => M.bind mk (fun k s => match s.env[i]?, k with
    | some (.own l), .int k => match ixN l.length k with
      | some n => .ok .nx (setE i (.own (l.set n v)) s)
      | none => .no
    | _, _ => .no) s
  | _ => .no
theorem s_ownSet {i : Nat} (hN : X.N[i]? = some x) (hvv : Vis X.env.scope x) (hv : PE X e (tE Θ mv)) (hi : PE X b (tE Θ mb)) (hd : (x == ("__debug__" : Str)) = false := by decide) (hcd : (x == ("__classdict__" : Str)) = false := by decide)
    (hs : swapsWithSole [.Subscript (.Name x p1) b p] e pos.line X.env = pure false := by rfl) (hw : swappedStores [.Subscript (.Name x p1) b p] e X.env = pure none := by rfl)
    (h1 : (assignEach [.Subscript (.Name x p1) b p] X.env).map (·.2) = [assign (.Subscript (.Name x p1) b p) X.env] := by rfl)
    (hq : ∀ v, assign (.Subscript (.Name x p1) b p) X.env v = (do
      let ov ← holding [v] (eval (.Name x p1) X.env)
      let iv ← holding [v, ov] (eval b X.env)
      standAt p
      holding [v, ov, iv] (setItem ov iv v)
      release [v, ov, iv] []) := by intro _; rfl) : PS X (.Assign [.Subscript (.Name x p1) b p] e pos) (tS Θ (mOwnSet i mv mb)) :=
  psLe (ps_asg hv (pg_sub (pe_var hN hvv hd hcd) hi set_list hq) hs hw h1) fun D σ H h => (tS.bind (R := RepV) h).imp fun v H1 ⟨ρ1, s1, vi, r1, rv, o1⟩ => by
    split at o1
    · rename_i l0 e0
      obtain ⟨a, vs0, h1, h2, h3⟩ := r1.slot i _ e0
      refine ⟨_, h1, ρ1, s1, r1, o1.bind.mono fun ki s2 q ρ2 H2 kv st2 rk => ?_⟩
      split at q
      · rename_i l k e1
        obtain ⟨a', vs, k1, k2, k3⟩ := st2.r.slot i _ e1
        rw [h1] at k1; cases k1
        cases rk
        split at q
        · rename_i n en
          refine ⟨_, vs, k, n, rfl, rfl, k2, by rw [k3.length]; exact en, ?_⟩
          have st3 := st2.r.setOwn (p := a) (.inr ⟨h1, l, e1⟩) (k3.set (rv.mono st2.le) n)
          rw [set_same h1] at st3
          exact q ρ2 σ _ (st2.trans st3)
        · exact q.elim
      · exact q.elim
    · exact o1.elim
/-! ### range(a, b, -1) -/
def rngD (lo : Int) (n : Nat) : List IV := (List.range n).map fun (i : Nat) => IV.int (lo + i * (-1))
def rng3 : List IV → Option (List IV)
  | [.int i, .int j, .int (-1)] => if i.natAbs ≤ 4611686018427387 ∧ j.natAbs ≤ 4611686018427387 then some (rngD i (i - j).toNat) else none
  | _ => none
theorem itc_ok {w : Vw} (lo : Int) (n : Nat) : ItOk w (Itc lo (-1) n) (rngD lo n) := fun w' le tr => by
  refine ⟨fun i x e => ?_, fun i hi => (show n ≤ i by simpa [rngD] using hi)⟩
  unfold rngD at e
  rw [List.getElem?_map] at e
  have hi : i < n := by
    cases q : (List.range n)[i]? with
    | none => rw [q] at e; cases e
    | some j => have := (List.getElem?_eq_some_iff.mp q).1; simpa using this
  rw [List.getElem?_range hi] at e
  cases e
  exact ⟨hi, fun v H' y => by obtain ⟨e1, e2⟩ := y; subst e1; subst e2; exact ⟨fun _ _ q => q, .int _⟩⟩
theorem i_range3 (hg : Gl X "range") (hm : X.mg "range" = none) (ha : PA X [a, b, c] (tA Θ mr)) (hs : starEach [a, b, c] X.env = (false, eval a X.env) :: starEach [b, c] X.env := by rfl) (hpl : (backTo pos (starEach [b, c] X.env)).any (·.1) = false := by rfl) :
    PI X tg (.Call (.Name "range" p) [a, b, c] [] pos) (tI Θ (mApL rng3 mr)) :=
  piLe (pi_range3 hg hm ha hs hpl) fun σ H R ⟨ρ, s, r, o⟩ => ⟨ρ, s, r, o.bind.mono fun l s1 q ρ1 H1 vs st rl => by
    obtain ⟨z, e, q⟩ := q.opt
    unfold rng3 at e
    split at e
    · split at e
      · rename_i hj; cases e
        cases rl with | cons h1 t1 => cases t1 with | cons h2 t2 => cases t2 with | cons h3 t3 => cases t3 with | nil =>
        cases h1; cases h2; cases h3
        exact ⟨_, _, _, _, rfl, RgC.neg (by omega) (by omega) (by omega) (by omega), q ρ1 H1 _ st (itc_ok _ _)⟩
      · cases e
    · cases e⟩
end
end Mi
set_option Elab.async false
set_option linter.all false
set_option maxRecDepth 100000
namespace Mi
open PySem L2

/-! ### running mirrors: W m s Q, m ends well at s and Q holds of what it tells -/
def W {α : Type} (m : M α) (s : S) (Q : α → S → Prop) : Prop := match m s with
  | .ok a s' => Q a s'
  | _ => False
def WF (r : RF) (Q : IV → List SO → Prop) : Prop := match r with
  | .ok v μ => Q v μ
  | _ => False
def WI (r : RI) (Q : List (Str × IV) → List SO → Prop) : Prop := match r with
  | .ok v μ => Q v μ
  | _ => False
section
variable {α β : Type} {m : M α} {k : α → M β} {s : S} {Q : α → S → Prop} {R : β → S → Prop}
theorem W.mono {Q' : α → S → Prop} (h : W m s Q) (f : ∀ a s', Q a s' → Q' a s') : W m s Q' := by
  unfold W at *
  cases e : m s with
  | ok a s' => rw [e] at h; exact f _ _ h
  | ex c fs s' => rw [e] at h; exact h.elim
  | no => rw [e] at h; exact h.elim
theorem W.run (h : W m s Q) : ∃ a s', m s = .ok a s' ∧ Q a s' := by
  unfold W at h
  cases e : m s with
  | ok a s' => rw [e] at h; exact ⟨a, s', rfl, h⟩
  | ex c fs s' => rw [e] at h; exact h.elim
  | no => rw [e] at h; exact h.elim
theorem WF.run {r : RF} {Q : IV → List SO → Prop} (h : WF r Q) : ∃ v μ, r = .ok v μ ∧ Q v μ := by
  cases r with
  | ok v μ => exact ⟨v, μ, rfl, h⟩
  | ex c fs μ => exact h.elim
  | no => exact h.elim
theorem W_of {a : α} {s' : S} (e : m s = .ok a s') : W m s Q = Q a s' := by unfold W; rw [e]
theorem W_bind : W (M.bind m k) s R = W m s fun a s' => W (k a) s' R := by
  unfold W M.bind
  cases m s <;> rfl
theorem W_pure {a : α} : W (M.pure a) s Q = Q a s := rfl
theorem W_no : W (M.no : M α) s Q = False := rfl
theorem W_some {a : α} : W (M.opt (some a)) s Q = Q a s := rfl
theorem W_none : W (M.opt (none : Option α)) s Q = False := rfl
theorem W_nox : W (nox m) s Q = W m s Q := by
  unfold W nox
  cases m s <;> rfl
end
section
variable {s : S} {Q : IV → S → Prop} {R : Flw → S → Prop} {B : Bool → S → Prop} {L : List IV → S → Prop} {U : Unit → S → Prop}
theorem W_op {f a b} : W (mOp f a b) s Q = W a s fun x s1 => W b s1 fun y s2 => W (M.opt (f x y)) s2 Q := by unfold mOp; rw [W_bind]; simp only [W_bind]
theorem W_un {f a} : W (mUn f a) s Q = W a s fun x s1 => W (M.opt (f x)) s1 Q := by unfold mUn; rw [W_bind]
theorem W_C {v} : W (mC v) s Q = Q v s := rfl
theorem W_var {i : Nat} {x : IV} (h : s.env[i]? = some (.val x)) : W (mVar i) s Q = Q x s := by unfold W mVar; rw [h]
theorem W_tst {m} : W (mTst m) s B = W m s fun v s1 => W (boolOf v) s1 B := by unfold mTst; rw [W_bind]
theorem W_bool {b : Bool} : W (boolOf (.bl b)) s B = B b s := rfl
theorem W_ifB {α : Type} {t} {a b : M α} {Q : α → S → Prop} : W (mIfB t a b) s Q = W t s fun c s1 => if c = true then W a s1 Q else W b s1 Q := by
  unfold mIfB; rw [W_bind]; congr; funext c s1; split <;> rfl
theorem W_notT {t} : W (mNotT t) s B = W t s fun c s1 => B (!c) s1 := by unfold mNotT; rw [W_bind]; rfl
theorem W_andT {t u} : W (mAndT t u) s B = W t s fun c s1 => if c = true then W u s1 B else B false s1 := by unfold mAndT; rw [W_ifB]; rfl
theorem W_orT {t u} : W (mOrT t u) s B = W t s fun c s1 => if c = true then B true s1 else W u s1 B := by unfold mOrT; rw [W_ifB]; rfl
theorem W_ifE {t a b} : W (mIfE t a b) s Q = W t s fun c s1 => if c = true then W a s1 Q else W b s1 Q := W_ifB
theorem W_andV {a b} : W (mAndV a b) s Q = W (mTst a) s fun c s1 => if c = true then W b s1 Q else Q (.bl false) s1 := by
  unfold mAndV; rw [W_bind]; congr; funext c s1; split <;> rfl
theorem W_orV {a b} : W (mOrV a b) s Q = W (mTst a) s fun c s1 => if c = true then Q (.bl true) s1 else W b s1 Q := by
  unfold mOrV; rw [W_bind]; congr; funext c s1; split <;> rfl
theorem W_notV {a} : W (mNotV a) s Q = W (mTst a) s fun c s1 => Q (.bl (!c)) s1 := by unfold mNotV; rw [W_bind]; rfl
theorem W_chain {f g a b c} : W (mChain f g a b c) s Q = W a s fun x s1 => W b s1 fun y s2 => W (M.opt (f x y)) s2 fun z s3 => match z with
    | .bl v => if v = true then W c s3 fun u s4 => W (M.opt (g y u)) s4 Q else Q (.bl false) s3
    | _ => False := by
  unfold mChain; simp only [W_bind]; congr; funext x s1; congr; funext y s2; congr; funext z s3
  cases z <;> first | rfl | (rename_i b; cases b <;> first | rfl | exact W_bind)
theorem W_nil : W mNil s L = L [] s := rfl
theorem W_cons {a r} : W (mCons a r) s L = W a s fun x s1 => W r s1 fun l s2 => L (x :: l) s2 := by unfold mCons; simp only [W_bind]; rfl
theorem W_ap {f m} : W (mAp f m) s Q = W m s fun l s1 => W (M.opt (f l)) s1 Q := by unfold mAp; rw [W_bind]
theorem W_apL {f m} : W (mApL f m) s L = W m s fun l s1 => W (M.opt (f l)) s1 L := by unfold mApL; rw [W_bind]
theorem W_fl {m} : W (mFl m) s Q = W m s fun l s1 => Q (.fl l) s1 := by unfold mFl; rw [W_bind]; rfl
theorem W_nx : W mNx s R = R .nx s := rfl
theorem W_brk : W mBrk s R = R .bk s := rfl
theorem W_cnt : W mCnt s R = R .ct s := rfl
theorem W_seq {a b} : W (mSeq a b) s R = W a s fun f s1 => match f with
    | .nx => W b s1 R
    | f => R f s1 := by
  unfold mSeq; rw [W_bind]; congr; funext f s1; cases f <;> rfl
theorem W_set {i m} : W (mSet i m) s R = W m s fun v s1 => R .nx (setE i (.val v) s1) := by unfold mSet; rw [W_bind]; rfl
theorem W_own {i m} : W (mOwn i m) s R = W m s fun l s1 => R .nx (setE i (.own l) s1) := by unfold mOwn; rw [W_bind]; rfl
theorem W_ret {m} : W (mRet m) s R = W m s fun v s1 => R (.rt v) s1 := by unfold mRet; rw [W_bind]; rfl
theorem W_retN : W mRetN s R = R (.rt .non) s := rfl
theorem W_drop {m} : W (mDrop m) s R = W m s fun _ s1 => R .nx s1 := by unfold mDrop; rw [W_bind]; rfl
theorem W_if {t a b} : W (mIf t a b) s R = W t s fun c s1 => if c = true then W a s1 R else W b s1 R := W_ifB
theorem W_call {fn m} : W (mCall fn m) s Q = W m s fun xs s1 => WF (fn xs s1.sto) fun v μ => Q v { s1 with sto := μ } := by
  unfold mCall; rw [W_bind]; congr; funext xs s1
  unfold W WF
  dsimp only
  cases fn xs s1.sto <;> rfl
theorem W_make {C fn m} : W (mMake C fn m) s Q = W m s fun xs s1 => WI (fn xs s1.sto) fun fs μ => Q (.obj C fs) { s1 with sto := μ } := by
  unfold mMake; rw [W_bind]; congr; funext xs s1
  unfold W WI
  dsimp only
  cases fn xs s1.sto <;> rfl
theorem W_fld {C f m} : W (mFld C f m) s Q = W m s fun x s1 => match fldOf C f x s1 with
    | some v => Q v s1
    | none => False := by
  unfold mFld; rw [W_bind]; congr; funext x s1
  unfold W
  dsimp only
  cases fldOf C f x s1 <;> rfl
theorem W_ix {a b} : W (mIx a b) s Q = W a s fun x s1 => W b s1 fun y s2 => match ixS s2.sto x y with
    | some z => Q z s2
    | none => False := by
  unfold mIx; simp only [W_bind]; congr; funext x s1; congr; funext y s2
  unfold W
  dsimp only
  cases ixS s2.sto x y <;> rfl
theorem W_part {m} {O : Option Int → S → Prop} : W (mPart m) s O = W m s fun x s1 => match x with
    | .int i => O (some i) s1
    | _ => False := by
  unfold mPart; rw [W_bind]; congr; funext x s1; cases x <;> rfl
theorem W_noPart {O : Option Int → S → Prop} : W mNoPart s O = O none s := rfl
theorem W_sl {m l h} : W (mSl m l h) s Q = W m s fun x s1 => W l s1 fun i s2 => W h s2 fun j s3 => W (M.opt (slV x i j)) s3 Q := by unfold mSl; simp only [W_bind]
theorem W_itL {m} : W (mItL m) s L = W m s fun x s1 => match x with
    | .fl l => L l s1
    | _ => False := by
  unfold mItL; rw [W_bind]; congr; funext x s1; cases x <;> rfl
theorem W_itT {m} : W (mItT m) s L = W m s fun x s1 => match x with
    | .tup l => L l s1
    | _ => False := by
  unfold mItT; rw [W_bind]; congr; funext x s1; cases x <;> rfl
theorem W_itS {m} : W (mItS m) s L = W m s fun x s1 => match x with
    | .str z => L (sgnL z) s1
    | _ => False := by
  unfold mItS; rw [W_bind]; congr; funext x s1; cases x <;> rfl
theorem W_for {mi g b} : W (mFor mi g b) s R = W mi s fun l s1 => W (forL g b l) s1 R := by unfold mFor; rw [W_bind]
theorem W_forNil {g b} : W (forL g b []) s R = R .nx s := rfl
theorem W_forCons {g b x l} : W (forL g b (x :: l)) s R = W (g x) s fun _ s1 => W b s1 fun f s2 => match f with
    | .nx => W (forL g b l) s2 R
    | .ct => W (forL g b l) s2 R
    | .bk => R .nx s2
    | .rt v => R (.rt v) s2 := by
  rw [forL.eq_2]; simp only [W_bind]; congr; funext _ s1; congr; funext f s2; cases f <;> rfl
theorem W_while {n t b} : W (mWhile n t b) s R = W (whileL t b n) s R := rfl
theorem W_whileS {n t b} : W (whileL t b (n + 1)) s R = W t s fun c s1 => if c = true then W b s1 fun f s2 => (match f with
    | .nx => W (whileL t b n) s2 R
    | .ct => W (whileL t b n) s2 R
    | .bk => R .nx s2
    | .rt v => R (.rt v) s2) else R .nx s1 := by
  rw [whileL.eq_2, W_bind]; congr; funext c s1
  by_cases h : c = true
  · rw [if_pos h, if_pos h, W_bind]; congr; funext f s2; cases f <;> rfl
  · rw [if_neg h, if_neg h]; rfl
theorem W_gset {i x} : W (gSet i x) s U = U () (setE i (.val x) s) := rfl
theorem W_gtup {n g l} (h : l.length = n) : W (gTp n g (.tup l)) s U = W (g l) s U := by unfold gTp; simp only [if_pos h]
theorem W_gcons {g h x l} : W (gCs g h (x :: l)) s U = W (g x) s fun _ s1 => W (h l) s1 U := by unfold gCs; rw [W_bind]
theorem W_gnil : W (gNl []) s U = U () s := rfl
theorem W_par2 {i j m} : W (mPar2 i j m) s R = W m s fun l s1 => match l with
    | [x, y] => R .nx (setE j (.val y) (setE i (.val x) s1))
    | _ => False := by
  unfold mPar2; rw [W_bind]; congr; funext l s1
  unfold W
  rcases l with _ | ⟨x, _ | ⟨y, _ | ⟨z, r⟩⟩⟩ <;> rfl
theorem W_fz {α : Type} {i : Nat} {m : M α} {Q : α → S → Prop} {l : List IV} (h : s.env[i]? = some (.own l)) : W (mFz i m) s Q = W m (setE i (.val (.fl l)) s) Q := by unfold W mFz; rw [h]
theorem W_rf {m} : W (mRf m) s Q = W m s fun l s1 => Q (.ref s1.sto.length) { s1 with sto := s1.sto ++ [.lst l] } := by unfold mRf; rw [W_bind]; rfl
theorem W_app {i : Nat} {m} {l : List IV} (h : s.env[i]? = some (.own l)) (hm : W m s fun v s1 => ∃ l1, s1.env[i]? = some (.own l1) ∧ l1.length < szl ∧ R .nx (setE i (.own (l1 ++ [v])) s1)) : W (mApp i m) s R := by
  obtain ⟨v, s1, e, l1, h1, h2, q⟩ := hm.run
  unfold W mApp
  simp only [h, M.bind, e, h1, if_pos h2]
  exact q
theorem W_ownIx {i : Nat} {m} {l : List IV} (h : s.env[i]? = some (.own l)) (hm : W m s fun y s1 => ∃ l1 k z, y = .int k ∧ s1.env[i]? = some (.own l1) ∧ atI l1 k = some z ∧ Q z s1) : W (mOwnIx i m) s Q := by
  obtain ⟨y, s1, e, l1, k, z, rfl, h1, h2, q⟩ := hm.run
  unfold W mOwnIx
  simp only [h, M.bind, e, h1, h2]
  exact q
theorem W_setIx {mv mo mi} : W (mSetIx mv mo mi) s R = W mv s fun v s1 => W mo s1 fun o s2 => W mi s2 fun i s3 => match o, i with
    | .ref j, .int k => match s3.sto[j]? with
      | some (.lst l) => match ixN l.length k with
        | some n => R .nx { s3 with sto := s3.sto.set j (.lst (l.set n v)) }
        | none => False
      | _ => False
    | _, _ => False := by
  unfold mSetIx; simp only [W_bind]; congr; funext v s1; congr; funext o s2; congr; funext i s3
  unfold W
  cases o with
  | ref j => cases i with
    | int k =>
      dsimp only
      cases s3.sto[j]? with
      | none => rfl
      | some x => cases x with
        | lst l => dsimp only; cases ixN l.length k <;> rfl
        | ins c fs => rfl
    | _ => rfl
  | _ => rfl
theorem WF_run {n : Nat} {m : M Flw} {xs : List IV} {μ : List SO} {Q : IV → List SO → Prop} : WF (runF n m xs μ) Q = W m ⟨xs.map .val ++ List.replicate (n - xs.length) .emp, μ⟩ fun f s => match f with
    | .rt v => Q v s.sto
    | .nx => Q .non s.sto
    | _ => False := by
  unfold runF WF W
  cases e : m ⟨xs.map .val ++ List.replicate (n - xs.length) .emp, μ⟩ with
  | ok f s => cases f <;> rfl
  | ex c fs s => rfl
  | no => rfl
theorem WF_ar {n : Nat} {fn : Fn} {xs : List IV} {μ : List SO} {Q : IV → List SO → Prop} (h : xs.length = n) : WF (ar n fn xs μ) Q = WF (fn xs μ) Q := by unfold ar; rw [if_pos h]
theorem WF_ok {v : IV} {μ : List SO} {Q : IV → List SO → Prop} : WF (.ok v μ) Q = Q v μ := rfl
theorem WF_of {r : RF} {v : IV} {μ : List SO} {Q : IV → List SO → Prop} (e : r = .ok v μ) (h : Q v μ) : WF r Q := by rw [e]; exact h
/-- a comprehension whose parts change nothing but its own variable -/
theorem W_comp {ws : List Nat} {mi g t e} {l : List IV} {s1 : S} {ys : List IV} (hi : mi s = .ok l s1)
    (hc : W (compL ws g t e l []) { s1 with env := wipeE ws s1.env } L) : W (mComp ws mi g t e) s L := by
  unfold mComp
  rw [W_bind, W_of hi, W_bind]
  exact hc
end
end Mi
set_option Elab.async false
set_option linter.all false
set_option maxRecDepth 100000
namespace Mi
open PySem L2
abbrev nI (n : Nat) : IV := .int (n : Int)
theorem of_WF {r : RF} {x : IV} {μ : List SO} (h : WF r fun v μ' => v = x ∧ μ' = μ) : r = .ok x μ := by
  obtain ⟨v, μ', e, rfl, rfl⟩ := h.run
  exact e
theorem of_W {α : Type} {m : M α} {s : S} {x : α} {s' : S} (h : W m s fun v s1 => v = x ∧ s1 = s') : m s = .ok x s' := by
  obtain ⟨v, μ', e, rfl, rfl⟩ := h.run
  exact e
theorem W_opt {α : Type} {o : Option α} {s : S} {Q : α → S → Prop} : W (M.opt o) s Q = match o with
    | some a => Q a s
    | none => False := by cases o <;> rfl
theorem W_varM {i : Nat} {s : S} {Q : IV → S → Prop} : W (mVar i) s Q = match s.env[i]? with
    | some (.val x) => Q x s
    | _ => False := by
  unfold W mVar
  cases s.env[i]? with
  | none => rfl
  | some x => cases x <;> rfl
theorem W_boolM {v : IV} {s : S} {Q : Bool → S → Prop} : W (boolOf v) s Q = match v with
    | .bl b => Q b s
    | _ => False := by cases v <;> rfl
theorem W_fzM {α : Type} {i : Nat} {m : M α} {s : S} {Q : α → S → Prop} : W (mFz i m) s Q = match s.env[i]? with
    | some (.own l) => W m (setE i (.val (.fl l)) s) Q
    | _ => False := by
  unfold W mFz
  cases s.env[i]? with
  | none => rfl
  | some x => cases x <;> rfl
theorem W_ownA {f : List IV → Option IV} {i : Nat} {s : S} {Q : IV → S → Prop} : W (mOwnA f i) s Q = match s.env[i]? with
    | some (.own l) => match f [.fl l] with
      | some z => if scI z = true then Q z s else False
      | none => False
    | _ => False := by
  unfold W mOwnA
  cases s.env[i]? with
  | none => rfl
  | some x => cases x with
    | own l => dsimp only; cases f [.fl l] with
      | none => rfl
      | some z => dsimp only; by_cases h : scI z = true
                  · rw [if_pos h, if_pos h]
                  · rw [if_neg h, if_neg h]
    | _ => rfl
theorem W_ownIxM {i : Nat} {m} {s : S} {Q : IV → S → Prop} : W (mOwnIx i m) s Q = match s.env[i]? with
    | some (.own _) => W m s fun y s1 => match s1.env[i]?, y with
      | some (.own l), .int k => match atI l k with
        | some z => Q z s1
        | none => False
      | _, _ => False
    | _ => False := by
  unfold mOwnIx
  conv => lhs; unfold W; dsimp only
  cases s.env[i]? with
  | none => rfl
  | some x => cases x with
    | own l =>
      dsimp only
      show W (M.bind m _) s Q = _
      rw [W_bind]
      congr; funext y s1
      unfold W
      dsimp only
      cases s1.env[i]? with
      | none => rfl
      | some x => cases x with
        | own l => cases y with
          | int k => dsimp only; cases atI l k <;> rfl
          | _ => rfl
        | _ => rfl
    | _ => rfl
theorem W_appM {i : Nat} {m} {s : S} {R : Flw → S → Prop} : W (mApp i m) s R = match s.env[i]? with
    | some (.own _) => W m s fun v s1 => match s1.env[i]? with
      | some (.own l) => if l.length < szl then R .nx (setE i (.own (l ++ [v])) s1) else False
      | _ => False
    | _ => False := by
  unfold mApp
  conv => lhs; unfold W; dsimp only
  cases s.env[i]? with
  | none => rfl
  | some x => cases x with
    | own l =>
      dsimp only
      show W (M.bind m _) s R = _
      rw [W_bind]
      congr; funext y s1
      unfold W
      dsimp only
      cases s1.env[i]? with
      | none => rfl
      | some x => cases x with
        | own l => dsimp only; by_cases h : l.length < szl
                   · rw [if_pos h, if_pos h]
                   · rw [if_neg h, if_neg h]
        | _ => rfl
    | _ => rfl
theorem W_parVN {i j m1 m2} {s : S} {R : Flw → S → Prop} : W (mParVN i j m1 m2) s R = W m1 s fun v s1 => W m2 s1 fun l s2 => R .nx (setE j (.own l) (setE i (.val v) s2)) := by unfold mParVN; simp only [W_bind]; rfl
theorem W_parNV {i j m1 m2} {s : S} {R : Flw → S → Prop} : W (mParNV i j m1 m2) s R = W m1 s fun l s1 => W m2 s1 fun v s2 => R .nx (setE j (.val v) (setE i (.own l) s2)) := by unfold mParNV; simp only [W_bind, W_nox]; rfl
theorem W_parNN {i j m1 m2} {s : S} {R : Flw → S → Prop} : W (mParNN i j m1 m2) s R = W m1 s fun l s1 => W m2 s1 fun v s2 => R .nx (setE j (.own v) (setE i (.own l) s2)) := by unfold mParNN; simp only [W_bind, W_nox]; rfl
theorem W_parVVN {i j k m1 m2 m3} {s : S} {R : Flw → S → Prop} : W (mParVVN i j k m1 m2 m3) s R = W m1 s fun v s1 => W m2 s1 fun u s2 => W m3 s2 fun l s3 => R .nx (setE k (.own l) (setE j (.val u) (setE i (.val v) s3))) := by unfold mParVVN; simp only [W_bind]; rfl
theorem W_gtupM {n : Nat} {g : List IV → M Unit} {l : List IV} {s : S} {U : Unit → S → Prop} : W (gTp n g (.tup l)) s U = if l.length = n then W (g l) s U else False := by
  unfold gTp
  by_cases h : l.length = n
  · rw [if_pos h]; dsimp only; rw [if_pos h]
  · rw [if_neg h]; dsimp only; rw [if_neg h]; rfl
theorem enmL_at {l : List IV} {k : Nat} {x : IV} (h : (enmL l)[k]? = some x) : ∃ y, l[k]? = some y ∧ x = .tup [nI k, y] := by
  unfold enmL at h
  rw [List.getElem?_map, List.getElem?_zipIdx] at h
  cases e : l[k]? with
  | none => rw [e] at h; cases h
  | some y => rw [e] at h; cases h; exact ⟨y, rfl, by simp⟩
theorem map_at {α : Type} {f : α → IV} {l : List α} {k : Nat} {x : IV} (h : (l.map f)[k]? = some x) : ∃ y, l[k]? = some y ∧ x = f y := by
  rw [List.getElem?_map] at h
  cases e : l[k]? with
  | none => rw [e] at h; cases h
  | some y => rw [e] at h; cases h; exact ⟨y, rfl, rfl⟩
theorem W_selfM {C : Addr} {f : Str} {mv : M IV} {s : S} {R : Flw → S → Prop} : W (mSelf C f mv) s R = W mv s fun v s1 => match s1.env[(0 : Nat)]? with
    | some (.ins c fs) => if c = C ∧ fs.length < 100 then R .nx (setE 0 (.ins c (putI f v fs)) s1) else False
    | _ => False := by
  unfold mSelf; rw [W_bind]; congr; funext v s1
  unfold W
  dsimp only
  cases s1.env[(0 : Nat)]? with
  | none => rfl
  | some x => cases x with
    | ins c fs => dsimp only; by_cases h : c = C ∧ fs.length < 100
                  · rw [if_pos h, if_pos h]
                  · rw [if_neg h, if_neg h]
    | _ => rfl
theorem WI_run {n np : Nat} {C : Addr} {m : M Flw} {xs : List IV} {μ : List SO} {Q : List (Str × IV) → List SO → Prop} : WI (runI n np C m xs μ) Q = if xs.length + 1 = np then W m ⟨.ins C [] :: (xs.map .val ++ List.replicate (n - 1 - xs.length) .emp), μ⟩ fun f s => WI (endI C f s.env[(0 : Nat)]? s.sto) Q else False := by
  unfold runI
  by_cases h : xs.length + 1 = np
  · rw [if_pos h, if_pos h]
    unfold W
    cases m ⟨.ins C [] :: (xs.map .val ++ List.replicate (n - 1 - xs.length) .emp), μ⟩ <;> rfl
  · rw [if_neg h, if_neg h]; rfl
theorem WI_end {C : Addr} {fs : List (Str × IV)} {μ : List SO} {Q : List (Str × IV) → List SO → Prop} : WI (endI C .nx (some (.ins C fs)) μ) Q = Q fs μ := by
  unfold endI; simp only [if_true]; rfl
theorem of_WI {r : RI} {x : List (Str × IV)} {μ : List SO} (h : WI r fun v μ' => v = x ∧ μ' = μ) : r = .ok x μ := by
  cases r with
  | ok v μ' => obtain ⟨rfl, rfl⟩ := h; rfl
  | ex c fs μ => exact h.elim
  | no => exact h.elim
theorem WI_ok {v : List (Str × IV)} {μ : List SO} {Q : List (Str × IV) → List SO → Prop} : WI (.ok v μ) Q = Q v μ := rfl
theorem W_opL {f a b} {s : S} {L : List IV → S → Prop} : W (mOpL f a b) s L = W a s fun x s1 => W b s1 fun y s2 => W (M.opt (f x y)) s2 L := by unfold mOpL; simp only [W_bind]
theorem W_ownSet {i mv mk} {s : S} {R : Flw → S → Prop} : W (mOwnSet i mv mk) s R = W mv s fun v s1 => match s1.env[i]? with
    | some (.own _) => W mk s1 fun k s2 => match s2.env[i]?, k with
      | some (.own l), .int k => match ixN l.length k with
        | some n => R .nx (setE i (.own (l.set n v)) s2)
        | none => False
      | _, _ => False
    | _ => False := by
  unfold mOwnSet; rw [W_bind]; congr; funext v s1
  conv => lhs; unfold W; dsimp only
  cases s1.env[i]? with
  | none => rfl
  | some x => cases x with
    | own l =>
      dsimp only
      show W (M.bind mk _) s1 R = _
      rw [W_bind]
      congr; funext y s2
      unfold W
      dsimp only
      cases s2.env[i]? with
      | none => rfl
      | some x => cases x with
        | own l => cases y with
          | int k => dsimp only; cases ixN l.length k <;> rfl
          | _ => rfl
        | _ => rfl
    | _ => rfl
theorem WF_arM {n : Nat} {fn : Fn} {xs : List IV} {μ : List SO} {Q : IV → List SO → Prop} : WF (ar n fn xs μ) Q = if xs.length = n then WF (fn xs μ) Q else False := by
  unfold ar
  by_cases h : xs.length = n
  · rw [if_pos h, if_pos h]
  · rw [if_neg h, if_neg h]; rfl
theorem setE_mk {i x env sto} : setE i x ⟨env, sto⟩ = ⟨env.set i x, sto⟩ := rfl

/-! ### values -/
theorem addV_int {i j : Int} : addV (.int i) (.int j) = some (.int (i + j)) := rfl
theorem subV_int {i j : Int} : subV (.int i) (.int j) = some (.int (i - j)) := rfl
theorem mulV_int {i j : Int} (h : i.natAbs < 18446744073709551616 ∨ j.natAbs < 18446744073709551616) : mulV (.int i) (.int j) = some (.int (i * j)) := if_pos h
theorem modV_int {i j : Int} (h : 0 < j) : modV (.int i) (.int j) = some (.int (i % j)) := if_pos h
theorem divV_int {i j : Int} (h : 0 < j) (h2 : j < 1073741824) : divV (.int i) (.int j) = some (.int (i / j)) := if_pos ⟨h, h2⟩
theorem negV_int {i : Int} : negV (.int i) = some (.int (-i)) := rfl
theorem ltV_int {i j : Int} : ltV (.int i) (.int j) = some (.bl (decide (i < j))) := rfl
theorem leV_int {i j : Int} : leV (.int i) (.int j) = some (.bl (decide (i ≤ j))) := rfl
theorem gtV_int {i j : Int} : gtV (.int i) (.int j) = some (.bl (decide (j < i))) := rfl
theorem geV_int {i j : Int} : geV (.int i) (.int j) = some (.bl (decide (j ≤ i))) := rfl
theorem eqV_int {i j : Int} : eqV (.int i) (.int j) = some (.bl (i == j)) := rfl
theorem neV_int {i j : Int} : neV (.int i) (.int j) = some (.bl (!(i == j))) := rfl
theorem eqV_str {i j : Str} : eqV (.str i) (.str j) = some (.bl (i == j)) := rfl
theorem neV_str {i j : Str} : neV (.str i) (.str j) = some (.bl (!(i == j))) := rfl
theorem intV_int {i : Int} : intV [.int i] = some (.int i) := rfl
theorem intV_bl {b : Bool} : intV [.bl b] = some (.int (if b then 1 else 0)) := rfl
theorem lenV_fl {l : List IV} : lenV [.fl l] = some (.int l.length) := rfl
theorem lenV_tup {l : List IV} : lenV [.tup l] = some (.int l.length) := rfl
theorem listV_fl {l : List IV} : listV [.fl l] = some (.fl l) := rfl
theorem tupleV_fl {l : List IV} : tupleV [.fl l] = some (.tup l) := rfl
theorem lstV_of {l : List IV} (h : l.length ≤ szl) : lstV l = some (.fl l) := if_pos h
theorem tupV_of {l : List IV} (h : l.length ≤ szl) : tupV l = some (.tup l) := if_pos h
theorem szL_of {l : List IV} (h : l.length ≤ szl) : szL l = some l := if_pos h
theorem addV_fl {a b : List IV} (h : a.length + b.length ≤ szl) : addV (.fl a) (.fl b) = some (.fl (a ++ b)) := if_pos h
theorem addV_tup {a b : List IV} (h : a.length + b.length ≤ szl) : addV (.tup a) (.tup b) = some (.tup (a ++ b)) := if_pos h
theorem ixS_ref {μ : List SO} {j : Nat} {k : Int} {l : List IV} (h : μ[j]? = some (.lst l)) : ixS μ (.ref j) (.int k) = atI l k := by simp only [ixS, h]
theorem ixS_fl {μ : List SO} {k : Int} {l : List IV} : ixS μ (.fl l) (.int k) = atI l k := rfl
theorem ixS_tup {μ : List SO} {k : Int} {l : List IV} : ixS μ (.tup l) (.int k) = atI l k := rfl
theorem atI_n {α : Type} {l : List α} {n : Nat} (h : n < l.length) : atI l (n : Int) = l[n]? := by
  unfold atI ixN
  rw [if_pos (by omega), if_pos (by omega)]
  simp
theorem atI_last {α : Type} {l : List α} (h : 0 < l.length) : atI l (-1) = l[l.length - 1]? := by
  unfold atI ixN
  rw [if_neg (by omega)]
  by_cases h2 : -(l.length : Int) ≤ -1
  · simp [h2]
    congr 1
    omega
  · omega
theorem intsOf_map {l : List Int} : intsOf (l.map IV.int) = some l := by
  induction l with
  | nil => rfl
  | cons a l ih => simp [intsOf, ih]
theorem boolsOf_map {l : List Bool} : boolsOf (l.map IV.bl) = some l := by
  induction l with
  | nil => rfl
  | cons a l ih => simp [boolsOf, ih]
theorem sumV_ints {l : List Int} : sumV [.fl (l.map IV.int)] = some (.int l.sum) := by simp only [sumV, intsOf_map]; rfl
theorem allV_bools {l : List Bool} : allV [.fl (l.map IV.bl)] = some (.bl (l.all id)) := by simp only [allV, boolsOf_map]; rfl
theorem intsOf_nats {l : List Nat} : intsOf (l.map nI) = some (l.map fun (n : Nat) => (n : Int)) := by
  induction l with
  | nil => rfl
  | cons a l ih => simp [intsOf, ih]
theorem sum_nats : ∀ l : List Nat, (l.map fun (n : Nat) => (n : Int)).sum = ((l.sum : Nat) : Int)
  | [] => rfl
  | a :: l => by simp [sum_nats l]
theorem sumV_nats {l : List Nat} : sumV [.fl (l.map nI)] = some (nI l.sum) := by simp only [sumV, intsOf_nats]; simp [sum_nats]
theorem minV_int {i j : Int} : minV [.int i, .int j] = some (.int (if j < i then j else i)) := rfl
theorem maxV_int {i j : Int} : maxV [.int i, .int j] = some (.int (if j > i then j else i)) := rfl
theorem rng1_of {j : Int} (h0 : -1000000 ≤ j) (h1 : j ≤ 1000000) : rng1 [.int j] = some (rngL 0 j.toNat) := if_pos (by omega)
theorem enm_fl {l : List IV} : enm [.fl l] = some (enmL l) := rfl
/-! ### loops -/
section
variable {s : S} {L : List IV → S → Prop} {R : Flw → S → Prop}
theorem setE_setE {i : Nat} {x y : Slot} : setE i x (setE i y s) = setE i x s := by
  unfold setE
  simp only [List.set_set]
theorem compL_map {i : Nat} {e : M IV} {f : IV → IV} : ∀ (l acc : List IV), acc.length + l.length ≤ szl → (∀ x ∈ l, e (setE i (.val x) s) = .ok (f x) (setE i (.val x) s)) →
    compL [i] (gSet i) tYesM e l acc (setE i .emp s) = .ok (acc ++ l.map f) (setE i .emp s)
  | [], acc, _, _ => by rw [compL.eq_1, List.map_nil, List.append_nil]; rfl
  | x :: r, acc, hz, he => by
    apply of_W
    rw [compL.eq_2, W_bind, W_nox, W_gset, W_bind, W_nox]
    show W (M.pure true) _ _
    rw [W_pure, if_pos rfl, W_bind, W_nox, setE_setE, W_of (he x (by simp)), if_pos (by simp at hz; omega), W_bind]
    show W (compL [i] (gSet i) tYesM e r (acc ++ [f x])) (setE i .emp (setE i (.val x) s)) _
    rw [setE_setE, W_of (compL_map r (acc ++ [f x]) (by simp at hz ⊢; omega) fun y hy => he y (by simp [hy]))]
    simp
theorem W_compM {i : Nat} {mi : M (List IV)} {e : M IV} (f : IV → IV) (h : W mi s fun l s1 => l.length ≤ szl ∧ (∀ x ∈ l, e (setE i (.val x) s1) = .ok (f x) (setE i (.val x) s1)) ∧ L (l.map f) (setE i .emp s1)) :
    W (mComp [i] mi (gSet i) tYesM e) s L := by
  obtain ⟨l, s1, e1, hz, he, q⟩ := h.run
  unfold mComp
  rw [W_bind, W_of e1, W_bind]
  show W (compL [i] (gSet i) tYesM e l []) (setE i .emp s1) L
  rw [W_of (compL_map l [] (by simpa using hz) he)]
  exact q
/-- .. whose parts change the state -/
theorem compL_inv {i : Nat} {e : M IV} (I : List IV → S → Prop) : ∀ (l acc : List IV) (s : S), acc.length + l.length ≤ szl → I acc s →
    (∀ acc x s, I acc s → W e (setE i (.val x) s) fun y s1 => I (acc ++ [y]) (setE i .emp s1)) → (∀ acc' s, acc'.length = acc.length + l.length → I acc' s → L acc' s) → W (compL [i] (gSet i) tYesM e l acc) s L
  | [], acc, s, _, h0, _, hd => by rw [compL.eq_1]; exact hd acc s rfl h0
  | x :: r, acc, s, hz, h0, hs, hd => by
    rw [compL.eq_2, W_bind, W_nox, W_gset, W_bind, W_nox]
    show W (M.pure true) _ _
    rw [W_pure, if_pos rfl, W_bind, W_nox]
    refine (hs acc x s h0).mono fun y s1 h1 => ?_
    rw [if_pos (by simp at hz; omega), W_bind]
    show W (compL [i] (gSet i) tYesM e r (acc ++ [y])) (setE i .emp s1) _
    refine compL_inv I r (acc ++ [y]) _ (by simp at hz ⊢; omega) h1 hs fun acc' s' hl => hd acc' s' (by rw [hl]; simp; omega)
theorem W_compI {i : Nat} {mi : M (List IV)} {e : M IV} (I : List IV → S → Prop) (h : W mi s fun l s1 => l.length ≤ szl ∧ I [] (setE i .emp s1) ∧ (∀ acc x s, I acc s → W e (setE i (.val x) s) fun y s1 => I (acc ++ [y]) (setE i .emp s1)) ∧ (∀ acc s, acc.length = l.length → I acc s → L acc s)) :
    W (mComp [i] mi (gSet i) tYesM e) s L := by
  obtain ⟨l, s1, e1, hz, h0, hs, q⟩ := h.run
  unfold mComp
  rw [W_bind, W_of e1, W_bind]
  show W (compL [i] (gSet i) tYesM e l []) (setE i .emp s1) L
  exact compL_inv I l [] _ (by simpa using hz) h0 hs fun acc s hl => q acc s (by simpa using hl)
theorem W_forI {g : IV → M Unit} {b : M Flw} (I : Nat → S → Prop) : ∀ (l : List IV) (n : Nat) (s : S), I n s → (∀ k x s, l[k]? = some x → I (n + k) s → W (g x) s fun _ s1 => W b s1 fun f s2 => (f = .nx ∨ f = .ct) ∧ I (n + k + 1) s2) → (∀ s, I (n + l.length) s → R .nx s) → W (forL g b l) s R
  | [], n, s, h0, _, hd => hd s h0
  | x :: r, n, s, h0, hs, hd => by
    rw [W_forCons]
    refine (hs 0 x s rfl h0).mono fun _ s1 h1 => h1.mono fun f s2 ⟨hf, h2⟩ => ?_
    have go : W (forL g b r) s2 R := W_forI I r (n + 1) s2 h2 (fun k y s hk h => by
      have := hs (k + 1) y s (by simpa using hk) (by rw [show n + (k + 1) = n + 1 + k from by omega]; exact h)
      rw [show n + (k + 1) + 1 = n + 1 + k + 1 from by omega] at this
      exact this) fun s h => hd s (by rw [List.length_cons, show n + (r.length + 1) = n + 1 + r.length from by omega]; exact h)
    rcases hf with rfl | rfl <;> exact go
theorem W_whileI {t : M Bool} {b : M Flw} (I : Nat → S → Prop) : ∀ (n k : Nat) (s : S), k < n → I k s → (∀ k s, I k s → W t s fun c s1 => if c = true then W b s1 fun f s2 => (f = .nx ∨ f = .ct) ∧ ∃ k', k' < k ∧ I k' s2 else R .nx s1) → W (whileL t b n) s R
  | 0, k, s, hk, _, _ => by omega
  | n + 1, k, s, hk, h0, hs => by
    rw [W_whileS]
    refine (hs k s h0).mono fun c s1 h1 => ?_
    by_cases hc : c = true
    · rw [if_pos hc] at h1 ⊢
      refine h1.mono fun f s2 ⟨hf, k', hk', h2⟩ => ?_
      have go := W_whileI I n k' s2 (by omega) h2 hs
      rcases hf with rfl | rfl <;> exact go
    · rw [if_neg hc] at h1 ⊢
      exact h1
end
end Mi
set_option Elab.async false
set_option linter.all false
set_option maxRecDepth 100000
set_option maxHeartbeats 2000000
namespace Mi
open PySem L2 PyProof.Rows
open Builtin Builtin.ObjectAttr

/-! ### own classes of errors below ArithmeticError, one field each -/
abbrev aeT : List Value := [.type "ArithmeticError", .type "Exception", .type "BaseException", .type "object"]
structure OxC (K : PySem.W.Frag) (C : Addr) : Prop where
  ini : PySem.W.excInitIn K C aeT "ArithmeticError.__new__" = true
  ovr : PySem.W.excOver K C aeT = true
  sta : PySem.W.findIn K (.ref C) "__setattr__" = some (some (.builtin "object.__setattr__"))
  dct : PySem.W.hasDictIn K C = true
  sub : PySem.W.subIn K (.ref C) (.type "BaseException") = some true
  typ : PySem.W.typeIn K (.ref C) = some (.type "type")
  kpt : PySem.W.keepIn K (.ref C) = true
section
variable {X : Cx} {pins : List (Addr × Obj)} {σ : L2.St} {H : Hp} {s : Shared} {a C : Addr} {f : Str} {y : V} {u : Value} {E : Value → Shared → Prop} {A : Around}
/-- the base's __init__ on an instance that is being made -/
theorem ox_base {us : List Value} {Q : Value → Shared → Prop} (T : OxC X.K C) (I : Inv X pins σ H s) (he : H a = some (exo a C none)) (hz : us.length ≤ sizeLine)
    (q : ∀ s', Inv X pins σ H s' → Q .none s') : wpAny (model X.prog X.w) A (call (.builtin "ArithmeticError.__init__") (.ref a :: us)) Q E s := by
  obtain ⟨n1, n2, n3, n4, n5, n6, n7, n8, n9, n10, n11, n12, n13, n14, n15, n16, cC, cT⟩ := PySem.W.excInit_of I.kIn T.ini
  obtain ⟨ta, ga⟩ := exo_at I.hok he
  obtain ⟨hp, gs, dr, tk, os⟩ := s
  refine wpAny_call (PySem.HandSPX.init_base PySem.F.excBase_ArithmeticError cT cC ga hz ?_)
  intro h2 t2 kp hn
  have hu : upd H a (exo a C none) = H := funext fun b => by
    by_cases hb : b = a
    · subst hb; exact upd_same.trans he.symm
    · exact upd_ne hb
  have J := I.write (x := a) (e := a) (o := exo a C none) (t' := tk) (by rw [he]; exact trivial) (.inl rfl) kp ⟨_, hn⟩ (exo_ok hn)
  exact q _ (hu ▸ J)
/-- its one field -/
theorem ox_fld {Q : Unit → Shared → Prop} (T : OxC X.K C) (I : Inv X pins σ H s) (he : H a = some (exo a C none)) (hf : PySem.W.findIn X.K (.ref C) f = some none) (ry : RelV y u)
    (q : ∀ dx s', H dx = none → dx ≠ a → Inv X pins σ (upd (upd H dx (exd dx [(f, y)])) a (exo a C (some dx))) s' → Q () s') : wpAny (model X.prog X.w) A (setAttr (.ref a) f u) Q E s := by
  obtain ⟨ta, ga⟩ := exo_at I.hok he
  have hk := I.kIn
  obtain ⟨hp, gs, dr, tk, os⟩ := s
  have ha : a ≠ hp.objs.size := Nat.ne_of_lt (Heap.lt_size ga)
  obtain ⟨cd, c1, c2⟩ := PySem.W.any_some T.dct
  have hg : PySem.W.takerIn X.K C f = some none := by unfold PySem.W.takerIn; rw [hf]; rfl
  refine PySem.W.set_plain (od := none) hk ⟨ga, rfl, rfl, trivial⟩ T.sta ?_
  refine PySem.W.osa_openX (od := none) PySem.F.store_ArithmeticError hk ⟨ga, rfl, rfl, trivial⟩ T.ovr hg fun b => ?_
  refine wpAny_bind (wpAny_pure (wpAny_bind (PySem.W.instanceDict_exc (s := ⟨hp, gs, dr, tk + 1, os⟩) ga (PySem.W.looks_clsIn hk c1) c2 ?_)))
  show wpAny _ _ (storeInDict hp.objs.size (.str f tk) f u) _ _ _
  have g1 : (hp.push (PySem.W.dictOf [] 0)).get? a = _ := Heap.get?_push_of_some _ ga
  refine PySem.HandSPX.store_in_new ?_ fun h2 t2 hn hsb => ?_
  · exact ⟨_, #[], _, (Heap.get?_update_ne _ _ _ _ ha.symm).trans (Heap.get?_push_at rfl rfl), rfl, fun _ z => absurd z (by simp), fun _ => rfl⟩
  · have hd : H hp.objs.size = none := I.hok.fresh (Nat.le_refl _)
    have ga2 : h2.get? a = _ := (hsb.2 a ha).trans (Heap.get?_update_self _ g1 rfl)
    have mid : ∀ c, c ≠ a → (h2.update a fun _ => { cls := .ref C, dict := none, data := .fields #[.ref ta, .none, .none, .none, .bool false, .none] }).get? c = h2.get? c := fun c hc => Heap.get?_update_ne _ _ _ _ hc
    have mida : (h2.update a fun _ => { cls := .ref C, dict := none, data := .fields #[.ref ta, .none, .none, .none, .bool false, .none] }).get? a = some { cls := .ref C, dict := none, data := .fields #[.ref ta, .none, .none, .none, .bool false, .none] } := Heap.get?_update_self _ ga2 rfl
    have I1 := I.laid (t' := t2) (a := hp.objs.size) (o := exd hp.objs.size [(f, y)]) (h' := h2.update a fun _ => { cls := .ref C, dict := none, data := .fields #[.ref ta, .none, .none, .none, .bool false, .none] }) (fun c z e => by
        by_cases hc : c = a
        · subst hc; exact mida.trans (ga.symm.trans e)
        · rw [mid c hc, hsb.2 c (Nat.ne_of_lt (Heap.lt_size e)), Heap.get?_update_ne _ _ _ _ hc]
          exact Heap.get?_push_of_some _ e) (Nat.le_refl _) (exd_ok (hn.at fun o e => (mid _ (Ne.symm ha)).trans e) (relO_put (fs := []) ry fun _ => trivial))
    have e1 : upd H hp.objs.size (exd hp.objs.size [(f, y)]) a = some (exo a C none) := (upd_ne ha).trans he
    have I2 := I1.write (t' := t2) (x := a) (e := a) (o := exo a C (some hp.objs.size)) (h' := h2) (by rw [e1]; exact trivial) (.inl rfl) (fun c z hc e => (mid c hc).symm.trans e) ⟨_, ga2⟩ (exo_ok ga2)
    exact q _ _ hd (Ne.symm ha) I2
end
/-! ### readings -/
def tBI (K : PySem.W.Frag) (ta : TA) : TE := fun σ H Q => ta σ H fun vs H1 => ∃ (a C : Addr) (ws : List V), vs = .ref a :: ws ∧ ws.length ≤ 100 ∧ OxC K C ∧ H1 a = some (exo a C none) ∧ Q .non H1
def tOF (K : PySem.W.Frag) (f : Str) (to te : TE) : TS := fun D σ H => te σ H fun y H1 => to σ H1 fun x H2 => ∃ a C : Addr, x = .ref a ∧ OxC K C ∧ PySem.W.findIn K (.ref C) f = some none ∧ H2 a = some (exo a C none) ∧
  ∀ dx, H2 dx = none → dx ≠ a → D.nx σ (upd (upd H2 dx (exd dx [(f, y)])) a (exo a C (some dx)))
/-- what C's __init__ does -/
def spO (K : PySem.W.Frag) (C : Addr) (f : Str) : Sp := fun vs H Q _ => ∃ (a : Addr) (y : V), vs = [.ref a, y] ∧ OxC K C ∧ PySem.W.findIn K (.ref C) f = some none ∧ H a = some (exo a C none) ∧
  ∀ dx, H dx = none → dx ≠ a → Q .non (upd (upd H dx (exd dx [(f, y)])) a (exo a C (some dx)))
/-- C(e), as a raise has it -/
def tOx (C : Addr) (f : Str) (ta : TA) : L2.St → Hp → XK → Prop := fun σ H Q => ta σ H fun vs H1 => ∃ y, vs = [y] ∧ ∀ dx, H1 dx = none → Q (.ref C) (some dx) (upd H1 dx (.xd [(f, y)]))
/-- what of the text the base class must have -/
structure OxB (K : PySem.W.Frag) (B : Addr) : Prop where
  rd : PySem.W.readsIn K B (.type "type") = true
  ga : PySem.W.specialIn K (.ref B) "__getattribute__" = some (some (.builtin "type.__getattribute__"))
  at_ : PySem.W.findCls K (.ref B) (.type "type") "__init__" = some (.val (.builtin "ArithmeticError.__init__"))
section
variable {X : Cx} {o e : Expr} {es : List Expr} {to te : TE} {ta : TA} {f x : Str} {p p' p1 p2 pos : Pos} {B C fI : Addr}
theorem pe_base {pl : Sem Bool} (T : OxB X.K B) (hg : Gl X x) (hm : X.mg x = some (.ref B)) (ha : PA X (e :: es) ta)
    (hc : eval (.Call (.Attribute (.Name x p1) "__init__" p2) (e :: es) [] pos) X.env = (do
      let v ← eval (.Name x p1) X.env
      standAt p2.atName
      let (g, first) ← holding [v] (getMethod v "__init__" pl)
      callWith pos g first (backTo pos (starEach (e :: es) X.env)) (backToKw pos (keywordEach [] X.env))) := by rfl)
    (hdb : (x == ("__debug__" : Str)) = false := by decide) (hs : starEach (e :: es) X.env = (false, eval e X.env) :: starEach es X.env := by rfl) (hpl : (backTo pos (starEach es X.env)).any (·.1) = false := by rfl) :
    PE X (.Call (.Attribute (.Name x p1) "__init__" p2) (e :: es) [] pos) (tBI X.K ta) := by
  refine ⟨fun pins s σ H Q I h => PySem.W.methodCall_KW (ld_glob I hg hm ?_ hdb) hc⟩
  refine PySem.W.method_cls I.kIn T.ga (PySem.W.cls_value I.kIn T.rd T.at_ (by decide +kernel) ?_)
  show wpAny _ _ (callWith pos (Value.builtin "ArithmeticError.__init__") [] (backTo pos (starEach (e :: es) X.env)) []) _ _ _
  refine callWith_method1 (thn (ha.run pos pins _ σ H _ (I.tok _) h) fun us s1 hh => ?_) hs hpl
  obtain ⟨vs, H1, I1, rr, a, C, ws, rfl, hl, T1, ea, q⟩ := hh
  cases rr with
  | cons r0 rw0 =>
    cases r0
    refine ox_base T1 I1 ea (by rw [← Paired.length rw0, sizeLine_eq]; omega) fun s' J => ⟨.non, H1, J, rfl, q⟩
theorem ps_ofld (ho : PE X o to) (he : PE X e te) (hs : swapsWith e (some (.Attribute o f p')) pos.line X.env = pure false := by rfl) : PS X (.Assign [.Attribute o f p'] e pos) (tOF X.K f to te) := by
  refine ⟨fun pins s σ H D I h => plainObj_wpAny_Assign_Attribute (thn (he.run pins s σ H _ I h) fun v s1 h1 => ?_) hs⟩
  obtain ⟨y, H1, I1, r1, q1⟩ := h1
  refine thn (ho.run pins s1 σ H1 _ I1 q1) fun u s2 h2 => ?_
  obtain ⟨x, H2, I2, r2, a, C, rfl, T, hn, ea, q⟩ := h2
  cases r2
  exact ox_fld T I2 ea hn r1 fun dx s' n ne J => ⟨σ, _, J, q dx n ne⟩
/-- C(e) is made -/
theorem pmk_ox {CX : CXT} {k : Nat} {fd : FuncData} {ps : List Str} (T : OxC X.K C) (iC : PySem.W.findIn X.K (.ref C) "__init__" = some (some (.ref fI))) (tI : PySem.W.typeIn X.K (.ref fI) = some (.type "function"))
    (hno : PySem.W.findIn X.K (.ref C) f = some none) (F1 : FnOk X.prog X.w X.K X.mg X.base CX k fI fd ps (spO X.K C f)) (hr : Room (k + 1) X.A) (hb : L2.Binds X.K fd ps []) (hx : Passes CX X (fun _ _ _ => False))
    (hg : Gl X x) (hm : X.mg x = some (.ref C)) (ha : PA X (e :: es) ta) (hdb : (x == ("__debug__" : Str)) = false := by decide)
    (hs : starEach (e :: es) X.env = (false, eval e X.env) :: starEach es X.env := by rfl) (hpl : (backTo pos (starEach es X.env)).any (·.1) = false := by rfl) :
    PMk X (.Call (.Name x p) (e :: es) [] pos) (tOx C f ta) := by
  intro pins s σ H Q I h
  refine wpAny_Call_Name_kw (ld_glob I hg hm ?_ hdb)
  refine PySem.W.callWith_K (h₀ := X.base) I.ok.mod.kin T.kpt (thn (ha.run pos pins s σ H _ I h) fun us s1 hh => ?_) hs hpl
  obtain ⟨vs, H1, I1, rr, y, rfl, q⟩ := hh
  refine ⟨I1.kIn, ?_⟩
  show wpAny _ _ (call (.ref C) us) _ _ _
  cases rr with
  | @cons _ v _ ur ry rn =>
  cases rn
  obtain ⟨n1, n2, n3, n4, n5, n6, n7, n8, n9, n10, n11, n12, n13, n14, n15, n16, cC, cT⟩ := PySem.W.excInit_of I1.kIn T.ini
  obtain ⟨hp, gs, dr, tk, os⟩ := s1
  have fr : H1 (hp.objs.size + 1) = none := I1.hok.fresh (Nat.le_succ _)
  have kp : ∀ b o, hp.get? b = some o → ((hp.push (PySem.W.kdv_tup [v])).push (PySem.HandSPX.excO C hp.objs.size)).get? b = some o := fun b o z => Heap.get?_push_of_some _ (Heap.get?_push_of_some _ z)
  have at_ : ((hp.push (PySem.W.kdv_tup [v])).push (PySem.HandSPX.excO C hp.objs.size)).get? (hp.objs.size + 1) = some (PySem.HandSPX.excO C hp.objs.size) := by heap_get
  have I2 := I1.laid (t' := tk) (a := hp.objs.size + 1) (o := exo (hp.objs.size + 1) C none) kp (Nat.le_succ _) (exo_ok at_)
  have sp : spO X.K C f [.ref (hp.objs.size + 1), y] (upd H1 (hp.objs.size + 1) (exo (hp.objs.size + 1) C none)) (fun z H2 => z = .non ∧ ∃ (d : Addr) (fs : List (Str × V)), H2 (hp.objs.size + 1) = some (exo (hp.objs.size + 1) C (some d)) ∧ H2 d = some (exd d fs) ∧ H1 d = none ∧ Q (.ref C) (some d) (upd (del H2 (hp.objs.size + 1)) d (.xd fs))) (fun _ _ _ => False) := by
    refine ⟨_, y, rfl, T, hno, upd_same, fun dx hd hne => ⟨rfl, dx, [(f, y)], upd_same, ?_, ?_, ?_⟩⟩
    · rw [upd_ne hne]; exact upd_same
    · rw [upd_ne hne] at hd; exact hd
    · rw [upd_ne hne] at hd
      have z := q dx hd
      have eq : upd (del (upd (upd (upd H1 (hp.objs.size + 1) (exo (hp.objs.size + 1) C none)) dx (exd dx [(f, y)])) (hp.objs.size + 1) (exo (hp.objs.size + 1) C (some dx))) (hp.objs.size + 1)) dx (.xd [(f, y)]) = upd H1 dx (.xd [(f, y)]) := by
        funext b
        by_cases h1 : b = dx
        · rw [h1, upd_same, upd_same]
        · rw [upd_ne h1, upd_ne h1]
          by_cases h2 : b = hp.objs.size + 1
          · rw [h2, del_same, fr]
          · rw [del_ne h2, upd_ne h2, upd_ne h1, upd_ne h2]
      rw [eq]
      exact z
  have hlen : ps.length = 2 := by have := F1.len _ _ _ _ sp; exact this.symm
  refine wpAny_call (PySem.HandSPX.call_own PySem.F.excBase_ArithmeticError cT cC (PySem.W.looks_findIn I1.kIn iC) (fun self => PySem.W.bind_fn I1.kIn self tI) (by show 1 ≤ sizeLine; rw [sizeLine_eq]; omega) ?_)
  refine codeAny_mono (F1.run _ X.stack _ _ ⟨[Value.ref (hp.objs.size + 1), v], []⟩ [Value.ref (hp.objs.size + 1), v] [.ref (hp.objs.size + 1), y] _ _ (hr.make C [v] []) (I2.env0.make C [v] []) ?_ (.cons rfl (.cons ry .nil)) sp) fun r s' z => ?_
  · have := hb _ [Value.ref (hp.objs.size + 1), v] I2.kIn (by rw [List.append_nil]; exact hlen.symm)
    rwa [List.append_nil] at this
  · cases r with
    | error er => exact hx pins σ _ _ er s' I2 z
    | ok fl =>
      cases fl with
      | next => exact z.elim
      | brk => exact z.elim
      | cont => exact z.elim
      | ret w0 =>
        obtain ⟨v9, H2, o2, b2, u2, k2, rv, ev, d, fs, ea, ed, hd1, q2⟩ := z
        subst ev
        obtain ⟨h2, g2, d2, t2, os2⟩ := s'
        exact ⟨rv, mk_end (raises_own T.sub T.typ) I1 (Nat.le_succ _) kp u2 k2 o2 b2 ea ed hd1 q2⟩
end
end Mi
set_option Elab.async false
set_option linter.all false
set_option maxRecDepth 100000
set_option maxHeartbeats 2000000
namespace Mi
open PySem L2 PyProof.Rows

variable {Θ : Fx} {ρ ρ' : List Addr} {s s' : S} {σ σ' : L2.St} {H H' : Hp} {X : Cx} {K : PySem.W.Frag}

/-! ### the __init__ of an own error -/
def tOI (K : PySem.W.Frag) (m f : Str) : TS := tSeq (tDrop (tBI K (tCons (tVar 0) (tCons (tC (.str m)) tNil)))) (tOF K f (tVar 0) (tVar 1))
theorem okO {P : Program} {w : World} {mg : Str → Option Value} {base : Heap} {k : Nat} {fI C : Addr} {fd : FuncData} {qual q m fl : Str} {st : Stmt} (F : Fun K "__init__" qual st fI fd) (S : FnScope ["self", q] ["self", q] (defScope st))
    (hb : ∀ (cdv : Value) (A : Around) (outer : List Env) (s : Shared) (H : Hp) (E : XK), PSs (cxOf CX0 P w K mg base ["self", q] qual (defScope st) fI cdv A outer s H E).nox (defBody st) (tOI K m fl)) :
    FnOk P w K mg base CX0 (k + 1) fI fd ["self", q] (spO K C fl) :=
  F.ok S (fun vs H Q E ⟨a, y, e, _⟩ => by rw [e]; rfl) fun cdv A outer s H vs Q E _ ⟨a, y, e, T, hf, ea, qq⟩ => ⟨_, hb cdv A outer s H E, by
    subst e
    exact ⟨_, rfl, ⟨a, C, [.str m], rfl, by simp, T, ea, _, rfl, _, rfl, a, C, rfl, T, hf, ea, qq⟩⟩⟩

/-! ### defs that let errors out -/
section
variable {P : Program} {w : World} {mg : Str → Option Value} {base : Heap}
theorem okMx {x qual : Str} {st : Stmt} {f : Addr} {fd : FuncData} {N ps : List Str} {k : Nat} {m : M Flw} (F : Fun K x qual st f fd) (S : FnScope N ps (defScope st))
    (hb : ∀ (cdv : Value) (A : Around) (outer : List Env) (s : Shared) (H : Hp) (E : XK) (Θ : Fx), Room k (A.deeper (envOfC qual (defScope st) s.heap.objs.size f cdv)) → Θ.K = K → Θ.EX = EXof K Θ.F Θ.w0 E →
      Takes (cxOf (L2.CX P w) P w K mg base N qual (defScope st) f cdv A outer s H E) (fun cls d _ H => E cls d H) →
      PassesOwn (model P w) (cxOf (L2.CX P w) P w K mg base N qual (defScope st) f cdv A outer s H E).A (cxOf (L2.CX P w) P w K mg base N qual (defScope st) f cdv A outer s H E).env (cxOf (L2.CX P w) P w K mg base N qual (defScope st) f cdv A outer s H E).xe →
      PSs (cxOf (L2.CX P w) P w K mg base N qual (defScope st) f cdv A outer s H E) (defBody st) (tS Θ m)) :
    FnOk P w K mg base (L2.CX P w) (k + 1) f fd ps (spF K (ar ps.length (runF N.length m))) :=
  okM F S fun cdv A outer s H E Θ hr hK hE => hb cdv A outer s H E Θ hr hK hE (takes_of rfl rfl rfl rfl) (passes_of rfl)
end
/-- an own error's class as the top left it -/
structure OxK (K : PySem.W.Frag) (mg : Str → Option Value) (x qual : Str) (st : Stmt) (ps : List Str) (C f : Addr) (fd : FuncData) (fl : Str) : Prop where
  g : mg x = some (.ref C)
  T : OxC K C
  i : PySem.W.findIn K (.ref C) "__init__" = some (some (.ref f))
  t : PySem.W.typeIn K (.ref f) = some (.type "function")
  n : PySem.W.findIn K (.ref C) fl = some none
  F : Fun K "__init__" qual st f fd
  b : L2.Binds K fd ps []
section
variable {k j : Nat} {f C : Addr} {fd : FuncData} {ps : List Str} {fn : Fn} {x qual fl : Str} {st : Stmt} {p pos pos' : Pos} {e a : Expr} {es : List Expr} {mr : M (List IV)} {E : XK}
theorem c_callx (tk : Takes X (fun cls d _ H => E cls d H)) (B : FnB X.K X.mg x st ps f fd) (G : FnOk X.prog X.w X.K X.mg X.base (L2.CX X.prog X.w) k f fd ps (spF X.K fn)) (hr : Room j X.A) (hjk : k ≤ j) (hg : Gl X x) (hK : Θ.K = X.K) (hE : Θ.EX = EXof X.K Θ.F Θ.w0 E) (ha : PA X (e :: es) (tA Θ mr))
    (hd : (x == ("__debug__" : Str)) = false := by decide) (hs : starEach (e :: es) X.env = (false, eval e X.env) :: starEach es X.env := by rfl) (hpl : (backTo pos (starEach es X.env)).any (·.1) = false := by rfl) :
    PE X (.Call (.Name x p) (e :: es) [] pos) (tE Θ (mCall fn mr)) := e_call G (hr.mono hjk) hg B.g B.F.kp B.b (passes_call tk fun _ _ _ _ h => h) hK hE ha hd hs hpl
def mRaise (C : Addr) (f : Str) (m : M (List IV)) : M Flw := M.bind m fun xs s => match xs with
  | [x] => .ex C [(f, x)] s
  | _ => .no
theorem s_raise (B : OxK X.K X.mg x qual st ps C f fd fl) (G : FnOk X.prog X.w X.K X.mg X.base CX0 k f fd ps (spO X.K C fl)) (hc : X.calm = true) (tk : Takes X (fun cls d _ H => E cls d H)) (hr : Room j X.A) (hjk : k + 1 ≤ j) (hg : Gl X x) (hK : Θ.K = X.K) (hE : Θ.EX = EXof X.K Θ.F Θ.w0 E) (ha : PA X (e :: es) (tA Θ mr))
    (hd : (x == ("__debug__" : Str)) = false := by decide) (hs : starEach (e :: es) X.env = (false, eval e X.env) :: starEach es X.env := by rfl) (hpl : (backTo pos (starEach es X.env)).any (·.1) = false := by rfl) :
    PS X (.Raise (some (.Call (.Name x p) (e :: es) [] pos)) none pos') (tS Θ (mRaise C fl mr)) :=
  psLe (ps_raise hc tk (pmk_ox B.T B.i B.t B.n G (hr.mono hjk) B.b (fun _ _ _ _ _ _ _ z => z.elim) hg B.g ha hd hs hpl)) fun D σ H h => (tS.bind (R := RepL) h).imp fun vs H1 ⟨ρ1, s1, xs, r1, rl, o⟩ => by
    cases xs with
    | nil => exact o.elim
    | cons z zs =>
      cases zs with
      | cons _ _ => exact o.elim
      | nil =>
        obtain ⟨y, rfl, h1⟩ := rep1 rl
        refine ⟨y, rfl, fun dx hn => ?_⟩
        have o : Θ.EX C [(fl, z)] s1 := o
        rw [hE] at o
        obtain ⟨st1, nL⟩ := r1.laid (o := .xd [(fl, y)]) hn
        have lc := st1.r.leC
        have en := st1.r.en
        rw [hK] at lc en
        exact o ρ1 _ dx en (st1.r.base.trans lc) st1.r.fkeep ⟨[(fl, y)], upd_same, (lc.keep dx _ upd_same nL).2, .cons ((h1.mono st1.le).mono lc) .nil⟩
end
/-! ### try: f(..) / except C as e: return e.f == 'k' -/
theorem takes_nox : Takes X.nox (fun _ _ _ _ => False) := fun u s' ⟨_, _, _, _, _, _, _, _, _, _, _, _, _, _, _, _, w⟩ => w.elim
def mTryEq (fn : Fn) (C : Addr) (i : Nat) (f z : Str) (m : M (List IV)) : M Flw := M.bind m fun xs s => match fn xs s.sto with
  | .ok _ μ => .ok .nx { s with sto := μ }
  | .ex c fs μ => if c = C ∧ i < s.env.length then (match fs.lookup f with
    | some (.str y) => .ok (.rt (.bl (y == z))) { s with sto := μ }
    | _ => .no) else .no
  | .no => .no
/-- what the caught error's class must have -/
structure OxX (K : PySem.W.Frag) (C : Addr) (f : Str) : Prop where
  F : XfC K C
  n : PySem.W.findIn K (.ref C) f = some none
  m : PySem.W.exmOne K (.ref C) (.ref C) = some true
section
variable {k j i : Nat} {g C : Addr} {fd : FuncData} {ps : List Str} {fn : Fn} {x y n f z : Str} {st : Stmt} {p p1 p2 np q1 q2 q3 q4 q5 pos pos' : Pos} {kz : Nat} {e : Expr} {es : List Expr} {mr : M (List IV)} {E : XK} {Wout : WX}
theorem s_tryEq (Y : OxX X.K C f) (hs : X.stack = X.env :: X.outer) (hf : X.env.frame = some X.env.locals) (hN : X.N.Nodup) (hi : X.N[i]? = some n) (hln : X.env.kindOf n = some .local) (hv : Vis X.env.scope n) (gy : Gl X y) (my : X.mg y = some (.ref C)) (tk : Takes X (fun _ _ _ _ => False))
    (B : FnB X.K X.mg x st ps g fd) (G : FnOk X.prog X.w X.K X.mg X.base (L2.CX X.prog X.w) k g fd ps (spF X.K fn)) (hr : Room j X.A) (hjk : k ≤ j) (gx : Gl X x) (hK : Θ.K = X.K)
    (ha : ∀ (pn : List (Addr × Obj)) (xe : Value → Shared → Prop), PA (X.tr pn xe) (e :: es) (tA Θ mr))
    (hdy : (y == ("__debug__" : Str)) = false := by decide) (hdx : (x == ("__debug__" : Str)) = false := by decide) (hdn : (n == ("__debug__" : Str)) = false := by decide) (hcn : (n == ("__classdict__" : Str)) = false := by decide)
    (hse : starEach (e :: es) X.env = (false, eval e X.env) :: starEach es X.env := by rfl) (hpl : (backTo p1 (starEach es X.env)).any (·.1) = false := by rfl)
    (hsw : swapsWith (.Call (.Name x p) (e :: es) [] p1) none p2.line X.env = pure false := by rfl)
    (hab : attributeBase (.Name n q1) f X.env (eval (.Name n q1) X.env) = eval (.Name n q1) X.env := by rfl) :
    PS X (.Try [.Expr (.Call (.Name x p) (e :: es) [] p1) p2] [.ExceptHandler (some (.Name y np)) (some n) [.Return (some (.Compare (.Attribute (.Name n q1) f q2) [.Eq] [.Constant (.str z) kz q3] q4)) q5] pos'] [] [] pos) (tS Θ (mTryEq fn C i f z mr)) := by
  refine psLe (ps_try_as (i := i) (Wout := fun _ _ _ _ => False) (tb := fun W => tDrop (tCallS (spF X.K fn) (WE W) (tA Θ mr))) (ts := fun a cls d => tRet (tOp rEq (tXf a cls d C f (tVar i)) (tC (.str z)))) hs hf hN hi hln ⟨gy, hdy, .inl my⟩ tk (fun W pn xe tw _ => ?_) fun a oe cls d pn hz ho => ?_) fun D σ H h => ?_
  · exact pss_one (ps_expr (pe_callS (G.mono hjk) hr gx B.g B.F.kp B.b (passAt tw) (ha pn xe) hdx hse hpl) hsw)
  · exact pss_one (ps_ret (pe_cmpR op_eq (pe_xf Y.F Y.n hz ho (pe_var hi hv hdn hcn) hab) pe_str (nomark _)))
  · refine (tS.bind (R := RepL) h).imp fun vs H1 ⟨ρ1, s1, xs, r1, rl, o⟩ => ?_
    refine ⟨ρ1, s1.sto, xs, calleeF Θ s1 σ, hK ▸ r1.enOw, hK ▸ rl, ?_⟩
    cases ee : fn xs s1.sto with
    | no => rw [ee] at o; exact o.elim
    | ok u μ' =>
      rw [ee] at o
      intro ρ' H' v en le kp rv
      rw [← hK] at en le
      exact o ρ' σ H' (r1.back en le kp)
    | ex c fs μ' =>
      rw [ee] at o
      intro ρ' H' d en le kp xd
      rw [← hK] at en le
      dsimp only at o
      by_cases hc : c = C ∧ i < s1.env.length
      · rw [if_pos hc] at o
        obtain ⟨hc, hil⟩ := hc
        subst hc
        refine ⟨true, Y.m, fun _ a hna => ?_, fun q => nomatch q⟩
        obtain ⟨gs, h1, h2, h3⟩ := xd
        cases el : fs.lookup f with
        | none => rw [el] at o; exact o.elim
        | some w0 =>
          rw [el] at o
          obtain ⟨v0, k1, k2⟩ := h3.lookup el
          cases w0 with
          | str y0 =>
            cases k2
            have hlen : i < σ.length := by rw [r1.len]; exact hil
            refine ⟨.ref a, by rw [List.getElem?_set_self hlen], rfl, rfl, d, gs, .str y0, rfl, h1, k1, rfl, ?_⟩
            have q := o ρ' σ H' (r1.back en le kp) (.bl (y0 == z)) (.bl _)
            rw [dec_str]
            exact q
          | _ => exact o.elim
      · rw [if_neg hc] at o; exact o.elim
end
end Mi
set_option Elab.async false
set_option linter.all false
set_option maxRecDepth 100000
namespace Mi
open PySem L2 PyProof.Rows

variable {Θ : Fx} {ρ ρ' : List Addr} {s s' : S} {σ σ' : L2.St} {H H' : Hp} {X : Cx} {K : PySem.W.Frag}
/-! ### list(range(n)) -/
def lrng : IV → Option (List IV)
  | .int j => if j.natAbs ≤ 16000000 then some (rngL 0 j.toNat) else none
  | _ => none
def mLrg (m : M IV) : M (List IV) := M.bind m fun x => M.opt (lrng x)
theorem rep_ints2 {w : Vw} (f g : Nat → Int) (h : ∀ i, f i = g i) : ∀ l : List Nat, RepL w (l.map fun i => V.int (f i)) (l.map fun i => IV.int (g i))
  | [] => .nil
  | i :: l => .cons (by show RepV w (V.int (f i)) (IV.int (g i)); rw [h i]; exact .int _) (rep_ints2 f g h l)
theorem n_listRg {a : Expr} {p p1 p2 pos : Pos} {ma : M IV} (hc : X.calm = true) (hl : Gl X "list") (ml : X.mg "list" = none) (hr : Gl X "range") (mr : X.mg "range" = none) (ha : PE X a (tE Θ ma))
    (na : starEach [a] X.env = (false, eval a X.env) :: starEach [] X.env := by rfl) (nb : starEach [.Call (.Name "range" p1) [a] [] p2] X.env = (false, eval (.Call (.Name "range" p1) [a] [] p2) X.env) :: starEach [] X.env := by rfl) :
    PE X (.Call (.Name "list" p) [.Call (.Name "range" p1) [a] [] p2] [] pos) (tNw Θ (mLrg ma)) :=
  peLe (pe_listRg hc hl ml (prg_1 hr mr ha na) nb) fun σ H Q ⟨ρ, s, r, o⟩ => ⟨ρ, s, r, o.bind.mono fun x s1 q ρ1 H1 v st rx => by
    obtain ⟨z, e, q⟩ := q.opt
    unfold lrng at e
    split at e
    · split at e
      · rename_i hj
        cases e
        cases rx
        refine ⟨_, rfl, ⟨by omega, by omega, by omega, by omega, by omega⟩, fun p hp => q ρ1 H1 p _ st hp ?_⟩
        unfold rgV rngL
        rw [Int.sub_zero]
        exact rep_ints2 _ _ (fun _ => rfl) _
      · cases e
    · cases e⟩
end Mi
set_option Elab.async false
set_option linter.all false
set_option maxRecDepth 100000
namespace Mi
open PySem L2
section
variable {s : S} {Q : IV → S → Prop} {R : Flw → S → Prop} {L : List IV → S → Prop}
theorem W_asg {m g} : W (mAsg m g) s R = W m s fun v s1 => W (g v) s1 fun _ s2 => R .nx s2 := by unfold mAsg; simp only [W_bind]; rfl
theorem W_tryEq {fn C i f z m} : W (mTryEq fn C i f z m) s R = W m s fun xs s1 => match fn xs s1.sto with
    | .ok _ μ => R .nx { s1 with sto := μ }
    | .ex c fs μ => if c = C ∧ i < s1.env.length then (match fs.lookup f with
      | some (.str y) => R (.rt (.bl (y == z))) { s1 with sto := μ }
      | _ => False) else False
    | .no => False := by
  unfold mTryEq; rw [W_bind]; congr; funext xs s1
  unfold W
  dsimp only
  cases fn xs s1.sto with
  | ok v μ => rfl
  | no => rfl
  | ex c fs μ =>
    dsimp only
    by_cases h : c = C ∧ i < s1.env.length
    · rw [if_pos h, if_pos h]
      cases fs.lookup f with
      | none => rfl
      | some x => cases x <;> rfl
    · rw [if_neg h, if_neg h]
theorem W_step {a b : M Flw} {s1 : S} (h : ∀ R' : Flw → S → Prop, R' .nx s1 → W a s R') (h2 : W b s1 R) : W (mSeq a b) s R := by rw [W_seq]; exact h _ h2
theorem W_stepQ {a b : M Flw} (T : S → Prop) (h : W a s fun f s1 => f = .nx ∧ T s1) (h2 : ∀ s1, T s1 → W b s1 R) : W (mSeq a b) s R := by
  rw [W_seq]
  refine h.mono fun f s1 ⟨hf, ht⟩ => ?_
  subst hf
  exact h2 s1 ht
theorem W_fzStep {i : Nat} {m : M Flw} {l : List IV} (h : s.env[i]? = some (.own l)) (h2 : W m (setE i (.val (.fl l)) s) R) : W (mFz i m) s R := by rw [W_fz h]; exact h2
/-- a comprehension that chooses, and changes nothing but its own variables -/
def wipeS (ws : List Nat) (s : S) : S := { s with env := wipeE ws s.env }
theorem compL_pure {ws : List Nat} {g : IV → M Unit} {t : M Bool} {e : M IV} (p : IV → Bool) (f : IV → IV) (s0 : S) : ∀ (l acc : List IV), acc.length + l.length ≤ szl →
    (∀ x ∈ l, W (g x) s0 fun _ s1 => W t s1 fun b s2 => b = p x ∧ (if p x = true then W e s2 fun y s3 => y = f x ∧ wipeS ws s3 = s0 else wipeS ws s2 = s0)) → compL ws g t e l acc s0 = .ok (acc ++ (l.filter p).map f) s0
  | [], acc, _, _ => by rw [compL.eq_1]; simp [M.pure]
  | x :: r, acc, hz, h => by
    have hx := h x (List.mem_cons_self ..)
    obtain ⟨_, s1, e1, hx⟩ := hx.run
    obtain ⟨b, s2, e2, hb, hx⟩ := hx.run
    subst hb
    have n1 : nox (g x) s0 = .ok () s1 := by unfold nox; rw [e1]
    have n2 : nox t s1 = .ok (p x) s2 := by unfold nox; rw [e2]
    rw [compL.eq_2]
    simp only [M.bind, n1, n2]
    rw [List.length_cons] at hz
    by_cases hp : p x = true
    · rw [if_pos hp] at hx ⊢
      obtain ⟨y, s3, e3, rfl, hs⟩ := hx.run
      have n3 : nox e s2 = .ok (f x) s3 := by unfold nox; rw [e3]
      simp only [M.bind, n3]
      rw [if_pos (by omega)]
      show compL ws g t e r (acc ++ [f x]) (wipeS ws s3) = _
      rw [hs, compL_pure p f s0 r _ (by simp; omega) fun z hz => h z (List.mem_cons_of_mem _ hz), List.filter_cons_of_pos hp]
      simp
    · rw [if_neg hp] at hx ⊢
      show compL ws g t e r acc (wipeS ws s2) = _
      rw [hx, compL_pure p f s0 r _ (by omega) fun z hz => h z (List.mem_cons_of_mem _ hz), List.filter_cons_of_neg hp]
theorem W_compP {ws : List Nat} {mi : M (List IV)} {g : IV → M Unit} {t : M Bool} {e : M IV} (p : IV → Bool) (f : IV → IV)
    (h : W mi s fun l s1 => l.length ≤ szl ∧ (∀ x ∈ l, W (g x) (wipeS ws s1) fun _ s2 => W t s2 fun b s3 => b = p x ∧ (if p x = true then W e s3 fun y s4 => y = f x ∧ wipeS ws s4 = wipeS ws s1 else wipeS ws s3 = wipeS ws s1)) ∧ L ((l.filter p).map f) (wipeS ws s1)) :
    W (mComp ws mi g t e) s L := by
  obtain ⟨l, s1, e1, hz, hx, q⟩ := h.run
  unfold mComp
  rw [W_bind, W_of e1, W_bind]
  show W (compL ws g t e l []) (wipeS ws s1) L
  rw [W_of (compL_pure p f (wipeS ws s1) l [] (by simpa using hz) hx)]
  exact q
/-- .. that chooses nothing -/
theorem compL_none {ws : List Nat} {g : IV → M Unit} {t : M Bool} {e : M IV} (I : S → Prop) : ∀ (l : List IV) (s0 : S), I s0 →
    (∀ x ∈ l, ∀ s, I s → W (g x) s fun _ s2 => W t s2 fun b s3 => b = false ∧ I (wipeS ws s3)) → (∀ s, I s → L [] s) → W (compL ws g t e l []) s0 L
  | [], s0, h0, _, hd => by rw [compL.eq_1]; exact hd s0 h0
  | x :: r, s0, h0, hs, hd => by
    rw [compL.eq_2, W_bind, W_nox]
    refine (hs x (List.mem_cons_self ..) s0 h0).mono fun _ s1 h1 => ?_
    rw [W_bind, W_nox]
    refine h1.mono fun b s2 ⟨hb, h2⟩ => ?_
    subst hb
    rw [if_neg (by decide), W_bind]
    exact compL_none I r _ h2 (fun z hz => hs z (List.mem_cons_of_mem _ hz)) hd
theorem W_compN {ws : List Nat} {mi : M (List IV)} {g : IV → M Unit} {t : M Bool} {e : M IV} (I : S → Prop)
    (h : W mi s fun l s1 => I (wipeS ws s1) ∧ (∀ x ∈ l, ∀ s, I s → W (g x) s fun _ s2 => W t s2 fun b s3 => b = false ∧ I (wipeS ws s3)) ∧ (∀ s, I s → L [] s)) : W (mComp ws mi g t e) s L := by
  obtain ⟨l, s1, e1, h0, hx, q⟩ := h.run
  unfold mComp
  rw [W_bind, W_of e1, W_bind]
  exact compL_none I l _ h0 hx q
end
/-! ### errors that leave -/
theorem ex_run {n : Nat} {m : M Flw} {xs : List IV} {μ : List SO} {c : Addr} {fs : List (Str × IV)} {s' : S} (h : m ⟨xs.map .val ++ List.replicate (n - xs.length) .emp, μ⟩ = .ex c fs s') : runF n m xs μ = .ex c fs s'.sto := by unfold runF; rw [h]
theorem ex_seq1 {a b : M Flw} {s : S} {c : Addr} {fs : List (Str × IV)} {s' : S} (h : a s = .ex c fs s') : mSeq a b s = .ex c fs s' := by unfold mSeq M.bind; rw [h]
theorem ex_seq2 {a b : M Flw} {s s1 : S} {r : Res Flw} (h : a s = .ok .nx s1) (h2 : b s1 = r) : mSeq a b s = r := by unfold mSeq M.bind; rw [h]; exact h2
theorem ex_bind1 {α β : Type} {m : M α} {k : α → M β} {s : S} {c : Addr} {fs : List (Str × IV)} {s' : S} (h : m s = .ex c fs s') : M.bind m k s = .ex c fs s' := by unfold M.bind; rw [h]
theorem ex_call {fn : Fn} {m : M (List IV)} {s s1 : S} {xs : List IV} {c : Addr} {fs : List (Str × IV)} {μ : List SO} (h : m s = .ok xs s1) (h2 : fn xs s1.sto = .ex c fs μ) : mCall fn m s = .ex c fs { s1 with sto := μ } := by
  unfold mCall M.bind
  simp only [h, h2]
theorem ex_raise {C : Addr} {f : Str} {m : M (List IV)} {s s1 : S} {x : IV} (h : m s = .ok [x] s1) : mRaise C f m s = .ex C [(f, x)] s1 := by unfold mRaise M.bind; rw [h]
theorem ex_ar {n : Nat} {fn : Fn} {xs : List IV} {μ : List SO} {r : RF} (h : xs.length = n) (h2 : fn xs μ = r) : ar n fn xs μ = r := by unfold ar; rw [if_pos h]; exact h2
theorem ok_of {α : Type} {m : M α} {s : S} {x : α} {s' : S} (h : W m s fun v s1 => v = x ∧ s1 = s') : m s = .ok x s' := of_W h
end Mi
set_option Elab.async false
set_option linter.all false
set_option maxRecDepth 100000
set_option maxHeartbeats 4000000
open PySem L2 Mi PyProof.Rows
namespace Lw
def topS (i : Nat) : Stmt := PySem.Challenge.pw_farlayout_k32_nodes_at_a_row.main.body.getD i (.Pass ⟨0, 0, 0, 0⟩)
abbrev fuel : Nat := 1000000000000
structure Ad where
  Doc : Addr
  InvalidBound : Addr
  LayoutError : Addr
  MOST_SIGNS : Addr
  SIZES : Addr

def tab_MOST_SIGNS : List (Str × Int) := [("text", 20), ("line", 3)]
def tab_SIZES : List (Str × Int) := [("text", 2), ("line", 2), ("hard", 1), ("cat", 2), ("nest", 3), ("align", 2), ("group", 2)]
structure Txt (K : PySem.W.Frag) (w : World) (mg : Str → Option Value) (Z : Ad) : Prop where
  n_all : mg "all" = none
  n_bool : mg "bool" = none
  n_enumerate : mg "enumerate" = none
  n_int : mg "int" = none
  n_isinstance : mg "isinstance" = none
  n_len : mg "len" = none
  n_list : mg "list" = none
  n_min : mg "min" = none
  n_range : mg "range" = none
  n_str : mg "str" = none
  n_sum : mg "sum" = none
  n_tuple : mg "tuple" = none
  c_MOST_NEST : ∃ t, mg "MOST_NEST" = some (.int 8 t)
  c_MOST_PARTS : ∃ t, mg "MOST_PARTS" = some (.int 8 t)
  c_MOST_ROWS : ∃ t, mg "MOST_ROWS" = some (.int 200 t)
  g_Doc : mg "Doc" = some (.ref Z.Doc)
  o_Doc : ∃ o, K.lookup Z.Doc = some o
  cl_Doc : Cls K Z.Doc
  g_InvalidBound : mg "InvalidBound" = some (.ref Z.InvalidBound)
  x_InvalidBound : OxC K Z.InvalidBound
  g_LayoutError : mg "LayoutError" = some (.ref Z.LayoutError)
  b_LayoutError : OxB K Z.LayoutError
  k_InvalidBound_argument : OxX K Z.InvalidBound "argument"
  na_Doc_layouts : NoAttr K Z.Doc "layouts"
  na_Doc_rows : NoAttr K Z.Doc "rows"
  is_Doc : IsC K Z.Doc [Z.Doc]
  g_MOST_SIGNS : mg "MOST_SIGNS" = some (.ref Z.MOST_SIGNS)
  t_MOST_SIGNS : KTab K w Z.MOST_SIGNS tab_MOST_SIGNS
  g_SIZES : mg "SIZES" = some (.ref Z.SIZES)
  t_SIZES : KTab K w Z.SIZES tab_SIZES
section
variable {P : Program} {w : World} {K : PySem.W.Frag} {mg : Str → Option Value} {base : Heap} {Z : Ad}
abbrev s_is_integer : Stmt := topS 7
theorem sc_is_integer : FnScope ["value"] ["value"] (defScope s_is_integer) := ⟨rfl, rfl, rfl, by decide +kernel, rfl, by decide +kernel, by decide +kernel⟩
def m_is_integer (Z : Ad) : M Flw := mRet (mAndV (mAp isiV (mCons (mVar 0) (mCons (mC (.ty "int")) (mNil)))) (mNotV (mAp isiV (mCons (mVar 0) (mCons (mC (.ty "bool")) (mNil))))))
def fn_is_integer (Z : Ad) : Fn := ar 1 (runF 1 (m_is_integer Z))
theorem ok_is_integer {f : Addr} {fd : FuncData} (F : Fun K "is_integer" "is_integer" s_is_integer f fd) (T : Txt K w mg Z) : FnOk P w K mg base CX0 1 f fd ["value"] (spF K (fn_is_integer Z)) := by
  have S := sc_is_integer
  exact okM0 (k := 0) F S fun cdv A outer s H E Θ hr hK hE => (ss_one (s_ret (e_and (e_callB call_isi (isiV_ok hK) rfl T.n_isinstance (by rfl) (a_cons (e_var 0) (a_cons (e_bty rfl T.n_int (by rfl)) a_nil))) (e_one (e_not (e_callB call_isi (isiV_ok hK) rfl T.n_isinstance (by rfl) (a_cons (e_var 0) (a_cons (e_bty rfl T.n_bool (by rfl)) a_nil))))))))
abbrev s_is_signs : Stmt := topS 16
theorem sc_is_signs : FnScope ["value", "most", "sign"] ["value", "most"] (defScope s_is_signs) := ⟨rfl, rfl, rfl, by decide +kernel, rfl, by decide +kernel, by decide +kernel⟩
def m_is_signs (Z : Ad) : M Flw := mRet (mAndV (mAp isiV (mCons (mVar 0) (mCons (mC (.ty "str")) (mNil)))) (mAndV (mOp leV (mAp lenV (mCons (mVar 0) (mNil))) (mVar 1)) (mAp allV (mCons (mFl (mComp [2] (mItS (mVar 0)) (gSet 2) (tYesM) (mChain leV leV (mC (.str " ")) (mVar 2) (mC (.str "~"))))) (mNil)))))
def fn_is_signs (Z : Ad) : Fn := ar 2 (runF 3 (m_is_signs Z))
theorem ok_is_signs {f : Addr} {fd : FuncData} (F : Fun K "is_signs" "is_signs" s_is_signs f fd) (T : Txt K w mg Z) : FnOk P w K mg base CX0 1 f fd ["value", "most"] (spF K (fn_is_signs Z)) := by
  have S := sc_is_signs
  exact okM0 (k := 0) F S fun cdv A outer s H E Θ hr hK hE => (ss_one (s_ret (e_and (e_callB call_isi (isiV_ok hK) rfl T.n_isinstance (by rfl) (a_cons (e_var 0) (a_cons (e_bty rfl T.n_str (by rfl)) a_nil))) (e_and (e_cmp op_leV cmpV_ok (e_callB call_lenV (lenV_ok hK) rfl T.n_len (by rfl) (a_cons (e_var 0) a_nil)) (e_var 1) (nomark _)) (e_one (e_callB (cr_all rfl) (allV_ok hK) rfl T.n_all (by rfl) (a_cons (e_new (n_comp (own := [("sign", 2)]) (us := [2]) (g := gSet 2) (t := tYesM) (me := mChain leV leV (mC (.str " ")) (mVar 2) (mC (.str "~"))) rfl S.nd hK (i_str (e_var 0)) (blkOk_by (N := ["value", "most", "sign"]) (sc := defScope s_is_signs) (by decide +kernel)) (by decide) (fun _ _ _ _ _ Θ2 hS => by have hK := hS.1; have hE := hS.2; exact (g_name (i := 2) S.nd rfl (by first | exact Or.inl rfl | exact Or.inr rfl))) (fun _ _ _ _ _ Θ2 hS => by have hK := hS.1; have hE := hS.2; exact p_none) (fun _ _ _ _ _ Θ2 hS => by have hK := hS.1; have hE := hS.2; exact (e_chain op_leV cmpV_ok op_leV cmpV_ok e_str (e_var 2) e_str)))) a_nil)))))))
abbrev s_copied_row : Stmt := topS 18
theorem sc_copied_row : FnScope ["row"] ["row"] (defScope s_copied_row) := ⟨rfl, rfl, rfl, by decide +kernel, rfl, by decide +kernel, by decide +kernel⟩
def m_copied_row (Z : Ad) : M Flw := mRet (mIfE (mTst (mOp eqV (mIx (mVar 0) (mC (.int 0))) (mC (.str "cat")))) (mAp tupV (mCons (mC (.str "cat")) (mCons (mAp listV (mCons (mIx (mVar 0) (mC (.int 1))) (mNil))) (mNil)))) (mVar 0))
def fn_copied_row (Z : Ad) : Fn := ar 1 (runF 1 (m_copied_row Z))
theorem ok_copied_row {f : Addr} {fd : FuncData} (F : Fun K "copied_row" "copied_row" s_copied_row f fd) (T : Txt K w mg Z) : FnOk P w K mg base CX0 1 f fd ["row"] (spF K (fn_copied_row Z)) := by
  have S := sc_copied_row
  exact okM0 (k := 0) F S fun cdv A outer s H E Θ hr hK hE => (ss_one (s_ret (e_ifExp (t_cmp (op_eqV' hr.units) (eqV_ok hK) (e_ixM hK (e_var 0) e_int (fun _ _ => rfl)) e_str (nomark _)) (e_tup (a_cons e_str (a_cons (e_callTy call_list_of (listV_ok hK) rfl T.n_list (by rfl) (a_cons (e_ixM hK (e_var 0) e_int (fun _ _ => rfl)) a_nil)) a_nil))) (e_var 0))))
abbrev s_parts_of : Stmt := topS 19
theorem sc_parts_of : FnScope ["row"] ["row"] (defScope s_parts_of) := ⟨rfl, rfl, rfl, by decide +kernel, rfl, by decide +kernel, by decide +kernel⟩
def m_parts_of (Z : Ad) : M Flw := mSeq (mIf (mTst (mOp eqV (mIx (mVar 0) (mC (.int 0))) (mC (.str "cat")))) (mRet (mIx (mVar 0) (mC (.int 1)))) (mNx)) (mRet (mIfE (mTst (mOp inV' (mIx (mVar 0) (mC (.int 0))) (mAp tupV (mCons (mC (.str "text")) (mCons (mC (.str "line")) (mCons (mC (.str "hard")) (mNil))))))) (mAp lstV (mNil)) (mAp lstV (mCons (mIx (mVar 0) (mUn negV (mC (.int 1)))) (mNil)))))
def fn_parts_of (Z : Ad) : Fn := ar 1 (runF 1 (m_parts_of Z))
theorem ok_parts_of {f : Addr} {fd : FuncData} (F : Fun K "parts_of" "parts_of" s_parts_of f fd) (T : Txt K w mg Z) : FnOk P w K mg base CX0 1 f fd ["row"] (spF K (fn_parts_of Z)) := by
  have S := sc_parts_of
  exact okM0 (k := 0) F S fun cdv A outer s H E Θ hr hK hE => (ss_cons (s_if (t_cmp (op_eqV' hr.units) (eqV_ok hK) (e_ixM hK (e_var 0) e_int (fun _ _ => rfl)) e_str (nomark _)) (ss_one (s_ret (e_ixM hK (e_var 0) e_int (fun _ _ => rfl)))) ss_nil) (ss_one (s_ret (e_ifExp (t_cmp op_in_seq (inV_ok hK) (e_ixM hK (e_var 0) e_int (fun _ _ => rfl)) (e_tup (a_cons e_str (a_cons e_str (a_cons e_str a_nil)))) (by with_unfolding_all rfl)) (e_lst a_nil) (e_lst (a_cons (e_ixM hK (e_var 0) (e_neg e_int) (fun _ _ => rfl)) a_nil))))))
abbrev s_check_doc : Stmt := topS 21
theorem sc_check_doc : FnScope ["doc"] ["doc"] (defScope s_check_doc) := ⟨rfl, rfl, rfl, by decide +kernel, rfl, by decide +kernel, by decide +kernel⟩
def m_check_doc (Z : Ad) : M Flw := mIf (mNotT (mTst (mAp (isiC Z.Doc [Z.Doc]) (mCons (mVar 0) (mCons (mC (.adr Z.Doc)) (mNil)))))) (mNever) (mNx)
def fn_check_doc (Z : Ad) : Fn := ar 1 (runF 1 (m_check_doc Z))
theorem ok_check_doc {f : Addr} {fd : FuncData} (F : Fun K "check_doc" "check_doc" s_check_doc f fd) (T : Txt K w mg Z) : FnOk P w K mg base CX0 1 f fd ["doc"] (spF K (fn_check_doc Z)) := by
  have S := sc_check_doc
  exact okM0 (k := 0) F S fun cdv A outer s H E Θ hr hK hE => (ss_one (s_if (t_not (t_val (e_callB call_isi (isiC_ok hK T.is_Doc) rfl T.n_isinstance (by rfl) (a_cons (e_var 0) (a_cons (e_gadr hK T.g_Doc T.o_Doc rfl) a_nil))))) (ss_one s_never) ss_nil))
abbrev s_only_row : Stmt := topS 31
theorem sc_only_row : FnScope ["doc", "at", "number"] ["doc", "at"] (defScope s_only_row) := ⟨rfl, rfl, rfl, by decide +kernel, rfl, by decide +kernel, by decide +kernel⟩
def m_only_row (Z : Ad) : M Flw := mRet (mFl (mComp [2] (mApL rng1 (mCons (mAp lenV (mCons (mFld Z.Doc "rows" (mVar 0)) (mNil))) (mNil))) (gSet 2) (tYesM) (mOp eqV (mVar 2) (mVar 1))))
def fn_only_row (Z : Ad) : Fn := ar 2 (runF 3 (m_only_row Z))
theorem ok_only_row {f : Addr} {fd : FuncData} (F : Fun K "only_row" "only_row" s_only_row f fd) (T : Txt K w mg Z) : FnOk P w K mg base CX0 1 f fd ["doc", "at"] (spF K (fn_only_row Z)) := by
  have S := sc_only_row
  exact okM0 (k := 0) F S fun cdv A outer s H E Θ hr hK hE => (ss_one (s_ret (e_new (n_comp (own := [("number", 2)]) (us := [2]) (g := gSet 2) (t := tYesM) (me := mOp eqV (mVar 2) (mVar 1)) rfl S.nd hK (i_range1 rfl T.n_range (a_cons (e_callB call_lenV (lenV_ok hK) rfl T.n_len (by rfl) (a_cons (e_fld hK T.cl_Doc T.na_Doc_rows (e_var 0)) a_nil)) a_nil)) (blkOk_by (N := ["doc", "at", "number"]) (sc := defScope s_only_row) (by decide +kernel)) (by decide) (fun _ _ _ _ _ Θ2 hS => by have hK := hS.1; have hE := hS.2; exact (g_name (i := 2) S.nd rfl (by first | exact Or.inl rfl | exact Or.inr rfl))) (fun _ _ _ _ _ Θ2 hS => by have hK := hS.1; have hE := hS.2; exact p_none) (fun _ _ _ _ _ Θ2 hS => by have hK := hS.1; have hE := hS.2; exact (e_cmp (op_eqV' hr.units) (eqV_ok hK) (e_var 2) (e_var 1) (nomark _)))))))
abbrev s__law_well : Stmt := topS 35
theorem sc__law_well : FnScope ["_law_cell"] ["_law_cell"] (defScope s__law_well) := ⟨rfl, rfl, rfl, by decide +kernel, rfl, by decide +kernel, by decide +kernel⟩
def m__law_well (Z : Ad) : M Flw := mRet (mRf (mApL szL (mCons (mOp mulV (mVar 0) (mAp intV (mCons (mOp geV (mVar 0) (mOp powV (mC (.int 10)) (mC (.int 18)))) (mNil)))) (mCons (mOp modV (mAp intV (mCons (mVar 0) (mNil))) (mC (.int 2147483629))) (mCons (mC (.int 0)) (mNil))))))
def fn__law_well (Z : Ad) : Fn := ar 1 (runF 1 (m__law_well Z))
theorem ok__law_well {f : Addr} {fd : FuncData} (F : Fun K "_law_well" "_law_well" s__law_well f fd) (T : Txt K w mg Z) : FnOk P w K mg base CX0 1 f fd ["_law_cell"] (spF K (fn__law_well Z)) := by
  have S := sc__law_well
  exact okM0 (k := 0) F S fun cdv A outer s H E Θ hr hK hE => (ss_one (s_ret (e_newR (n_lst (a_cons (e_mul hK (e_var 0) (e_callTy call_int1 intV_ok rfl T.n_int (by rfl) (a_cons (e_cmp op_geV cmpV_ok (e_var 0) (e_pow e_int e_int) (nomark _)) a_nil))) (a_cons (e_mod (e_callTy call_int1 intV_ok rfl T.n_int (by rfl) (a_cons (e_var 0) a_nil)) e_int) (a_cons e_int a_nil)))))))
abbrev s__law_draw : Stmt := topS 36
theorem sc__law_draw : FnScope ["_law_well_here", "_law_most", "_law_mixed", "_law_found"] ["_law_well_here", "_law_most"] (defScope s__law_draw) := ⟨rfl, rfl, rfl, by decide +kernel, rfl, by decide +kernel, by decide +kernel⟩
def m__law_draw (Z : Ad) : M Flw := mSeq (mIf (mTst (mOp gtV (mIx (mVar 0) (mC (.int 0))) (mC (.int 0)))) (mSeq (mSet 3 (mOp modV (mAp intV (mCons (mIx (mVar 0) (mC (.int 0))) (mNil))) (mVar 1))) (mSeq (mSetIx (mOp divV (mIx (mVar 0) (mC (.int 0))) (mVar 1)) (mVar 0) (mC (.int 0))) (mRet (mVar 3)))) (mNx)) (mSeq (mSetIx (mOp addV (mIx (mVar 0) (mC (.int 2))) (mC (.int 1))) (mVar 0) (mC (.int 2))) (mSeq (mSet 2 (mOp modV (mAp intV (mCons (mOp addV (mOp addV (mIx (mVar 0) (mC (.int 1))) (mOp mulV (mC (.int 65537)) (mIx (mVar 0) (mC (.int 2))))) (mC (.int 31))) (mNil))) (mC (.int 2147483629)))) (mSeq (mSet 2 (mOp modV (mAp intV (mCons (mOp mulV (mVar 2) (mOp addV (mOp divV (mVar 2) (mC (.int 997))) (mC (.int 48271)))) (mNil))) (mC (.int 2147483587)))) (mSeq (mSet 2 (mOp modV (mAp intV (mCons (mOp mulV (mVar 2) (mOp addV (mOp divV (mVar 2) (mC (.int 2003))) (mC (.int 69621)))) (mNil))) (mC (.int 2147483563)))) (mRet (mOp modV (mAp intV (mCons (mOp divV (mVar 2) (mC (.int 5))) (mNil))) (mVar 1)))))))
def fn__law_draw (Z : Ad) : Fn := ar 2 (runF 4 (m__law_draw Z))
theorem ok__law_draw {f : Addr} {fd : FuncData} (F : Fun K "_law_draw" "_law_draw" s__law_draw f fd) (T : Txt K w mg Z) : FnOk P w K mg base CX0 1 f fd ["_law_well_here", "_law_most"] (spF K (fn__law_draw Z)) := by
  have S := sc__law_draw
  exact okM0 (k := 0) F S fun cdv A outer s H E Θ hr hK hE => (ss_cons (s_if (t_cmp op_gtV cmpV_ok (e_ixM hK (e_var 0) e_int (fun _ _ => rfl)) e_int (nomark _)) (ss_cons (s_set (i := 3) S.nd rfl (by first | exact Or.inl rfl | exact Or.inr rfl) (e_mod (e_callTy call_int1 intV_ok rfl T.n_int (by rfl) (a_cons (e_ixM hK (e_var 0) e_int (fun _ _ => rfl)) a_nil)) (e_var 1))) (ss_cons (s_setIx (e_div (e_ixM hK (e_var 0) e_int (fun _ _ => rfl)) (e_var 1)) (e_var 0) e_int) (ss_one (s_ret (e_var 3))))) ss_nil) (ss_cons (s_setIx (e_add hK (e_ixM hK (e_var 0) e_int (fun _ _ => rfl)) e_int) (e_var 0) e_int) (ss_cons (s_set (i := 2) S.nd rfl (by first | exact Or.inl rfl | exact Or.inr rfl) (e_mod (e_callTy call_int1 intV_ok rfl T.n_int (by rfl) (a_cons (e_add hK (e_add hK (e_ixM hK (e_var 0) e_int (fun _ _ => rfl)) (e_mul hK e_int (e_ixM hK (e_var 0) e_int (fun _ _ => rfl)))) e_int) a_nil)) e_int)) (ss_cons (s_set (i := 2) S.nd rfl (by first | exact Or.inl rfl | exact Or.inr rfl) (e_mod (e_callTy call_int1 intV_ok rfl T.n_int (by rfl) (a_cons (e_mul hK (e_var 2) (e_add hK (e_div (e_var 2) e_int) e_int)) a_nil)) e_int)) (ss_cons (s_set (i := 2) S.nd rfl (by first | exact Or.inl rfl | exact Or.inr rfl) (e_mod (e_callTy call_int1 intV_ok rfl T.n_int (by rfl) (a_cons (e_mul hK (e_var 2) (e_add hK (e_div (e_var 2) e_int) e_int)) a_nil)) e_int)) (ss_one (s_ret (e_mod (e_callTy call_int1 intV_ok rfl T.n_int (by rfl) (a_cons (e_div (e_var 2) e_int) a_nil)) (e_var 1)))))))))
abbrev s__law_below : Stmt := topS 38
theorem sc__law_below : FnScope ["_law_row_here"] ["_law_row_here"] (defScope s__law_below) := ⟨rfl, rfl, rfl, by decide +kernel, rfl, by decide +kernel, by decide +kernel⟩
def m__law_below (Z : Ad) : M Flw := mSeq (mIf (mTst (mOp eqV (mIx (mVar 0) (mC (.int 0))) (mC (.str "cat")))) (mRet (mAp listV (mCons (mIx (mVar 0) (mC (.int 1))) (mNil)))) (mNx)) (mRet (mIfE (mTst (mOp inV' (mIx (mVar 0) (mC (.int 0))) (mAp tupV (mCons (mC (.str "text")) (mCons (mC (.str "line")) (mCons (mC (.str "hard")) (mNil))))))) (mAp lstV (mNil)) (mAp lstV (mCons (mIx (mVar 0) (mUn negV (mC (.int 1)))) (mNil)))))
def fn__law_below (Z : Ad) : Fn := ar 1 (runF 1 (m__law_below Z))
theorem ok__law_below {f : Addr} {fd : FuncData} (F : Fun K "_law_below" "_law_below" s__law_below f fd) (T : Txt K w mg Z) : FnOk P w K mg base CX0 1 f fd ["_law_row_here"] (spF K (fn__law_below Z)) := by
  have S := sc__law_below
  exact okM0 (k := 0) F S fun cdv A outer s H E Θ hr hK hE => (ss_cons (s_if (t_cmp (op_eqV' hr.units) (eqV_ok hK) (e_ixM hK (e_var 0) e_int (fun _ _ => rfl)) e_str (nomark _)) (ss_one (s_ret (e_callTy call_list_of (listV_ok hK) rfl T.n_list (by rfl) (a_cons (e_ixM hK (e_var 0) e_int (fun _ _ => rfl)) a_nil)))) ss_nil) (ss_one (s_ret (e_ifExp (t_cmp op_in_seq (inV_ok hK) (e_ixM hK (e_var 0) e_int (fun _ _ => rfl)) (e_tup (a_cons e_str (a_cons e_str (a_cons e_str a_nil)))) (by with_unfolding_all rfl)) (e_lst a_nil) (e_lst (a_cons (e_ixM hK (e_var 0) (e_neg e_int) (fun _ _ => rfl)) a_nil))))))
abbrev s_InvalidBound___init__ : Stmt := inClass (topS 5) 0
theorem sc_InvalidBound___init__ : FnScope ["self", "argument"] ["self", "argument"] (defScope s_InvalidBound___init__) := ⟨rfl, rfl, rfl, by decide +kernel, rfl, by decide +kernel, by decide +kernel⟩
theorem ok_InvalidBound___init__ {f : Addr} {fd : FuncData} (F : Fun K "__init__" "InvalidBound.__init__" s_InvalidBound___init__ f fd) (T : Txt K w mg Z) : FnOk P w K mg base CX0 1 f fd ["self", "argument"] (spO K Z.InvalidBound "argument") := by
  have S := sc_InvalidBound___init__
  exact okO (k := 0) (m := "invalid bound") F S fun cdv A outer s H E => pss_cons (ps_expr (pe_base T.b_LayoutError rfl T.g_LayoutError (pa_cons (pe_var rfl (by first | exact Or.inl rfl | exact Or.inr (Or.inl rfl) | exact Or.inr (Or.inr rfl))) (pa_cons pe_str pa_nil)))) (pss_one (ps_ofld (pe_var rfl (by first | exact Or.inl rfl | exact Or.inr (Or.inl rfl) | exact Or.inr (Or.inr rfl))) (pe_var rfl (by first | exact Or.inl rfl | exact Or.inr (Or.inl rfl) | exact Or.inr (Or.inr rfl)))))
abbrev s_is_between : Stmt := topS 8
theorem sc_is_between : FnScope ["value", "low", "high"] ["value", "low", "high"] (defScope s_is_between) := ⟨rfl, rfl, rfl, by decide +kernel, rfl, by decide +kernel, by decide +kernel⟩
def m_is_between (Z : Ad) : M Flw := mRet (mAndV (mCall (fn_is_integer Z) (mCons (mVar 0) (mNil))) (mChain leV leV (mVar 1) (mVar 0) (mVar 2)))
def fn_is_between (Z : Ad) : Fn := ar 3 (runF 3 (m_is_between Z))
theorem ok_is_between {f : Addr} {fd : FuncData} (F : Fun K "is_between" "is_between" s_is_between f fd) (T : Txt K w mg Z) {f_is_integer : Addr} {d_is_integer : FuncData} (B_is_integer : FnB K mg "is_integer" s_is_integer ["value"] f_is_integer d_is_integer) (G_is_integer : FnOk P w K mg base CX0 1 f_is_integer d_is_integer ["value"] (spF K (fn_is_integer Z))) : FnOk P w K mg base CX0 2 f fd ["value", "low", "high"] (spF K (fn_is_between Z)) := by
  have S := sc_is_between
  exact okM0 (k := 1) F S fun cdv A outer s H E Θ hr hK hE => (ss_one (s_ret (e_and (c_call B_is_integer G_is_integer hr (by decide) rfl hK hE (a_cons (e_var 0) a_nil)) (e_one (e_chain op_leV cmpV_ok op_leV cmpV_ok (e_var 1) (e_var 0) (e_var 2))))))
abbrev s_copy_totals : Stmt := topS 23
theorem sc_copy_totals : FnScope ["rows", "found", "at", "part"] ["rows"] (defScope s_copy_totals) := ⟨rfl, rfl, rfl, by decide +kernel, rfl, by decide +kernel, by decide +kernel⟩
def m_copy_totals (Z : Ad) : M Flw := mSeq (mOwn 1 (mOpL mulL (mAp lstV (mCons (mC (.int 0)) (mNil))) (mAp lenV (mCons (mVar 0) (mNil))))) (mSeq (mOwnSet 1 (mC (.int 1)) (mUn negV (mC (.int 1)))) (mSeq (mFor (mApL rng3 (mCons (mOp subV (mAp lenV (mCons (mVar 0) (mNil))) (mC (.int 1))) (mCons (mUn negV (mC (.int 1))) (mCons (mUn negV (mC (.int 1))) (mNil))))) (gSet 2) (mFor (mItL (mCall (fn_parts_of Z) (mCons (mIx (mVar 0) (mVar 2)) (mNil)))) (gSet 3) (mOwnSet 1 (mOp addV (mOwnIx 1 (mVar 3)) (mOwnIx 1 (mVar 2))) (mVar 3)))) (mFz 1 (mRet (mVar 1)))))
def fn_copy_totals (Z : Ad) : Fn := ar 1 (runF 4 (m_copy_totals Z))
theorem ok_copy_totals {f : Addr} {fd : FuncData} (F : Fun K "copy_totals" "copy_totals" s_copy_totals f fd) (T : Txt K w mg Z) {f_parts_of : Addr} {d_parts_of : FuncData} (B_parts_of : FnB K mg "parts_of" s_parts_of ["row"] f_parts_of d_parts_of) (G_parts_of : FnOk P w K mg base CX0 1 f_parts_of d_parts_of ["row"] (spF K (fn_parts_of Z))) : FnOk P w K mg base CX0 2 f fd ["rows"] (spF K (fn_copy_totals Z)) := by
  have S := sc_copy_totals
  exact okM0 (k := 1) F S fun cdv A outer s H E Θ hr hK hE => (ss_cons (s_own (i := 1) S.nd rfl (by first | exact Or.inl rfl | exact Or.inr rfl) (n_mul hK (e_lst (a_cons e_int a_nil)) (e_callB call_lenV (lenV_ok hK) rfl T.n_len (by rfl) (a_cons (e_var 0) a_nil)))) (ss_cons (s_ownSet (i := 1) rfl (by first | exact Or.inl rfl | exact Or.inr (Or.inl rfl) | exact Or.inr (Or.inr rfl)) e_int (e_neg e_int)) (ss_cons (s_for PassesOwn.never rfl (i_range3 rfl T.n_range (a_cons (e_sub (e_callB call_lenV (lenV_ok hK) rfl T.n_len (by rfl) (a_cons (e_var 0) a_nil)) e_int) (a_cons (e_neg e_int) (a_cons (e_neg e_int) a_nil)))) (g_name (i := 2) S.nd rfl (by first | exact Or.inl rfl | exact Or.inr rfl)) (ss_one (s_for PassesOwn.never rfl (i_list hK (c_call B_parts_of G_parts_of hr (by decide) rfl hK hE (a_cons (e_ixM hK (e_var 0) (e_var 2) (fun _ _ => rfl)) a_nil))) (g_name (i := 3) S.nd rfl (by first | exact Or.inl rfl | exact Or.inr rfl)) (ss_one (s_ownSet (i := 1) rfl (by first | exact Or.inl rfl | exact Or.inr (Or.inl rfl) | exact Or.inr (Or.inr rfl)) (e_add hK (e_ownIx (i := 1) hK rfl (by first | exact Or.inl rfl | exact Or.inr (Or.inl rfl) | exact Or.inr (Or.inr rfl)) (e_var 3) (fun _ _ => rfl)) (e_ownIx (i := 1) hK rfl (by first | exact Or.inl rfl | exact Or.inr (Or.inl rfl) | exact Or.inr (Or.inr rfl)) (e_var 2) (fun _ _ => rfl))) (e_var 3)))))) (ss_fz (i := 1) (ss_one (s_ret (e_var 1)))))))
abbrev s_chosen_totals : Stmt := topS 28
theorem sc_chosen_totals : FnScope ["rows", "chosen", "found", "at", "row", "part"] ["rows", "chosen"] (defScope s_chosen_totals) := ⟨rfl, rfl, rfl, by decide +kernel, rfl, by decide +kernel, by decide +kernel⟩
def m_chosen_totals (Z : Ad) : M Flw := mSeq (mOwn 2 (mApL szL (mNil))) (mSeq (mFor (mApL enm (mCons (mVar 0) (mNil))) (gTp 2 (gCs (gSet 3) (gCs (gSet 4) (gNl)))) (mApp 2 (mOp addV (mAp intV (mCons (mIx (mVar 1) (mVar 3)) (mNil))) (mAp sumV (mCons (mFl (mComp [5] (mItL (mCall (fn_parts_of Z) (mCons (mVar 4) (mNil)))) (gSet 5) (tYesM) (mOwnIx 2 (mVar 5)))) (mNil)))))) (mFz 2 (mRet (mVar 2))))
def fn_chosen_totals (Z : Ad) : Fn := ar 2 (runF 6 (m_chosen_totals Z))
theorem ok_chosen_totals {f : Addr} {fd : FuncData} (F : Fun K "chosen_totals" "chosen_totals" s_chosen_totals f fd) (T : Txt K w mg Z) {f_parts_of : Addr} {d_parts_of : FuncData} (B_parts_of : FnB K mg "parts_of" s_parts_of ["row"] f_parts_of d_parts_of) (G_parts_of : FnOk P w K mg base CX0 1 f_parts_of d_parts_of ["row"] (spF K (fn_parts_of Z))) : FnOk P w K mg base CX0 2 f fd ["rows", "chosen"] (spF K (fn_chosen_totals Z)) := by
  have S := sc_chosen_totals
  exact okM0 (k := 1) F S fun cdv A outer s H E Θ hr hK hE => (ss_cons (s_own (i := 2) S.nd rfl (by first | exact Or.inl rfl | exact Or.inr rfl) (n_lst a_nil)) (ss_cons (s_for PassesOwn.never rfl (i_enum hK rfl T.n_enumerate (a_cons (e_var 0) a_nil)) (g_tup (n := 2) hK rfl (gs_cons (g_name (i := 3) S.nd rfl (by first | exact Or.inl rfl | exact Or.inr rfl)) (gs_cons (g_name (i := 4) S.nd rfl (by first | exact Or.inl rfl | exact Or.inr rfl)) gs_nil))) (ss_one (s_app (i := 2) rfl (by first | exact Or.inl rfl | exact Or.inr (Or.inl rfl) | exact Or.inr (Or.inr rfl)) (e_add hK (e_callTy call_int1 intV_ok rfl T.n_int (by rfl) (a_cons (e_ixM hK (e_var 1) (e_var 3) (fun _ _ => rfl)) a_nil)) (e_callB (cr_sum rfl) (sumV_ok hK) rfl T.n_sum (by rfl) (a_cons (e_new (n_comp (own := [("part", 5)]) (us := [5]) (g := gSet 5) (t := tYesM) (me := mOwnIx 2 (mVar 5)) rfl S.nd hK (i_list hK (c_call B_parts_of G_parts_of hr (by decide) rfl hK hE (a_cons (e_var 4) a_nil))) (blkOk_by (N := ["rows", "chosen", "found", "at", "row", "part"]) (sc := defScope s_chosen_totals) (by decide +kernel)) (by decide) (fun _ _ _ _ _ Θ2 hS => by have hK := hS.1; have hE := hS.2; exact (g_name (i := 5) S.nd rfl (by first | exact Or.inl rfl | exact Or.inr rfl))) (fun _ _ _ _ _ Θ2 hS => by have hK := hS.1; have hE := hS.2; exact p_none) (fun _ _ _ _ _ Θ2 hS => by have hK := hS.1; have hE := hS.2; exact (e_ownIx (i := 2) hK rfl (by first | exact Or.inl rfl | exact Or.inr (Or.inl rfl) | exact Or.inr (Or.inr rfl)) (e_var 5) (fun _ _ => rfl))))) a_nil)))))) (ss_fz (i := 2) (ss_one (s_ret (e_var 2))))))
abbrev s__law_pick : Stmt := topS 37
theorem sc__law_pick : FnScope ["_law_well_here", "_law_some"] ["_law_well_here", "_law_some"] (defScope s__law_pick) := ⟨rfl, rfl, rfl, by decide +kernel, rfl, by decide +kernel, by decide +kernel⟩
def m__law_pick (Z : Ad) : M Flw := mRet (mIx (mVar 1) (mCall (fn__law_draw Z) (mCons (mVar 0) (mCons (mAp lenV (mCons (mVar 1) (mNil))) (mNil)))))
def fn__law_pick (Z : Ad) : Fn := ar 2 (runF 2 (m__law_pick Z))
theorem ok__law_pick {f : Addr} {fd : FuncData} (F : Fun K "_law_pick" "_law_pick" s__law_pick f fd) (T : Txt K w mg Z) {f__law_draw : Addr} {d__law_draw : FuncData} (B__law_draw : FnB K mg "_law_draw" s__law_draw ["_law_well_here", "_law_most"] f__law_draw d__law_draw) (G__law_draw : FnOk P w K mg base CX0 1 f__law_draw d__law_draw ["_law_well_here", "_law_most"] (spF K (fn__law_draw Z))) : FnOk P w K mg base CX0 2 f fd ["_law_well_here", "_law_some"] (spF K (fn__law_pick Z)) := by
  have S := sc__law_pick
  exact okM0 (k := 1) F S fun cdv A outer s H E Θ hr hK hE => (ss_one (s_ret (e_ixM hK (e_var 1) (c_call B__law_draw G__law_draw hr (by decide) rfl hK hE (a_cons (e_var 0) (a_cons (e_callB call_lenV (lenV_ok hK) rfl T.n_len (by rfl) (a_cons (e_var 1) a_nil)) a_nil))) (fun _ _ => rfl))))
abbrev s_check_between : Stmt := topS 9
theorem sc_check_between : FnScope ["argument", "value", "low", "high"] ["argument", "value", "low", "high"] (defScope s_check_between) := ⟨rfl, rfl, rfl, by decide +kernel, rfl, by decide +kernel, by decide +kernel⟩
def m_check_between (Z : Ad) : M Flw := mIf (mNotT (mTst (mCall (fn_is_between Z) (mCons (mVar 1) (mCons (mVar 2) (mCons (mVar 3) (mNil))))))) (mNever) (mNx)
def fn_check_between (Z : Ad) : Fn := ar 4 (runF 4 (m_check_between Z))
theorem ok_check_between {f : Addr} {fd : FuncData} (F : Fun K "check_between" "check_between" s_check_between f fd) (T : Txt K w mg Z) {f_is_between : Addr} {d_is_between : FuncData} (B_is_between : FnB K mg "is_between" s_is_between ["value", "low", "high"] f_is_between d_is_between) (G_is_between : FnOk P w K mg base CX0 2 f_is_between d_is_between ["value", "low", "high"] (spF K (fn_is_between Z))) : FnOk P w K mg base CX0 3 f fd ["argument", "value", "low", "high"] (spF K (fn_check_between Z)) := by
  have S := sc_check_between
  exact okM0 (k := 2) F S fun cdv A outer s H E Θ hr hK hE => (ss_one (s_if (t_not (t_val (c_call B_is_between G_is_between hr (by decide) rfl hK hE (a_cons (e_var 1) (a_cons (e_var 2) (a_cons (e_var 3) a_nil)))))) (ss_one s_never) ss_nil))
abbrev s_check_betweenX : Stmt := topS 9
theorem sc_check_betweenX : FnScope ["argument", "value", "low", "high"] ["argument", "value", "low", "high"] (defScope s_check_betweenX) := ⟨rfl, rfl, rfl, by decide +kernel, rfl, by decide +kernel, by decide +kernel⟩
def m_check_betweenX (Z : Ad) : M Flw := mIf (mNotT (mTst (mCall (fn_is_between Z) (mCons (mVar 1) (mCons (mVar 2) (mCons (mVar 3) (mNil))))))) (mRaise Z.InvalidBound "argument" (mCons (mVar 0) (mNil))) (mNx)
def fn_check_betweenX (Z : Ad) : Fn := ar 4 (runF 4 (m_check_betweenX Z))
theorem ok_check_betweenX {f : Addr} {fd : FuncData} (F : Fun K "check_between" "check_between" s_check_betweenX f fd) (T : Txt K w mg Z) {f_is_between : Addr} {d_is_between : FuncData} (B_is_between : FnB K mg "is_between" s_is_between ["value", "low", "high"] f_is_between d_is_between) (G_is_between : FnOk P w K mg base CX0 2 f_is_between d_is_between ["value", "low", "high"] (spF K (fn_is_between Z))) {f_InvalidBound___init__ : Addr} {d_InvalidBound___init__ : FuncData} (B_InvalidBound : OxK K mg "InvalidBound" "InvalidBound.__init__" s_InvalidBound___init__ ["self", "argument"] Z.InvalidBound f_InvalidBound___init__ d_InvalidBound___init__ "argument") (G_InvalidBound___init__ : FnOk P w K mg base CX0 1 f_InvalidBound___init__ d_InvalidBound___init__ ["self", "argument"] (spO K Z.InvalidBound "argument")) : FnOk P w K mg base (L2.CX P w) 3 f fd ["argument", "value", "low", "high"] (spF K (fn_check_betweenX Z)) := by
  have S := sc_check_betweenX
  exact okMx (k := 2) F S fun cdv A outer s H E Θ hr hK hE tk hp => (ss_one (s_if (t_not (t_val (c_call B_is_between G_is_between hr (by decide) rfl hK hE (a_cons (e_var 1) (a_cons (e_var 2) (a_cons (e_var 3) a_nil)))))) (ss_one (s_raise B_InvalidBound G_InvalidBound___init__ rfl tk hr (by decide) rfl hK hE (a_cons (e_var 0) a_nil))) ss_nil))
abbrev s_is_row : Stmt := topS 17
theorem sc_is_row : FnScope ["value", "number", "word", "is_list", "part"] ["value", "number"] (defScope s_is_row) := ⟨rfl, rfl, rfl, by decide +kernel, rfl, by decide +kernel, by decide +kernel⟩
def m_is_row_r1 (Z : Ad) : M Flw := mSeq (mIf (mTst (mOp eqV (mVar 2) (mC (.str "cat")))) (mSeq (mSet 3 (mAndV (mAp isiV (mCons (mIx (mVar 0) (mC (.int 1))) (mCons (mC (.ty "list")) (mNil)))) (mOp leV (mAp lenV (mCons (mIx (mVar 0) (mC (.int 1))) (mNil))) (mC (.int 8))))) (mRet (mAndV (mVar 3) (mAp allV (mCons (mFl (mComp [4] (mItL (mIx (mVar 0) (mC (.int 1)))) (gSet 4) (tYesM) (mCall (fn_is_between Z) (mCons (mVar 4) (mCons (mC (.int 0)) (mCons (mOp subV (mVar 1) (mC (.int 1))) (mNil))))))) (mNil)))))) (mNx)) (mSeq (mIf (mAndT (mTst (mOp eqV (mVar 2) (mC (.str "nest")))) (mNotT (mTst (mCall (fn_is_between Z) (mCons (mIx (mVar 0) (mC (.int 1))) (mCons (mC (.int 0)) (mCons (mC (.int 8)) (mNil)))))))) (mRet (mC (.bl false))) (mNx)) (mRet (mOrV (mOp eqV (mVar 2) (mC (.str "hard"))) (mCall (fn_is_between Z) (mCons (mIx (mVar 0) (mUn negV (mC (.int 1)))) (mCons (mC (.int 0)) (mCons (mOp subV (mVar 1) (mC (.int 1))) (mNil))))))))
def m_is_row (Z : Ad) : M Flw := mSeq (mIf (mOrT (mNotT (mTst (mAp isiV (mCons (mVar 0) (mCons (mC (.ty "tuple")) (mNil)))))) (mOrT (mTst (mOp eqV (mAp lenV (mCons (mVar 0) (mNil))) (mC (.int 0)))) (mNotT (mTst (mAp isiV (mCons (mIx (mVar 0) (mC (.int 0))) (mCons (mC (.ty "str")) (mNil)))))))) (mRet (mC (.bl false))) (mNx)) (mSeq (mSet 2 (mIx (mVar 0) (mC (.int 0)))) (mSeq (mIf (mOrT (mTst (mUn (tabIn true tab_SIZES) (mVar 2))) (mTst (mOp neV (mAp lenV (mCons (mVar 0) (mNil))) (mUn (tabV tab_SIZES) (mVar 2))))) (mRet (mC (.bl false))) (mNx)) (mSeq (mIf (mTst (mUn (tabIn false tab_MOST_SIGNS) (mVar 2))) (mRet (mCall (fn_is_signs Z) (mCons (mIx (mVar 0) (mC (.int 1))) (mCons (mUn (tabV tab_MOST_SIGNS) (mVar 2)) (mNil))))) (mNx)) (m_is_row_r1 Z))))
def fn_is_row (Z : Ad) : Fn := ar 2 (runF 5 (m_is_row Z))
theorem ok_is_row {f : Addr} {fd : FuncData} (F : Fun K "is_row" "is_row" s_is_row f fd) (T : Txt K w mg Z) {f_is_between : Addr} {d_is_between : FuncData} (B_is_between : FnB K mg "is_between" s_is_between ["value", "low", "high"] f_is_between d_is_between) (G_is_between : FnOk P w K mg base CX0 2 f_is_between d_is_between ["value", "low", "high"] (spF K (fn_is_between Z))) {f_is_signs : Addr} {d_is_signs : FuncData} (B_is_signs : FnB K mg "is_signs" s_is_signs ["value", "most"] f_is_signs d_is_signs) (G_is_signs : FnOk P w K mg base CX0 1 f_is_signs d_is_signs ["value", "most"] (spF K (fn_is_signs Z))) : FnOk P w K mg base CX0 3 f fd ["value", "number"] (spF K (fn_is_row Z)) := by
  have S := sc_is_row
  exact okM0 (k := 2) F S fun cdv A outer s H E Θ hr hK hE => (ss_cons (s_if (PW.pt (w_or (t_not (t_val (e_callB call_isi (isiV_ok hK) rfl T.n_isinstance (by rfl) (a_cons (e_var 0) (a_cons (e_bty rfl T.n_tuple (by rfl)) a_nil))))) (w_or (t_cmp (op_eqV' hr.units) (eqV_ok hK) (e_callB call_lenV (lenV_ok hK) rfl T.n_len (by rfl) (a_cons (e_var 0) a_nil)) e_int (nomark _)) (w_or1 (t_not (t_val (e_callB call_isi (isiV_ok hK) rfl T.n_isinstance (by rfl) (a_cons (e_ixM hK (e_var 0) e_int (fun _ _ => rfl)) (a_cons (e_bty rfl T.n_str (by rfl)) a_nil))))))))) (ss_one (s_ret e_bl)) ss_nil) (ss_cons (s_set (i := 2) S.nd rfl (by first | exact Or.inl rfl | exact Or.inr rfl) (e_ixM hK (e_var 0) e_int (fun _ _ => rfl))) (ss_cons (s_if (PW.pt (w_or (t_tabNin T.t_SIZES (e_var 2) rfl T.g_SIZES) (w_or1 (t_cmp (op_neV' hr.units) (neV_ok hK) (e_callB call_lenV (lenV_ok hK) rfl T.n_len (by rfl) (a_cons (e_var 0) a_nil)) (e_tab T.t_SIZES (e_var 2) rfl T.g_SIZES (fun _ _ => rfl)) (nomark _))))) (ss_one (s_ret e_bl)) ss_nil) (ss_cons (s_if (t_tabIn T.t_MOST_SIGNS (e_var 2) rfl T.g_MOST_SIGNS) (ss_one (s_ret (c_call B_is_signs G_is_signs hr (by decide) rfl hK hE (a_cons (e_ixM hK (e_var 0) e_int (fun _ _ => rfl)) (a_cons (e_tab T.t_MOST_SIGNS (e_var 2) rfl T.g_MOST_SIGNS (fun _ _ => rfl)) a_nil))))) ss_nil) (ss_cons (s_if (t_cmp (op_eqV' hr.units) (eqV_ok hK) (e_var 2) e_str (nomark _)) (ss_cons (s_set (i := 3) S.nd rfl (by first | exact Or.inl rfl | exact Or.inr rfl) (e_and (e_callB call_isi (isiV_ok hK) rfl T.n_isinstance (by rfl) (a_cons (e_ixM hK (e_var 0) e_int (fun _ _ => rfl)) (a_cons (e_bty rfl T.n_list (by rfl)) a_nil))) (e_one (e_cmp op_leV cmpV_ok (e_callB call_lenV (lenV_ok hK) rfl T.n_len (by rfl) (a_cons (e_ixM hK (e_var 0) e_int (fun _ _ => rfl)) a_nil)) (e_gint T.c_MOST_PARTS rfl) (nomark _))))) (ss_one (s_ret (e_and (e_var 3) (e_one (e_callB (cr_all rfl) (allV_ok hK) rfl T.n_all (by rfl) (a_cons (e_new (n_comp (own := [("part", 4)]) (us := [4]) (g := gSet 4) (t := tYesM) (me := mCall (fn_is_between Z) (mCons (mVar 4) (mCons (mC (.int 0)) (mCons (mOp subV (mVar 1) (mC (.int 1))) (mNil))))) rfl S.nd hK (i_list hK (e_ixM hK (e_var 0) e_int (fun _ _ => rfl))) (blkOk_by (N := ["value", "number", "word", "is_list", "part"]) (sc := defScope s_is_row) (by decide +kernel)) (by decide) (fun _ _ _ _ _ Θ2 hS => by have hK := hS.1; have hE := hS.2; exact (g_name (i := 4) S.nd rfl (by first | exact Or.inl rfl | exact Or.inr rfl))) (fun _ _ _ _ _ Θ2 hS => by have hK := hS.1; have hE := hS.2; exact p_none) (fun _ _ _ _ _ Θ2 hS => by have hK := hS.1; have hE := hS.2; exact (c_call B_is_between G_is_between hr (by decide) rfl hK hE (a_cons (e_var 4) (a_cons e_int (a_cons (e_sub (e_var 1) e_int) a_nil))))))) a_nil))))))) ss_nil) (ss_cons (s_if (PW.pt (w_and (t_cmp (op_eqV' hr.units) (eqV_ok hK) (e_var 2) e_str (nomark _)) (w_and1 (t_not (t_val (c_call B_is_between G_is_between hr (by decide) rfl hK hE (a_cons (e_ixM hK (e_var 0) e_int (fun _ _ => rfl)) (a_cons e_int (a_cons (e_gint T.c_MOST_NEST rfl) a_nil))))))))) (ss_one (s_ret e_bl)) ss_nil) (ss_one (s_ret (e_or (e_cmp (op_eqV' hr.units) (eqV_ok hK) (e_var 2) e_str (nomark _)) (e_one (c_call B_is_between G_is_between hr (by decide) rfl hK hE (a_cons (e_ixM hK (e_var 0) (e_neg e_int) (fun _ _ => rfl)) (a_cons e_int (a_cons (e_sub (e_var 1) e_int) a_nil))))))))))))))
abbrev s_row_at : Stmt := topS 24
theorem sc_row_at : FnScope ["doc", "path", "at", "step", "parts"] ["doc", "path"] (defScope s_row_at) := ⟨rfl, rfl, rfl, by decide +kernel, rfl, by decide +kernel, by decide +kernel⟩
def m_row_at (Z : Ad) : M Flw := mSeq (mDrop (mCall (fn_check_doc Z) (mCons (mVar 0) (mNil)))) (mSeq (mIf (mNotT (mTst (mAp isiV (mCons (mVar 1) (mCons (mC (.ty "tuple")) (mNil)))))) (mNever) (mNx)) (mSeq (mSet 2 (mOp subV (mAp lenV (mCons (mFld Z.Doc "rows" (mVar 0)) (mNil))) (mC (.int 1)))) (mSeq (mFor (mItT (mVar 1)) (gSet 3) (mSeq (mSet 4 (mCall (fn_parts_of Z) (mCons (mIx (mFld Z.Doc "rows" (mVar 0)) (mVar 2)) (mNil)))) (mSeq (mIf (mNotT (mTst (mCall (fn_is_between Z) (mCons (mVar 3) (mCons (mC (.int 0)) (mCons (mOp subV (mAp lenV (mCons (mVar 4) (mNil))) (mC (.int 1))) (mNil))))))) (mNever) (mNx)) (mSet 2 (mIx (mVar 4) (mVar 3)))))) (mRet (mVar 2)))))
def fn_row_at (Z : Ad) : Fn := ar 2 (runF 5 (m_row_at Z))
theorem ok_row_at {f : Addr} {fd : FuncData} (F : Fun K "row_at" "row_at" s_row_at f fd) (T : Txt K w mg Z) {f_check_doc : Addr} {d_check_doc : FuncData} (B_check_doc : FnB K mg "check_doc" s_check_doc ["doc"] f_check_doc d_check_doc) (G_check_doc : FnOk P w K mg base CX0 1 f_check_doc d_check_doc ["doc"] (spF K (fn_check_doc Z))) {f_is_between : Addr} {d_is_between : FuncData} (B_is_between : FnB K mg "is_between" s_is_between ["value", "low", "high"] f_is_between d_is_between) (G_is_between : FnOk P w K mg base CX0 2 f_is_between d_is_between ["value", "low", "high"] (spF K (fn_is_between Z))) {f_parts_of : Addr} {d_parts_of : FuncData} (B_parts_of : FnB K mg "parts_of" s_parts_of ["row"] f_parts_of d_parts_of) (G_parts_of : FnOk P w K mg base CX0 1 f_parts_of d_parts_of ["row"] (spF K (fn_parts_of Z))) : FnOk P w K mg base CX0 3 f fd ["doc", "path"] (spF K (fn_row_at Z)) := by
  have S := sc_row_at
  exact okM0 (k := 2) F S fun cdv A outer s H E Θ hr hK hE => (ss_cons (s_drop (c_call B_check_doc G_check_doc hr (by decide) rfl hK hE (a_cons (e_var 0) a_nil))) (ss_cons (s_if (t_not (t_val (e_callB call_isi (isiV_ok hK) rfl T.n_isinstance (by rfl) (a_cons (e_var 1) (a_cons (e_bty rfl T.n_tuple (by rfl)) a_nil))))) (ss_one s_never) ss_nil) (ss_cons (s_set (i := 2) S.nd rfl (by first | exact Or.inl rfl | exact Or.inr rfl) (e_sub (e_callB call_lenV (lenV_ok hK) rfl T.n_len (by rfl) (a_cons (e_fld hK T.cl_Doc T.na_Doc_rows (e_var 0)) a_nil)) e_int)) (ss_cons (s_for PassesOwn.never rfl (i_tup hK (e_var 1)) (g_name (i := 3) S.nd rfl (by first | exact Or.inl rfl | exact Or.inr rfl)) (ss_cons (s_set (i := 4) S.nd rfl (by first | exact Or.inl rfl | exact Or.inr rfl) (c_call B_parts_of G_parts_of hr (by decide) rfl hK hE (a_cons (e_ixM hK (e_fld hK T.cl_Doc T.na_Doc_rows (e_var 0)) (e_var 2) (fun _ _ => rfl)) a_nil))) (ss_cons (s_if (t_not (t_val (c_call B_is_between G_is_between hr (by decide) rfl hK hE (a_cons (e_var 3) (a_cons e_int (a_cons (e_sub (e_callB call_lenV (lenV_ok hK) rfl T.n_len (by rfl) (a_cons (e_var 4) a_nil)) e_int) a_nil)))))) (ss_one s_never) ss_nil) (ss_one (s_set (i := 2) S.nd rfl (by first | exact Or.inl rfl | exact Or.inr rfl) (e_ixM hK (e_var 4) (e_var 3) (fun _ _ => rfl))))))) (ss_one (s_ret (e_var 2)))))))
abbrev s_chosen_ahead : Stmt := topS 30
theorem sc_chosen_ahead : FnScope ["rows", "chosen", "path", "totals", "at", "found", "step", "parts", "part"] ["rows", "chosen", "path"] (defScope s_chosen_ahead) := ⟨rfl, rfl, rfl, by decide +kernel, rfl, by decide +kernel, by decide +kernel⟩
def m_chosen_ahead (Z : Ad) : M Flw := mSeq (mSet 3 (mCall (fn_chosen_totals Z) (mCons (mVar 0) (mCons (mVar 1) (mNil))))) (mSeq (mPar2 4 5 (mCons (mOp subV (mAp lenV (mCons (mVar 0) (mNil))) (mC (.int 1))) (mCons (mC (.int 0)) (mNil)))) (mSeq (mFor (mItT (mVar 2)) (gSet 6) (mSeq (mSet 7 (mCall (fn_parts_of Z) (mCons (mIx (mVar 0) (mVar 4)) (mNil)))) (mSeq (mSet 5 (mOp addV (mOp addV (mVar 5) (mAp intV (mCons (mIx (mVar 1) (mVar 4)) (mNil)))) (mAp sumV (mCons (mFl (mComp [8] (mItL (mSl (mVar 7) mNoPart (mPart (mVar 6)))) (gSet 8) (tYesM) (mIx (mVar 3) (mVar 8)))) (mNil))))) (mSet 4 (mIx (mVar 7) (mVar 6)))))) (mRet (mVar 5))))
def fn_chosen_ahead (Z : Ad) : Fn := ar 3 (runF 9 (m_chosen_ahead Z))
theorem ok_chosen_ahead {f : Addr} {fd : FuncData} (F : Fun K "chosen_ahead" "chosen_ahead" s_chosen_ahead f fd) (T : Txt K w mg Z) {f_chosen_totals : Addr} {d_chosen_totals : FuncData} (B_chosen_totals : FnB K mg "chosen_totals" s_chosen_totals ["rows", "chosen"] f_chosen_totals d_chosen_totals) (G_chosen_totals : FnOk P w K mg base CX0 2 f_chosen_totals d_chosen_totals ["rows", "chosen"] (spF K (fn_chosen_totals Z))) {f_parts_of : Addr} {d_parts_of : FuncData} (B_parts_of : FnB K mg "parts_of" s_parts_of ["row"] f_parts_of d_parts_of) (G_parts_of : FnOk P w K mg base CX0 1 f_parts_of d_parts_of ["row"] (spF K (fn_parts_of Z))) : FnOk P w K mg base CX0 3 f fd ["rows", "chosen", "path"] (spF K (fn_chosen_ahead Z)) := by
  have S := sc_chosen_ahead
  exact okM0 (k := 2) F S fun cdv A outer s H E Θ hr hK hE => (ss_cons (s_set (i := 3) S.nd rfl (by first | exact Or.inl rfl | exact Or.inr rfl) (c_call B_chosen_totals G_chosen_totals hr (by decide) rfl hK hE (a_cons (e_var 0) (a_cons (e_var 1) a_nil)))) (ss_cons (s_par (i := 4) (j := 5) rfl S.nd rfl rfl (by decide) rfl rfl (a_cons (e_sub (e_callB call_lenV (lenV_ok hK) rfl T.n_len (by rfl) (a_cons (e_var 0) a_nil)) e_int) (a_cons e_int a_nil)) rfl) (ss_cons (s_for PassesOwn.never rfl (i_tup hK (e_var 2)) (g_name (i := 6) S.nd rfl (by first | exact Or.inl rfl | exact Or.inr rfl)) (ss_cons (s_set (i := 7) S.nd rfl (by first | exact Or.inl rfl | exact Or.inr rfl) (c_call B_parts_of G_parts_of hr (by decide) rfl hK hE (a_cons (e_ixM hK (e_var 0) (e_var 4) (fun _ _ => rfl)) a_nil))) (ss_cons (s_set (i := 5) S.nd rfl (by first | exact Or.inl rfl | exact Or.inr rfl) (e_add hK (e_add hK (e_var 5) (e_callTy call_int1 intV_ok rfl T.n_int (by rfl) (a_cons (e_ixM hK (e_var 1) (e_var 4) (fun _ _ => rfl)) a_nil))) (e_callB (cr_sum rfl) (sumV_ok hK) rfl T.n_sum (by rfl) (a_cons (e_new (n_comp (own := [("part", 8)]) (us := [8]) (g := gSet 8) (t := tYesM) (me := mIx (mVar 3) (mVar 8)) rfl S.nd hK (i_list hK (e_slice hK (e_var 7) o_none (o_some (e_var 6)))) (blkOk_by (N := ["rows", "chosen", "path", "totals", "at", "found", "step", "parts", "part"]) (sc := defScope s_chosen_ahead) (by decide +kernel)) (by decide) (fun _ _ _ _ _ Θ2 hS => by have hK := hS.1; have hE := hS.2; exact (g_name (i := 8) S.nd rfl (by first | exact Or.inl rfl | exact Or.inr rfl))) (fun _ _ _ _ _ Θ2 hS => by have hK := hS.1; have hE := hS.2; exact p_none) (fun _ _ _ _ _ Θ2 hS => by have hK := hS.1; have hE := hS.2; exact (e_ixM hK (e_var 3) (e_var 8) (fun _ _ => rfl))))) a_nil)))) (ss_one (s_set (i := 4) S.nd rfl (by first | exact Or.inl rfl | exact Or.inr rfl) (e_ixM hK (e_var 7) (e_var 6) (fun _ _ => rfl))))))) (ss_one (s_ret (e_var 5))))))
abbrev s__law_row : Stmt := topS 39
theorem sc__law_row : FnScope ["_law_well_here", "_law_k", "_law_way", "_law_some", "_law_j"] ["_law_well_here", "_law_k"] (defScope s__law_row) := ⟨rfl, rfl, rfl, by decide +kernel, rfl, by decide +kernel, by decide +kernel⟩
def m__law_row (Z : Ad) : M Flw := mSeq (mSet 2 (mIfE (mTst (mOp gtV (mVar 1) (mC (.int 2)))) (mCall (fn__law_draw Z) (mCons (mVar 0) (mCons (mC (.int 14)) (mNil)))) (mCall (fn__law_draw Z) (mCons (mVar 0) (mCons (mC (.int 4)) (mNil)))))) (mSeq (mIf (mTst (mOp ltV (mVar 2) (mC (.int 4)))) (mSeq (mSet 3 (mAp lstV (mCons (mAp tupV (mCons (mC (.str "text")) (mCons (mC (.str "a")) (mNil)))) (mCons (mAp tupV (mCons (mC (.str "text")) (mCons (mC (.str "bcd")) (mNil)))) (mCons (mAp tupV (mCons (mC (.str "text")) (mCons (mC (.str "efghij")) (mNil)))) (mCons (mAp tupV (mCons (mC (.str "text")) (mCons (mC (.str "")) (mNil)))) (mCons (mAp tupV (mCons (mC (.str "line")) (mCons (mC (.str " ")) (mNil)))) (mCons (mAp tupV (mCons (mC (.str "line")) (mCons (mC (.str " ")) (mNil)))) (mNil))))))))) (mRet (mCall (fn__law_pick Z) (mCons (mVar 0) (mCons (mOp addV (mVar 3) (mAp lstV (mCons (mAp tupV (mCons (mC (.str "line")) (mCons (mC (.str "")) (mNil)))) (mCons (mAp tupV (mCons (mC (.str "line")) (mCons (mC (.str ", ")) (mNil)))) (mCons (mAp tupV (mCons (mC (.str "hard")) (mNil))) (mNil)))))) (mNil)))))) (mNx)) (mSeq (mSet 3 (mFl (mComp [4] (mApL rng1 (mCons (mC (.int 4)) (mNil))) (gSet 4) (tYesM) (mOp subV (mOp subV (mVar 1) (mC (.int 1))) (mCall (fn__law_draw Z) (mCons (mVar 0) (mCons (mAp minV (mCons (mVar 1) (mCons (mC (.int 4)) (mNil)))) (mNil)))))))) (mSeq (mIf (mTst (mOp ltV (mVar 2) (mC (.int 7)))) (mRet (mAp tupV (mCons (mC (.str "group")) (mCons (mIx (mVar 3) (mC (.int 0))) (mNil))))) (mNx)) (mSeq (mIf (mTst (mOp eqV (mVar 2) (mC (.int 7)))) (mRet (mAp tupV (mCons (mC (.str "nest")) (mCons (mCall (fn__law_draw Z) (mCons (mVar 0) (mCons (mC (.int 5)) (mNil)))) (mCons (mIx (mVar 3) (mC (.int 0))) (mNil)))))) (mNx)) (mRet (mIfE (mTst (mOp eqV (mVar 2) (mC (.int 8)))) (mAp tupV (mCons (mC (.str "align")) (mCons (mIx (mVar 3) (mC (.int 0))) (mNil)))) (mAp tupV (mCons (mC (.str "cat")) (mCons (mSl (mOp addV (mVar 3) (mVar 3)) mNoPart (mPart (mCall (fn__law_pick Z) (mCons (mVar 0) (mCons (mAp lstV (mCons (mC (.int 2)) (mCons (mC (.int 3)) (mCons (mC (.int 4)) (mCons (mC (.int 1)) (mCons (mC (.int 0)) (mCons (mC (.int 3)) (mCons (mC (.int 8)) (mNil))))))))) (mNil)))))) (mNil))))))))))
def fn__law_row (Z : Ad) : Fn := ar 2 (runF 5 (m__law_row Z))
theorem ok__law_row {f : Addr} {fd : FuncData} (F : Fun K "_law_row" "_law_row" s__law_row f fd) (T : Txt K w mg Z) {f__law_draw : Addr} {d__law_draw : FuncData} (B__law_draw : FnB K mg "_law_draw" s__law_draw ["_law_well_here", "_law_most"] f__law_draw d__law_draw) (G__law_draw : FnOk P w K mg base CX0 1 f__law_draw d__law_draw ["_law_well_here", "_law_most"] (spF K (fn__law_draw Z))) {f__law_pick : Addr} {d__law_pick : FuncData} (B__law_pick : FnB K mg "_law_pick" s__law_pick ["_law_well_here", "_law_some"] f__law_pick d__law_pick) (G__law_pick : FnOk P w K mg base CX0 2 f__law_pick d__law_pick ["_law_well_here", "_law_some"] (spF K (fn__law_pick Z))) : FnOk P w K mg base CX0 3 f fd ["_law_well_here", "_law_k"] (spF K (fn__law_row Z)) := by
  have S := sc__law_row
  exact okM0 (k := 2) F S fun cdv A outer s H E Θ hr hK hE => (ss_cons (s_set (i := 2) S.nd rfl (by first | exact Or.inl rfl | exact Or.inr rfl) (e_ifExp (t_cmp op_gtV cmpV_ok (e_var 1) e_int (nomark _)) (c_call B__law_draw G__law_draw hr (by decide) rfl hK hE (a_cons (e_var 0) (a_cons e_int a_nil))) (c_call B__law_draw G__law_draw hr (by decide) rfl hK hE (a_cons (e_var 0) (a_cons e_int a_nil))))) (ss_cons (s_if (t_cmp op_ltV cmpV_ok (e_var 2) e_int (nomark _)) (ss_cons (s_set (i := 3) S.nd rfl (by first | exact Or.inl rfl | exact Or.inr rfl) (e_lst (a_cons (e_tup (a_cons e_str (a_cons e_str a_nil))) (a_cons (e_tup (a_cons e_str (a_cons e_str a_nil))) (a_cons (e_tup (a_cons e_str (a_cons e_str a_nil))) (a_cons (e_tup (a_cons e_str (a_cons e_str a_nil))) (a_cons (e_tup (a_cons e_str (a_cons e_str a_nil))) (a_cons (e_tup (a_cons e_str (a_cons e_str a_nil))) a_nil)))))))) (ss_one (s_ret (c_call B__law_pick G__law_pick hr (by decide) rfl hK hE (a_cons (e_var 0) (a_cons (e_add hK (e_var 3) (e_lst (a_cons (e_tup (a_cons e_str (a_cons e_str a_nil))) (a_cons (e_tup (a_cons e_str (a_cons e_str a_nil))) (a_cons (e_tup (a_cons e_str a_nil)) a_nil))))) a_nil)))))) ss_nil) (ss_cons (s_setC (i := 3) (own := [("_law_j", 4)]) (us := [4]) (g := gSet 4) (t := tYesM) (me := mOp subV (mOp subV (mVar 1) (mC (.int 1))) (mCall (fn__law_draw Z) (mCons (mVar 0) (mCons (mAp minV (mCons (mVar 1) (mCons (mC (.int 4)) (mNil)))) (mNil))))) rfl S.nd hK rfl rfl (sw_true rfl rfl rfl (by decide +kernel)) (i_range1 rfl T.n_range (a_cons e_int a_nil)) (blkOk_by (N := ["_law_well_here", "_law_k", "_law_way", "_law_some", "_law_j"]) (sc := defScope s__law_row) (by decide +kernel)) (by decide) (fun _ _ _ _ _ Θ2 hS => by have hK := hS.1; have hE := hS.2; exact (g_name (i := 4) S.nd rfl (by first | exact Or.inl rfl | exact Or.inr rfl))) (fun _ _ _ _ _ Θ2 hS => by have hK := hS.1; have hE := hS.2; exact p_none) (fun _ _ _ _ _ Θ2 hS => by have hK := hS.1; have hE := hS.2; exact (e_sub (e_sub (e_var 1) e_int) (c_call B__law_draw G__law_draw hr (by decide) rfl hK hE (a_cons (e_var 0) (a_cons (e_callB (call_minV rfl) (minV_ok hK) rfl T.n_min (by rfl) (a_cons (e_var 1) (a_cons e_int a_nil))) a_nil)))))) (ss_cons (s_if (t_cmp op_ltV cmpV_ok (e_var 2) e_int (nomark _)) (ss_one (s_ret (e_tup (a_cons e_str (a_cons (e_ixM hK (e_var 3) e_int (fun _ _ => rfl)) a_nil))))) ss_nil) (ss_cons (s_if (t_cmp (op_eqV' hr.units) (eqV_ok hK) (e_var 2) e_int (nomark _)) (ss_one (s_ret (e_tup (a_cons e_str (a_cons (c_call B__law_draw G__law_draw hr (by decide) rfl hK hE (a_cons (e_var 0) (a_cons e_int a_nil))) (a_cons (e_ixM hK (e_var 3) e_int (fun _ _ => rfl)) a_nil)))))) ss_nil) (ss_one (s_ret (e_ifExp (t_cmp (op_eqV' hr.units) (eqV_ok hK) (e_var 2) e_int (nomark _)) (e_tup (a_cons e_str (a_cons (e_ixM hK (e_var 3) e_int (fun _ _ => rfl)) a_nil))) (e_tup (a_cons e_str (a_cons (e_slice hK (e_add hK (e_var 3) (e_var 3)) o_none (o_some (c_call B__law_pick G__law_pick hr (by decide) rfl hK hE (a_cons (e_var 0) (a_cons (e_lst (a_cons e_int (a_cons e_int (a_cons e_int (a_cons e_int (a_cons e_int (a_cons e_int (a_cons e_int a_nil)))))))) a_nil))))) a_nil)))))))))))
abbrev s_Doc___init__ : Stmt := inClass (topS 20) 0
theorem sc_Doc___init__ : FnScope ["self", "rows", "number", "row"] ["self", "rows"] (defScope s_Doc___init__) := ⟨rfl, rfl, rfl, by decide +kernel, rfl, by decide +kernel, by decide +kernel⟩
def m_Doc___init___r1 (Z : Ad) : M Flw := mSeq (mSelf Z.Doc "rows" (mFl (mComp [3] (mItL (mVar 1)) (gSet 3) (tYesM) (mCall (fn_copied_row Z) (mCons (mVar 3) (mNil)))))) (mSelf Z.Doc "layouts" (mC .fd))
def m_Doc___init__ (Z : Ad) : M Flw := mSeq (mIf (mOrT (mNotT (mTst (mAp isiV (mCons (mVar 1) (mCons (mC (.ty "list")) (mNil)))))) (mNotT (mTst (mChain leV leV (mC (.int 1)) (mAp lenV (mCons (mVar 1) (mNil))) (mC (.int 200)))))) (mNever) (mNx)) (mSeq (mFor (mApL enm (mCons (mVar 1) (mNil))) (gTp 2 (gCs (gSet 2) (gCs (gSet 3) (gNl)))) (mIf (mNotT (mTst (mCall (fn_is_row Z) (mCons (mVar 3) (mCons (mVar 2) (mNil)))))) (mNever) (mNx))) (m_Doc___init___r1 Z))
def fn_Doc___init__ (Z : Ad) : FnI := runI 4 2 Z.Doc (m_Doc___init__ Z)
theorem ok_Doc___init__ {f : Addr} {fd : FuncData} (F : Fun K "__init__" "Doc.__init__" s_Doc___init__ f fd) (T : Txt K w mg Z) {f_copied_row : Addr} {d_copied_row : FuncData} (B_copied_row : FnB K mg "copied_row" s_copied_row ["row"] f_copied_row d_copied_row) (G_copied_row : FnOk P w K mg base CX0 1 f_copied_row d_copied_row ["row"] (spF K (fn_copied_row Z))) {f_is_row : Addr} {d_is_row : FuncData} (B_is_row : FnB K mg "is_row" s_is_row ["value", "number"] f_is_row d_is_row) (G_is_row : FnOk P w K mg base CX0 3 f_is_row d_is_row ["value", "number"] (spF K (fn_is_row Z))) : FnOk P w K mg base CX0 4 f fd ["self", "rows"] (spI K Z.Doc (fn_Doc___init__ Z)) := by
  have S := sc_Doc___init__
  exact okI0 (C := Z.Doc) (k := 3) F S fun cdv A outer s H E Θ hr hK hE => (ss_cons (s_if (PW.pt (w_or (t_not (t_val (e_callB call_isi (isiV_ok hK) rfl T.n_isinstance (by rfl) (a_cons (e_var 1) (a_cons (e_bty rfl T.n_list (by rfl)) a_nil))))) (w_or1 (t_not (t_chain op_leV cmpV_ok op_leV cmpV_ok e_int (e_callB call_lenV (lenV_ok hK) rfl T.n_len (by rfl) (a_cons (e_var 1) a_nil)) (e_gint T.c_MOST_ROWS rfl)))))) (ss_one s_never) ss_nil) (ss_cons (s_for PassesOwn.never rfl (i_enum hK rfl T.n_enumerate (a_cons (e_var 1) a_nil)) (g_tup (n := 2) hK rfl (gs_cons (g_name (i := 2) S.nd rfl (by first | exact Or.inl rfl | exact Or.inr rfl)) (gs_cons (g_name (i := 3) S.nd rfl (by first | exact Or.inl rfl | exact Or.inr rfl)) gs_nil))) (ss_one (s_if (t_not (t_val (c_call B_is_row G_is_row hr (by decide) rfl hK hE (a_cons (e_var 3) (a_cons (e_var 2) a_nil))))) (ss_one s_never) ss_nil))) (ss_cons (s_self (C := Z.Doc) rfl (Or.inl rfl) T.cl_Doc T.na_Doc_rows (e_new (n_comp (own := [("row", 3)]) (us := [3]) (g := gSet 3) (t := tYesM) (me := mCall (fn_copied_row Z) (mCons (mVar 3) (mNil))) rfl S.nd hK (i_list hK (e_var 1)) (blkOk_by (N := ["self", "rows", "number", "row"]) (sc := defScope s_Doc___init__) (by decide +kernel)) (by decide) (fun _ _ _ _ _ Θ2 hS => by have hK := hS.1; have hE := hS.2; exact (g_name (i := 3) S.nd rfl (by first | exact Or.inl rfl | exact Or.inr rfl))) (fun _ _ _ _ _ Θ2 hS => by have hK := hS.1; have hE := hS.2; exact p_none) (fun _ _ _ _ _ Θ2 hS => by have hK := hS.1; have hE := hS.2; exact (c_call B_copied_row G_copied_row hr (by decide) rfl hK hE (a_cons (e_var 3) a_nil))))) rfl) (ss_one (s_self (C := Z.Doc) rfl (Or.inl rfl) T.cl_Doc T.na_Doc_layouts e_fd rfl)))))
abbrev s_check_row : Stmt := topS 25
theorem sc_check_row : FnScope ["doc", "at"] ["doc", "at"] (defScope s_check_row) := ⟨rfl, rfl, rfl, by decide +kernel, rfl, by decide +kernel, by decide +kernel⟩
def m_check_row (Z : Ad) : M Flw := mSeq (mDrop (mCall (fn_check_doc Z) (mCons (mVar 0) (mNil)))) (mDrop (mCall (fn_check_between Z) (mCons (mC (.str "at")) (mCons (mVar 1) (mCons (mC (.int 0)) (mCons (mOp subV (mAp lenV (mCons (mFld Z.Doc "rows" (mVar 0)) (mNil))) (mC (.int 1))) (mNil)))))))
def fn_check_row (Z : Ad) : Fn := ar 2 (runF 2 (m_check_row Z))
theorem ok_check_row {f : Addr} {fd : FuncData} (F : Fun K "check_row" "check_row" s_check_row f fd) (T : Txt K w mg Z) {f_check_between : Addr} {d_check_between : FuncData} (B_check_between : FnB K mg "check_between" s_check_between ["argument", "value", "low", "high"] f_check_between d_check_between) (G_check_between : FnOk P w K mg base CX0 3 f_check_between d_check_between ["argument", "value", "low", "high"] (spF K (fn_check_between Z))) {f_check_doc : Addr} {d_check_doc : FuncData} (B_check_doc : FnB K mg "check_doc" s_check_doc ["doc"] f_check_doc d_check_doc) (G_check_doc : FnOk P w K mg base CX0 1 f_check_doc d_check_doc ["doc"] (spF K (fn_check_doc Z))) : FnOk P w K mg base CX0 4 f fd ["doc", "at"] (spF K (fn_check_row Z)) := by
  have S := sc_check_row
  exact okM0 (k := 3) F S fun cdv A outer s H E Θ hr hK hE => (ss_cons (s_drop (c_call B_check_doc G_check_doc hr (by decide) rfl hK hE (a_cons (e_var 0) a_nil))) (ss_one (s_drop (c_call B_check_between G_check_between hr (by decide) rfl hK hE (a_cons e_str (a_cons (e_var 1) (a_cons e_int (a_cons (e_sub (e_callB call_lenV (lenV_ok hK) rfl T.n_len (by rfl) (a_cons (e_fld hK T.cl_Doc T.na_Doc_rows (e_var 0)) a_nil)) e_int) a_nil))))))))
abbrev s_chosen_path : Stmt := topS 29
theorem sc_chosen_path : FnScope ["rows", "chosen", "k", "totals", "at", "left", "path", "step"] ["rows", "chosen", "k"] (defScope s_chosen_path) := ⟨rfl, rfl, rfl, by decide +kernel, rfl, by decide +kernel, by decide +kernel⟩
def m_chosen_path (Z : Ad) : M Flw := mSeq (mSet 3 (mCall (fn_chosen_totals Z) (mCons (mVar 0) (mCons (mVar 1) (mNil))))) (mSeq (mDrop (mCall (fn_check_between Z) (mCons (mC (.str "k")) (mCons (mVar 2) (mCons (mC (.int 0)) (mCons (mOp subV (mIx (mVar 3) (mUn negV (mC (.int 1)))) (mC (.int 1))) (mNil))))))) (mSeq (mParVVN 4 5 6 (mOp subV (mAp lenV (mCons (mVar 0) (mNil))) (mC (.int 1))) (mVar 2) (mApL szL (mNil))) (mSeq (mWhile fuel (mOrT (mTst (mOp gtV (mVar 5) (mC (.int 0)))) (mNotT (mTst (mIx (mVar 1) (mVar 4))))) (mSeq (mSet 5 (mOp subV (mVar 5) (mAp intV (mCons (mIx (mVar 1) (mVar 4)) (mNil))))) (mSeq (mSet 7 (mC (.int 0))) (mSeq (mWhile fuel (mTst (mOp geV (mVar 5) (mIx (mVar 3) (mIx (mCall (fn_parts_of Z) (mCons (mIx (mVar 0) (mVar 4)) (mNil))) (mVar 7))))) (mSeq (mSet 5 (mOp subV (mVar 5) (mIx (mVar 3) (mIx (mCall (fn_parts_of Z) (mCons (mIx (mVar 0) (mVar 4)) (mNil))) (mVar 7))))) (mSet 7 (mOp addV (mVar 7) (mC (.int 1)))))) (mSeq (mApp 6 (mVar 7)) (mSet 4 (mIx (mCall (fn_parts_of Z) (mCons (mIx (mVar 0) (mVar 4)) (mNil))) (mVar 7)))))))) (mFz 6 (mRet (mAp tupleV (mCons (mVar 6) (mNil))))))))
def fn_chosen_path (Z : Ad) : Fn := ar 3 (runF 8 (m_chosen_path Z))
theorem ok_chosen_path {f : Addr} {fd : FuncData} (F : Fun K "chosen_path" "chosen_path" s_chosen_path f fd) (T : Txt K w mg Z) {f_check_between : Addr} {d_check_between : FuncData} (B_check_between : FnB K mg "check_between" s_check_between ["argument", "value", "low", "high"] f_check_between d_check_between) (G_check_between : FnOk P w K mg base CX0 3 f_check_between d_check_between ["argument", "value", "low", "high"] (spF K (fn_check_between Z))) {f_chosen_totals : Addr} {d_chosen_totals : FuncData} (B_chosen_totals : FnB K mg "chosen_totals" s_chosen_totals ["rows", "chosen"] f_chosen_totals d_chosen_totals) (G_chosen_totals : FnOk P w K mg base CX0 2 f_chosen_totals d_chosen_totals ["rows", "chosen"] (spF K (fn_chosen_totals Z))) {f_parts_of : Addr} {d_parts_of : FuncData} (B_parts_of : FnB K mg "parts_of" s_parts_of ["row"] f_parts_of d_parts_of) (G_parts_of : FnOk P w K mg base CX0 1 f_parts_of d_parts_of ["row"] (spF K (fn_parts_of Z))) : FnOk P w K mg base CX0 4 f fd ["rows", "chosen", "k"] (spF K (fn_chosen_path Z)) := by
  have S := sc_chosen_path
  exact okM0 (k := 3) F S fun cdv A outer s H E Θ hr hK hE => (ss_cons (s_set (i := 3) S.nd rfl (by first | exact Or.inl rfl | exact Or.inr rfl) (c_call B_chosen_totals G_chosen_totals hr (by decide) rfl hK hE (a_cons (e_var 0) (a_cons (e_var 1) a_nil)))) (ss_cons (s_drop (c_call B_check_between G_check_between hr (by decide) rfl hK hE (a_cons e_str (a_cons (e_var 2) (a_cons e_int (a_cons (e_sub (e_ixM hK (e_var 3) (e_neg e_int) (fun _ _ => rfl)) e_int) a_nil)))))) (ss_cons (s_parVVN (i := 4) (j := 5) (k := 6) rfl S.nd rfl rfl rfl (by decide) (by decide) (by decide) rfl rfl rfl (e_sub (e_callB call_lenV (lenV_ok hK) rfl T.n_len (by rfl) (a_cons (e_var 0) a_nil)) e_int) (e_var 2) (n_lst a_nil) rfl) (ss_cons (s_while PassesOwn.never (PW.pt (w_or (t_cmp op_gtV cmpV_ok (e_var 5) e_int (nomark _)) (w_or1 (t_not (t_val (e_ixM hK (e_var 1) (e_var 4) (fun _ _ => rfl))))))) (ss_cons (s_set (i := 5) S.nd rfl (by first | exact Or.inl rfl | exact Or.inr rfl) (e_sub (e_var 5) (e_callTy call_int1 intV_ok rfl T.n_int (by rfl) (a_cons (e_ixM hK (e_var 1) (e_var 4) (fun _ _ => rfl)) a_nil)))) (ss_cons (s_set (i := 7) S.nd rfl (by first | exact Or.inl rfl | exact Or.inr rfl) e_int) (ss_cons (s_while PassesOwn.never (t_cmp op_geV cmpV_ok (e_var 5) (e_ixM hK (e_var 3) (e_ixM hK (c_call B_parts_of G_parts_of hr (by decide) rfl hK hE (a_cons (e_ixM hK (e_var 0) (e_var 4) (fun _ _ => rfl)) a_nil)) (e_var 7) (fun _ _ => rfl)) (fun _ _ => rfl)) (nomark _)) (ss_cons (s_set (i := 5) S.nd rfl (by first | exact Or.inl rfl | exact Or.inr rfl) (e_sub (e_var 5) (e_ixM hK (e_var 3) (e_ixM hK (c_call B_parts_of G_parts_of hr (by decide) rfl hK hE (a_cons (e_ixM hK (e_var 0) (e_var 4) (fun _ _ => rfl)) a_nil)) (e_var 7) (fun _ _ => rfl)) (fun _ _ => rfl)))) (ss_one (s_set (i := 7) S.nd rfl (by first | exact Or.inl rfl | exact Or.inr rfl) (e_add hK (e_var 7) e_int))))) (ss_cons (s_app (i := 6) rfl (by first | exact Or.inl rfl | exact Or.inr (Or.inl rfl) | exact Or.inr (Or.inr rfl)) (e_var 7)) (ss_one (s_set (i := 4) S.nd rfl (by first | exact Or.inl rfl | exact Or.inr rfl) (e_ixM hK (c_call B_parts_of G_parts_of hr (by decide) rfl hK hE (a_cons (e_ixM hK (e_var 0) (e_var 4) (fun _ _ => rfl)) a_nil)) (e_var 7) (fun _ _ => rfl))))))))) (ss_fz (i := 6) (ss_one (s_ret (e_callTy call_tuple_of (tupleV_ok hK) rfl T.n_tuple (by rfl) (a_cons (e_var 6) a_nil)))))))))
abbrev s_chosen_pathX : Stmt := topS 29
theorem sc_chosen_pathX : FnScope ["rows", "chosen", "k", "totals", "at", "left", "path", "step"] ["rows", "chosen", "k"] (defScope s_chosen_pathX) := ⟨rfl, rfl, rfl, by decide +kernel, rfl, by decide +kernel, by decide +kernel⟩
def m_chosen_pathX (Z : Ad) : M Flw := mSeq (mSet 3 (mCall (fn_chosen_totals Z) (mCons (mVar 0) (mCons (mVar 1) (mNil))))) (mSeq (mDrop (mCall (fn_check_betweenX Z) (mCons (mC (.str "k")) (mCons (mVar 2) (mCons (mC (.int 0)) (mCons (mOp subV (mIx (mVar 3) (mUn negV (mC (.int 1)))) (mC (.int 1))) (mNil))))))) (mSeq (mParVVN 4 5 6 (mOp subV (mAp lenV (mCons (mVar 0) (mNil))) (mC (.int 1))) (mVar 2) (mApL szL (mNil))) (mSeq (mWhile fuel (mOrT (mTst (mOp gtV (mVar 5) (mC (.int 0)))) (mNotT (mTst (mIx (mVar 1) (mVar 4))))) (mSeq (mSet 5 (mOp subV (mVar 5) (mAp intV (mCons (mIx (mVar 1) (mVar 4)) (mNil))))) (mSeq (mSet 7 (mC (.int 0))) (mSeq (mWhile fuel (mTst (mOp geV (mVar 5) (mIx (mVar 3) (mIx (mCall (fn_parts_of Z) (mCons (mIx (mVar 0) (mVar 4)) (mNil))) (mVar 7))))) (mSeq (mSet 5 (mOp subV (mVar 5) (mIx (mVar 3) (mIx (mCall (fn_parts_of Z) (mCons (mIx (mVar 0) (mVar 4)) (mNil))) (mVar 7))))) (mSet 7 (mOp addV (mVar 7) (mC (.int 1)))))) (mSeq (mApp 6 (mVar 7)) (mSet 4 (mIx (mCall (fn_parts_of Z) (mCons (mIx (mVar 0) (mVar 4)) (mNil))) (mVar 7)))))))) (mFz 6 (mRet (mAp tupleV (mCons (mVar 6) (mNil))))))))
def fn_chosen_pathX (Z : Ad) : Fn := ar 3 (runF 8 (m_chosen_pathX Z))
theorem ok_chosen_pathX {f : Addr} {fd : FuncData} (F : Fun K "chosen_path" "chosen_path" s_chosen_pathX f fd) (T : Txt K w mg Z) {f_check_betweenX : Addr} {d_check_betweenX : FuncData} (B_check_betweenX : FnB K mg "check_between" s_check_betweenX ["argument", "value", "low", "high"] f_check_betweenX d_check_betweenX) (G_check_betweenX : FnOk P w K mg base (L2.CX P w) 3 f_check_betweenX d_check_betweenX ["argument", "value", "low", "high"] (spF K (fn_check_betweenX Z))) {f_chosen_totals : Addr} {d_chosen_totals : FuncData} (B_chosen_totals : FnB K mg "chosen_totals" s_chosen_totals ["rows", "chosen"] f_chosen_totals d_chosen_totals) (G_chosen_totals : FnOk P w K mg base CX0 2 f_chosen_totals d_chosen_totals ["rows", "chosen"] (spF K (fn_chosen_totals Z))) {f_parts_of : Addr} {d_parts_of : FuncData} (B_parts_of : FnB K mg "parts_of" s_parts_of ["row"] f_parts_of d_parts_of) (G_parts_of : FnOk P w K mg base CX0 1 f_parts_of d_parts_of ["row"] (spF K (fn_parts_of Z))) : FnOk P w K mg base (L2.CX P w) 4 f fd ["rows", "chosen", "k"] (spF K (fn_chosen_pathX Z)) := by
  have S := sc_chosen_pathX
  exact okMx (k := 3) F S fun cdv A outer s H E Θ hr hK hE tk hp => (ss_cons (s_set (i := 3) S.nd rfl (by first | exact Or.inl rfl | exact Or.inr rfl) (c_call B_chosen_totals G_chosen_totals hr (by decide) rfl hK hE (a_cons (e_var 0) (a_cons (e_var 1) a_nil)))) (ss_cons (s_drop (c_callx tk B_check_betweenX G_check_betweenX hr (by decide) rfl hK hE (a_cons e_str (a_cons (e_var 2) (a_cons e_int (a_cons (e_sub (e_ixM hK (e_var 3) (e_neg e_int) (fun _ _ => rfl)) e_int) a_nil)))))) (ss_cons (s_parVVN (i := 4) (j := 5) (k := 6) rfl S.nd rfl rfl rfl (by decide) (by decide) (by decide) rfl rfl rfl (e_sub (e_callB call_lenV (lenV_ok hK) rfl T.n_len (by rfl) (a_cons (e_var 0) a_nil)) e_int) (e_var 2) (n_lst a_nil) rfl) (ss_cons (s_while hp (PW.pt (w_or (t_cmp op_gtV cmpV_ok (e_var 5) e_int (nomark _)) (w_or1 (t_not (t_val (e_ixM hK (e_var 1) (e_var 4) (fun _ _ => rfl))))))) (ss_cons (s_set (i := 5) S.nd rfl (by first | exact Or.inl rfl | exact Or.inr rfl) (e_sub (e_var 5) (e_callTy call_int1 intV_ok rfl T.n_int (by rfl) (a_cons (e_ixM hK (e_var 1) (e_var 4) (fun _ _ => rfl)) a_nil)))) (ss_cons (s_set (i := 7) S.nd rfl (by first | exact Or.inl rfl | exact Or.inr rfl) e_int) (ss_cons (s_while hp (t_cmp op_geV cmpV_ok (e_var 5) (e_ixM hK (e_var 3) (e_ixM hK (c_call B_parts_of G_parts_of hr (by decide) rfl hK hE (a_cons (e_ixM hK (e_var 0) (e_var 4) (fun _ _ => rfl)) a_nil)) (e_var 7) (fun _ _ => rfl)) (fun _ _ => rfl)) (nomark _)) (ss_cons (s_set (i := 5) S.nd rfl (by first | exact Or.inl rfl | exact Or.inr rfl) (e_sub (e_var 5) (e_ixM hK (e_var 3) (e_ixM hK (c_call B_parts_of G_parts_of hr (by decide) rfl hK hE (a_cons (e_ixM hK (e_var 0) (e_var 4) (fun _ _ => rfl)) a_nil)) (e_var 7) (fun _ _ => rfl)) (fun _ _ => rfl)))) (ss_one (s_set (i := 7) S.nd rfl (by first | exact Or.inl rfl | exact Or.inr rfl) (e_add hK (e_var 7) e_int))))) (ss_cons (s_app (i := 6) rfl (by first | exact Or.inl rfl | exact Or.inr (Or.inl rfl) | exact Or.inr (Or.inr rfl)) (e_var 7)) (ss_one (s_set (i := 4) S.nd rfl (by first | exact Or.inl rfl | exact Or.inr rfl) (e_ixM hK (c_call B_parts_of G_parts_of hr (by decide) rfl hK hE (a_cons (e_ixM hK (e_var 0) (e_var 4) (fun _ _ => rfl)) a_nil)) (e_var 7) (fun _ _ => rfl))))))))) (ss_fz (i := 6) (ss_one (s_ret (e_callTy call_tuple_of (tupleV_ok hK) rfl T.n_tuple (by rfl) (a_cons (e_var 6) a_nil)))))))))
abbrev s_number_at_row : Stmt := topS 33
theorem sc_number_at_row : FnScope ["doc", "path", "at"] ["doc", "path"] (defScope s_number_at_row) := ⟨rfl, rfl, rfl, by decide +kernel, rfl, by decide +kernel, by decide +kernel⟩
def m_number_at_row (Z : Ad) : M Flw := mSeq (mSet 2 (mCall (fn_row_at Z) (mCons (mVar 0) (mCons (mVar 1) (mNil))))) (mRet (mCall (fn_chosen_ahead Z) (mCons (mFld Z.Doc "rows" (mVar 0)) (mCons (mCall (fn_only_row Z) (mCons (mVar 0) (mCons (mVar 2) (mNil)))) (mCons (mVar 1) (mNil))))))
def fn_number_at_row (Z : Ad) : Fn := ar 2 (runF 3 (m_number_at_row Z))
theorem ok_number_at_row {f : Addr} {fd : FuncData} (F : Fun K "number_at_row" "number_at_row" s_number_at_row f fd) (T : Txt K w mg Z) {f_chosen_ahead : Addr} {d_chosen_ahead : FuncData} (B_chosen_ahead : FnB K mg "chosen_ahead" s_chosen_ahead ["rows", "chosen", "path"] f_chosen_ahead d_chosen_ahead) (G_chosen_ahead : FnOk P w K mg base CX0 3 f_chosen_ahead d_chosen_ahead ["rows", "chosen", "path"] (spF K (fn_chosen_ahead Z))) {f_only_row : Addr} {d_only_row : FuncData} (B_only_row : FnB K mg "only_row" s_only_row ["doc", "at"] f_only_row d_only_row) (G_only_row : FnOk P w K mg base CX0 1 f_only_row d_only_row ["doc", "at"] (spF K (fn_only_row Z))) {f_row_at : Addr} {d_row_at : FuncData} (B_row_at : FnB K mg "row_at" s_row_at ["doc", "path"] f_row_at d_row_at) (G_row_at : FnOk P w K mg base CX0 3 f_row_at d_row_at ["doc", "path"] (spF K (fn_row_at Z))) : FnOk P w K mg base CX0 4 f fd ["doc", "path"] (spF K (fn_number_at_row Z)) := by
  have S := sc_number_at_row
  exact okM0 (k := 3) F S fun cdv A outer s H E Θ hr hK hE => (ss_cons (s_set (i := 2) S.nd rfl (by first | exact Or.inl rfl | exact Or.inr rfl) (c_call B_row_at G_row_at hr (by decide) rfl hK hE (a_cons (e_var 0) (a_cons (e_var 1) a_nil)))) (ss_one (s_ret (c_call B_chosen_ahead G_chosen_ahead hr (by decide) rfl hK hE (a_cons (e_fld hK T.cl_Doc T.na_Doc_rows (e_var 0)) (a_cons (c_call B_only_row G_only_row hr (by decide) rfl hK hE (a_cons (e_var 0) (a_cons (e_var 2) a_nil))) (a_cons (e_var 1) a_nil)))))))
abbrev s__law_rows : Stmt := topS 40
theorem sc__law_rows : FnScope ["_law_well_here", "_law_found", "_law_sizes", "_law_turn", "_law_row_here", "_law_size", "_law_j", "_law_part"] ["_law_well_here"] (defScope s__law_rows) := ⟨rfl, rfl, rfl, by decide +kernel, rfl, by decide +kernel, by decide +kernel⟩
def m__law_rows (Z : Ad) : M Flw := mSeq (mParNN 1 2 (mApL szL (mNil)) (mApL szL (mNil))) (mSeq (mFor (mApL rng1 (mCons (mOp addV (mC (.int 5)) (mCall (fn__law_draw Z) (mCons (mVar 0) (mCons (mC (.int 12)) (mNil))))) (mNil))) (gSet 3) (mSeq (mSet 4 (mCall (fn__law_row Z) (mCons (mVar 0) (mCons (mOwnA lenV 1) (mNil))))) (mSeq (mIf (mTst (mOp eqV (mVar 3) (mC (.int 4)))) (mSet 4 (mAp tupV (mCons (mC (.str "cat")) (mCons (mFl (mComp [6] (mApL rng1 (mCons (mAp minV (mCons (mC (.int 3)) (mCons (mOwnA lenV 1) (mNil)))) (mNil))) (gSet 6) (tYesM) (mOp subV (mOp subV (mOwnA lenV 1) (mC (.int 1))) (mVar 6)))) (mNil))))) (mNx)) (mSeq (mSet 5 (mOp addV (mC (.int 1)) (mAp sumV (mCons (mFl (mComp [7] (mItL (mCall (fn__law_below Z) (mCons (mVar 4) (mNil)))) (gSet 7) (tYesM) (mOwnIx 2 (mVar 7)))) (mNil))))) (mIf (mTst (mOp leV (mVar 5) (mC (.int 150)))) (mSeq (mApp 1 (mVar 4)) (mApp 2 (mVar 5))) (mNx)))))) (mFz 1 (mFz 2 (mRet (mVar 1)))))
def fn__law_rows (Z : Ad) : Fn := ar 1 (runF 8 (m__law_rows Z))
theorem ok__law_rows {f : Addr} {fd : FuncData} (F : Fun K "_law_rows" "_law_rows" s__law_rows f fd) (T : Txt K w mg Z) {f__law_below : Addr} {d__law_below : FuncData} (B__law_below : FnB K mg "_law_below" s__law_below ["_law_row_here"] f__law_below d__law_below) (G__law_below : FnOk P w K mg base CX0 1 f__law_below d__law_below ["_law_row_here"] (spF K (fn__law_below Z))) {f__law_draw : Addr} {d__law_draw : FuncData} (B__law_draw : FnB K mg "_law_draw" s__law_draw ["_law_well_here", "_law_most"] f__law_draw d__law_draw) (G__law_draw : FnOk P w K mg base CX0 1 f__law_draw d__law_draw ["_law_well_here", "_law_most"] (spF K (fn__law_draw Z))) {f__law_row : Addr} {d__law_row : FuncData} (B__law_row : FnB K mg "_law_row" s__law_row ["_law_well_here", "_law_k"] f__law_row d__law_row) (G__law_row : FnOk P w K mg base CX0 3 f__law_row d__law_row ["_law_well_here", "_law_k"] (spF K (fn__law_row Z))) : FnOk P w K mg base CX0 4 f fd ["_law_well_here"] (spF K (fn__law_rows Z)) := by
  have S := sc__law_rows
  exact okM0 (k := 3) F S fun cdv A outer s H E Θ hr hK hE => (ss_cons (s_asgNN (i := 1) (j := 2) hK rfl S.nd rfl rfl (by first | exact Or.inl rfl | exact Or.inr rfl) (by first | exact Or.inl rfl | exact Or.inr rfl) (n_lst a_nil) (fun Θ2 hS => by have hK := hS.1; have hE := hS.2; exact (n_lst a_nil)) rfl rfl rfl) (ss_cons (s_for PassesOwn.never rfl (i_range1 rfl T.n_range (a_cons (e_add hK e_int (c_call B__law_draw G__law_draw hr (by decide) rfl hK hE (a_cons (e_var 0) (a_cons e_int a_nil)))) a_nil)) (g_name (i := 3) S.nd rfl (by first | exact Or.inl rfl | exact Or.inr rfl)) (ss_cons (s_set (i := 4) S.nd rfl (by first | exact Or.inl rfl | exact Or.inr rfl) (c_call B__law_row G__law_row hr (by decide) rfl hK hE (a_cons (e_var 0) (a_cons (e_ownB (i := 1) rfl (by first | exact Or.inl rfl | exact Or.inr (Or.inl rfl) | exact Or.inr (Or.inr rfl)) call_lenV (lenV_ok hK) rfl T.n_len (by rfl)) a_nil)))) (ss_cons (s_if (t_cmp (op_eqV' hr.units) (eqV_ok hK) (e_var 3) e_int (nomark _)) (ss_one (s_set (i := 4) S.nd rfl (by first | exact Or.inl rfl | exact Or.inr rfl) (e_tup (a_cons e_str (a_cons (e_new (n_comp (own := [("_law_j", 6)]) (us := [6]) (g := gSet 6) (t := tYesM) (me := mOp subV (mOp subV (mOwnA lenV 1) (mC (.int 1))) (mVar 6)) rfl S.nd hK (i_range1 rfl T.n_range (a_cons (e_callB (call_minV rfl) (minV_ok hK) rfl T.n_min (by rfl) (a_cons e_int (a_cons (e_ownB (i := 1) rfl (by first | exact Or.inl rfl | exact Or.inr (Or.inl rfl) | exact Or.inr (Or.inr rfl)) call_lenV (lenV_ok hK) rfl T.n_len (by rfl)) a_nil))) a_nil)) (blkOk_by (N := ["_law_well_here", "_law_found", "_law_sizes", "_law_turn", "_law_row_here", "_law_size", "_law_j", "_law_part"]) (sc := defScope s__law_rows) (by decide +kernel)) (by decide) (fun _ _ _ _ _ Θ2 hS => by have hK := hS.1; have hE := hS.2; exact (g_name (i := 6) S.nd rfl (by first | exact Or.inl rfl | exact Or.inr rfl))) (fun _ _ _ _ _ Θ2 hS => by have hK := hS.1; have hE := hS.2; exact p_none) (fun _ _ _ _ _ Θ2 hS => by have hK := hS.1; have hE := hS.2; exact (e_sub (e_sub (e_ownB (i := 1) rfl (by first | exact Or.inl rfl | exact Or.inr (Or.inl rfl) | exact Or.inr (Or.inr rfl)) call_lenV (lenV_ok hK) rfl T.n_len (by rfl)) e_int) (e_var 6))))) a_nil))))) ss_nil) (ss_cons (s_set (i := 5) S.nd rfl (by first | exact Or.inl rfl | exact Or.inr rfl) (e_add hK e_int (e_callB (cr_sum rfl) (sumV_ok hK) rfl T.n_sum (by rfl) (a_cons (e_new (n_comp (own := [("_law_part", 7)]) (us := [7]) (g := gSet 7) (t := tYesM) (me := mOwnIx 2 (mVar 7)) rfl S.nd hK (i_list hK (c_call B__law_below G__law_below hr (by decide) rfl hK hE (a_cons (e_var 4) a_nil))) (blkOk_by (N := ["_law_well_here", "_law_found", "_law_sizes", "_law_turn", "_law_row_here", "_law_size", "_law_j", "_law_part"]) (sc := defScope s__law_rows) (by decide +kernel)) (by decide) (fun _ _ _ _ _ Θ2 hS => by have hK := hS.1; have hE := hS.2; exact (g_name (i := 7) S.nd rfl (by first | exact Or.inl rfl | exact Or.inr rfl))) (fun _ _ _ _ _ Θ2 hS => by have hK := hS.1; have hE := hS.2; exact p_none) (fun _ _ _ _ _ Θ2 hS => by have hK := hS.1; have hE := hS.2; exact (e_ownIx (i := 2) hK rfl (by first | exact Or.inl rfl | exact Or.inr (Or.inl rfl) | exact Or.inr (Or.inr rfl)) (e_var 7) (fun _ _ => rfl))))) a_nil)))) (ss_one (s_if (t_cmp op_leV cmpV_ok (e_var 5) e_int (nomark _)) (ss_cons (s_app (i := 1) rfl (by first | exact Or.inl rfl | exact Or.inr (Or.inl rfl) | exact Or.inr (Or.inr rfl)) (e_var 4)) (ss_one (s_app (i := 2) rfl (by first | exact Or.inl rfl | exact Or.inr (Or.inl rfl) | exact Or.inr (Or.inr rfl)) (e_var 5)))) ss_nil)))))) (ss_fz (i := 1) (ss_fz (i := 2) (ss_one (s_ret (e_var 1)))))))
abbrev s_row_copies : Stmt := topS 26
theorem sc_row_copies : FnScope ["doc", "at"] ["doc", "at"] (defScope s_row_copies) := ⟨rfl, rfl, rfl, by decide +kernel, rfl, by decide +kernel, by decide +kernel⟩
def m_row_copies (Z : Ad) : M Flw := mSeq (mDrop (mCall (fn_check_row Z) (mCons (mVar 0) (mCons (mVar 1) (mNil))))) (mRet (mIx (mCall (fn_copy_totals Z) (mCons (mFld Z.Doc "rows" (mVar 0)) (mNil))) (mVar 1)))
def fn_row_copies (Z : Ad) : Fn := ar 2 (runF 2 (m_row_copies Z))
theorem ok_row_copies {f : Addr} {fd : FuncData} (F : Fun K "row_copies" "row_copies" s_row_copies f fd) (T : Txt K w mg Z) {f_check_row : Addr} {d_check_row : FuncData} (B_check_row : FnB K mg "check_row" s_check_row ["doc", "at"] f_check_row d_check_row) (G_check_row : FnOk P w K mg base CX0 4 f_check_row d_check_row ["doc", "at"] (spF K (fn_check_row Z))) {f_copy_totals : Addr} {d_copy_totals : FuncData} (B_copy_totals : FnB K mg "copy_totals" s_copy_totals ["rows"] f_copy_totals d_copy_totals) (G_copy_totals : FnOk P w K mg base CX0 2 f_copy_totals d_copy_totals ["rows"] (spF K (fn_copy_totals Z))) : FnOk P w K mg base CX0 5 f fd ["doc", "at"] (spF K (fn_row_copies Z)) := by
  have S := sc_row_copies
  exact okM0 (k := 4) F S fun cdv A outer s H E Θ hr hK hE => (ss_cons (s_drop (c_call B_check_row G_check_row hr (by decide) rfl hK hE (a_cons (e_var 0) (a_cons (e_var 1) a_nil)))) (ss_one (s_ret (e_ixM hK (c_call B_copy_totals G_copy_totals hr (by decide) rfl hK hE (a_cons (e_fld hK T.cl_Doc T.na_Doc_rows (e_var 0)) a_nil)) (e_var 1) (fun _ _ => rfl)))))
abbrev s_path_at_row : Stmt := topS 32
theorem sc_path_at_row : FnScope ["doc", "at", "k"] ["doc", "at", "k"] (defScope s_path_at_row) := ⟨rfl, rfl, rfl, by decide +kernel, rfl, by decide +kernel, by decide +kernel⟩
def m_path_at_row (Z : Ad) : M Flw := mSeq (mDrop (mCall (fn_check_row Z) (mCons (mVar 0) (mCons (mVar 1) (mNil))))) (mRet (mCall (fn_chosen_path Z) (mCons (mFld Z.Doc "rows" (mVar 0)) (mCons (mCall (fn_only_row Z) (mCons (mVar 0) (mCons (mVar 1) (mNil)))) (mCons (mVar 2) (mNil))))))
def fn_path_at_row (Z : Ad) : Fn := ar 3 (runF 3 (m_path_at_row Z))
theorem ok_path_at_row {f : Addr} {fd : FuncData} (F : Fun K "path_at_row" "path_at_row" s_path_at_row f fd) (T : Txt K w mg Z) {f_check_row : Addr} {d_check_row : FuncData} (B_check_row : FnB K mg "check_row" s_check_row ["doc", "at"] f_check_row d_check_row) (G_check_row : FnOk P w K mg base CX0 4 f_check_row d_check_row ["doc", "at"] (spF K (fn_check_row Z))) {f_chosen_path : Addr} {d_chosen_path : FuncData} (B_chosen_path : FnB K mg "chosen_path" s_chosen_path ["rows", "chosen", "k"] f_chosen_path d_chosen_path) (G_chosen_path : FnOk P w K mg base CX0 4 f_chosen_path d_chosen_path ["rows", "chosen", "k"] (spF K (fn_chosen_path Z))) {f_only_row : Addr} {d_only_row : FuncData} (B_only_row : FnB K mg "only_row" s_only_row ["doc", "at"] f_only_row d_only_row) (G_only_row : FnOk P w K mg base CX0 1 f_only_row d_only_row ["doc", "at"] (spF K (fn_only_row Z))) : FnOk P w K mg base CX0 5 f fd ["doc", "at", "k"] (spF K (fn_path_at_row Z)) := by
  have S := sc_path_at_row
  exact okM0 (k := 4) F S fun cdv A outer s H E Θ hr hK hE => (ss_cons (s_drop (c_call B_check_row G_check_row hr (by decide) rfl hK hE (a_cons (e_var 0) (a_cons (e_var 1) a_nil)))) (ss_one (s_ret (c_call B_chosen_path G_chosen_path hr (by decide) rfl hK hE (a_cons (e_fld hK T.cl_Doc T.na_Doc_rows (e_var 0)) (a_cons (c_call B_only_row G_only_row hr (by decide) rfl hK hE (a_cons (e_var 0) (a_cons (e_var 1) a_nil))) (a_cons (e_var 2) a_nil)))))))
abbrev s_path_at_rowX : Stmt := topS 32
theorem sc_path_at_rowX : FnScope ["doc", "at", "k"] ["doc", "at", "k"] (defScope s_path_at_rowX) := ⟨rfl, rfl, rfl, by decide +kernel, rfl, by decide +kernel, by decide +kernel⟩
def m_path_at_rowX (Z : Ad) : M Flw := mSeq (mDrop (mCall (fn_check_row Z) (mCons (mVar 0) (mCons (mVar 1) (mNil))))) (mRet (mCall (fn_chosen_pathX Z) (mCons (mFld Z.Doc "rows" (mVar 0)) (mCons (mCall (fn_only_row Z) (mCons (mVar 0) (mCons (mVar 1) (mNil)))) (mCons (mVar 2) (mNil))))))
def fn_path_at_rowX (Z : Ad) : Fn := ar 3 (runF 3 (m_path_at_rowX Z))
theorem ok_path_at_rowX {f : Addr} {fd : FuncData} (F : Fun K "path_at_row" "path_at_row" s_path_at_rowX f fd) (T : Txt K w mg Z) {f_check_row : Addr} {d_check_row : FuncData} (B_check_row : FnB K mg "check_row" s_check_row ["doc", "at"] f_check_row d_check_row) (G_check_row : FnOk P w K mg base CX0 4 f_check_row d_check_row ["doc", "at"] (spF K (fn_check_row Z))) {f_chosen_pathX : Addr} {d_chosen_pathX : FuncData} (B_chosen_pathX : FnB K mg "chosen_path" s_chosen_pathX ["rows", "chosen", "k"] f_chosen_pathX d_chosen_pathX) (G_chosen_pathX : FnOk P w K mg base (L2.CX P w) 4 f_chosen_pathX d_chosen_pathX ["rows", "chosen", "k"] (spF K (fn_chosen_pathX Z))) {f_only_row : Addr} {d_only_row : FuncData} (B_only_row : FnB K mg "only_row" s_only_row ["doc", "at"] f_only_row d_only_row) (G_only_row : FnOk P w K mg base CX0 1 f_only_row d_only_row ["doc", "at"] (spF K (fn_only_row Z))) : FnOk P w K mg base (L2.CX P w) 5 f fd ["doc", "at", "k"] (spF K (fn_path_at_rowX Z)) := by
  have S := sc_path_at_rowX
  exact okMx (k := 4) F S fun cdv A outer s H E Θ hr hK hE tk hp => (ss_cons (s_drop (c_call B_check_row G_check_row hr (by decide) rfl hK hE (a_cons (e_var 0) (a_cons (e_var 1) a_nil)))) (ss_one (s_ret (c_callx tk B_chosen_pathX G_chosen_pathX hr (by decide) rfl hK hE (a_cons (e_fld hK T.cl_Doc T.na_Doc_rows (e_var 0)) (a_cons (c_call B_only_row G_only_row hr (by decide) rfl hK hE (a_cons (e_var 0) (a_cons (e_var 1) a_nil))) (a_cons (e_var 2) a_nil)))))))
abbrev s__law_is_refused : Stmt := topS 42
theorem sc__law_is_refused : FnScope ["_law_doc", "_law_at", "_law_k", "e"] ["_law_doc", "_law_at", "_law_k"] (defScope s__law_is_refused) := ⟨rfl, rfl, rfl, by decide +kernel, rfl, by decide +kernel, by decide +kernel⟩
def m__law_is_refused (Z : Ad) : M Flw := mSeq (mTryEq (fn_path_at_rowX Z) Z.InvalidBound 3 "argument" "k" (mCons (mVar 0) (mCons (mVar 1) (mCons (mVar 2) (mNil))))) (mRet (mC (.bl false)))
def fn__law_is_refused (Z : Ad) : Fn := ar 3 (runF 4 (m__law_is_refused Z))
theorem ok__law_is_refused {f : Addr} {fd : FuncData} (F : Fun K "_law_is_refused" "_law_is_refused" s__law_is_refused f fd) (T : Txt K w mg Z) {f_path_at_rowX : Addr} {d_path_at_rowX : FuncData} (B_path_at_rowX : FnB K mg "path_at_row" s_path_at_rowX ["doc", "at", "k"] f_path_at_rowX d_path_at_rowX) (G_path_at_rowX : FnOk P w K mg base (L2.CX P w) 5 f_path_at_rowX d_path_at_rowX ["doc", "at", "k"] (spF K (fn_path_at_rowX Z))) : FnOk P w K mg base CX0 6 f fd ["_law_doc", "_law_at", "_law_k"] (spF K (fn__law_is_refused Z)) := by
  have S := sc__law_is_refused
  exact okM0 (k := 5) F S fun cdv A outer s H E Θ hr hK hE => (ss_cons (s_tryEq (i := 3) T.k_InvalidBound_argument rfl rfl S.nd rfl rfl (by first | exact Or.inl rfl | exact Or.inr (Or.inl rfl) | exact Or.inr (Or.inr rfl)) rfl T.g_InvalidBound takes_nox B_path_at_rowX G_path_at_rowX hr (by decide) rfl hK (fun pn xe => (a_cons (e_var 0) (a_cons (e_var 1) (a_cons (e_var 2) a_nil))))) (ss_one (s_ret e_bl)))
abbrev s__law_nodes : Stmt := topS 41
theorem sc__law_nodes : FnScope ["_law_rows_here", "_law_at", "_law_path", "_law_found", "_law_step", "_law_part"] ["_law_rows_here", "_law_at", "_law_path"] (defScope s__law_nodes) := ⟨rfl, rfl, rfl, by decide +kernel, rfl, by decide +kernel, by decide +kernel⟩
-- _law_nodes calls itself
def m__law_nodes (Z : Ad) (fn__law_nodes : Ad → Fn) : M Flw := mSeq (mSet 3 (mAp lstV (mCons (mAp tupV (mCons (mVar 2) (mCons (mVar 1) (mNil)))) (mNil)))) (mSeq (mFor (mApL enm (mCons (mCall (fn__law_below Z) (mCons (mIx (mVar 0) (mVar 1)) (mNil))) (mNil))) (gTp 2 (gCs (gSet 4) (gCs (gSet 5) (gNl)))) (mSet 3 (mOp addV (mVar 3) (mCall (fn__law_nodes Z) (mCons (mVar 0) (mCons (mVar 5) (mCons (mOp addV (mVar 2) (mAp tupV (mCons (mVar 4) (mNil)))) (mNil)))))))) (mRet (mVar 3)))
def fns__law_nodes (Z : Ad) : Nat → Fn
  | 0 => fun _ _ => .no
  | n + 1 => ar 3 (runF 6 (m__law_nodes Z fun Z => fns__law_nodes Z n))
def fn__law_nodes (Z : Ad) : Fn := fns__law_nodes Z 24
theorem oks__law_nodes {f : Addr} {fd : FuncData} (T : Txt K w mg Z) {f__law_below : Addr} {d__law_below : FuncData} (B__law_below : FnB K mg "_law_below" s__law_below ["_law_row_here"] f__law_below d__law_below) (G__law_below : FnOk P w K mg base CX0 1 f__law_below d__law_below ["_law_row_here"] (spF K (fn__law_below Z))) (B__law_nodes : FnB K mg "_law_nodes" s__law_nodes ["_law_rows_here", "_law_at", "_law_path"] f fd) : ∀ n, FnOk P w K mg base CX0 (1 + n) f fd ["_law_rows_here", "_law_at", "_law_path"] (spF K (fns__law_nodes Z n))
  | 0 => okNo
  | n + 1 => by
    have G__law_nodes := oks__law_nodes T B__law_below G__law_below B__law_nodes n
    have S := sc__law_nodes
    exact okM0 (k := 1 + n) B__law_nodes.F S fun cdv A outer s H E Θ hr hK hE => (ss_cons (s_set (i := 3) S.nd rfl (by first | exact Or.inl rfl | exact Or.inr rfl) (e_lst (a_cons (e_tup (a_cons (e_var 2) (a_cons (e_var 1) a_nil))) a_nil))) (ss_cons (s_for PassesOwn.never rfl (i_enum hK rfl T.n_enumerate (a_cons (c_call B__law_below G__law_below hr (by omega) rfl hK hE (a_cons (e_ixM hK (e_var 0) (e_var 1) (fun _ _ => rfl)) a_nil)) a_nil)) (g_tup (n := 2) hK rfl (gs_cons (g_name (i := 4) S.nd rfl (by first | exact Or.inl rfl | exact Or.inr rfl)) (gs_cons (g_name (i := 5) S.nd rfl (by first | exact Or.inl rfl | exact Or.inr rfl)) gs_nil))) (ss_one (s_set (i := 3) S.nd rfl (by first | exact Or.inl rfl | exact Or.inr rfl) (e_add hK (e_var 3) (c_call B__law_nodes G__law_nodes hr (by omega) rfl hK hE (a_cons (e_var 0) (a_cons (e_var 5) (a_cons (e_add hK (e_var 2) (e_tup (a_cons (e_var 4) a_nil))) a_nil)))))))) (ss_one (s_ret (e_var 3)))))
theorem ok__law_nodes {f : Addr} {fd : FuncData} (T : Txt K w mg Z) {f__law_below : Addr} {d__law_below : FuncData} (B__law_below : FnB K mg "_law_below" s__law_below ["_law_row_here"] f__law_below d__law_below) (G__law_below : FnOk P w K mg base CX0 1 f__law_below d__law_below ["_law_row_here"] (spF K (fn__law_below Z))) (B__law_nodes : FnB K mg "_law_nodes" s__law_nodes ["_law_rows_here", "_law_at", "_law_path"] f fd) : FnOk P w K mg base CX0 26 f fd ["_law_rows_here", "_law_at", "_law_path"] (spF K (fn__law_nodes Z)) := (oks__law_nodes T B__law_below G__law_below B__law_nodes 24).mono (by decide)
abbrev s_law : Stmt := topS 43
theorem sc_law : FnScope ["_law_script", "_law_cell", "_law_well_here", "_law_turn", "_law_rows_here", "_law_doc", "_law_every", "_law_at", "_law_due", "_law_path", "_law_other", "_law_k"] ["_law_script"] (defScope s_law) := ⟨rfl, rfl, rfl, by decide +kernel, rfl, by decide +kernel, by decide +kernel⟩
def m_law (Z : Ad) : M Flw := mSeq (mFor (mItL (mSl (mOp addV (mVar 0) (mAp lstV (mCons (mC (.int 0)) (mNil)))) mNoPart (mPart (mC (.int 5))))) (gSet 1) (mSeq (mSet 2 (mCall (fn__law_well Z) (mCons (mVar 1) (mNil)))) (mFor (mApL rng1 (mCons (mC (.int 3)) (mNil))) (gSet 3) (mSeq (mSet 4 (mCall (fn__law_rows Z) (mCons (mVar 2) (mNil)))) (mSeq (mAsg (mAp tupV (mCons (mMake Z.Doc (fn_Doc___init__ Z) (mCons (mVar 4) (mNil))) (mCons (mCall (fn__law_nodes Z) (mCons (mVar 4) (mCons (mOp subV (mAp lenV (mCons (mVar 4) (mNil))) (mC (.int 1))) (mCons (mAp tupV (mNil)) (mNil))))) (mNil)))) (gTp 2 (gCs (gSet 5) (gCs (gSet 6) (gNl))))) (mFor (mApL rng1 (mCons (mAp lenV (mCons (mVar 4) (mNil))) (mNil))) (gSet 7) (mSeq (mSet 8 (mFl (mComp [9, 10] (mItL (mVar 6)) (gTp 2 (gCs (gSet 9) (gCs (gSet 10) (gNl)))) (mTst (mOp eqV (mVar 10) (mVar 7))) (mVar 9)))) (mSeq (mIf (mOrT (mTst (mOp neV (mCall (fn_row_copies Z) (mCons (mVar 5) (mCons (mVar 7) (mNil)))) (mAp lenV (mCons (mVar 8) (mNil))))) (mNotT (mTst (mCall (fn__law_is_refused Z) (mCons (mVar 5) (mCons (mVar 7) (mCons (mAp lenV (mCons (mVar 8) (mNil))) (mNil)))))))) (mRet (mC (.bl false))) (mNx)) (mSeq (mIf (mTst (mOp neV (mFl (mComp [11] (mApL rng1 (mCons (mAp lenV (mCons (mVar 8) (mNil))) (mNil))) (gSet 11) (tYesM) (mCall (fn_path_at_row Z) (mCons (mVar 5) (mCons (mVar 7) (mCons (mVar 11) (mNil))))))) (mVar 8))) (mRet (mC (.bl false))) (mNx)) (mIf (mTst (mOp neV (mFl (mComp [9] (mItL (mVar 8)) (gSet 9) (tYesM) (mCall (fn_number_at_row Z) (mCons (mVar 5) (mCons (mVar 9) (mNil)))))) (mFl (mLrg (mAp lenV (mCons (mVar 8) (mNil))))))) (mRet (mC (.bl false))) (mNx))))))))))) (mRet (mC (.bl true)))
def fn_law (Z : Ad) : Fn := ar 1 (runF 12 (m_law Z))
theorem ok_law {f : Addr} {fd : FuncData} (F : Fun K "law" "law" s_law f fd) (T : Txt K w mg Z) {f__law_is_refused : Addr} {d__law_is_refused : FuncData} (B__law_is_refused : FnB K mg "_law_is_refused" s__law_is_refused ["_law_doc", "_law_at", "_law_k"] f__law_is_refused d__law_is_refused) (G__law_is_refused : FnOk P w K mg base CX0 6 f__law_is_refused d__law_is_refused ["_law_doc", "_law_at", "_law_k"] (spF K (fn__law_is_refused Z))) {f__law_nodes : Addr} {d__law_nodes : FuncData} (B__law_nodes : FnB K mg "_law_nodes" s__law_nodes ["_law_rows_here", "_law_at", "_law_path"] f__law_nodes d__law_nodes) (G__law_nodes : FnOk P w K mg base CX0 26 f__law_nodes d__law_nodes ["_law_rows_here", "_law_at", "_law_path"] (spF K (fn__law_nodes Z))) {f__law_rows : Addr} {d__law_rows : FuncData} (B__law_rows : FnB K mg "_law_rows" s__law_rows ["_law_well_here"] f__law_rows d__law_rows) (G__law_rows : FnOk P w K mg base CX0 4 f__law_rows d__law_rows ["_law_well_here"] (spF K (fn__law_rows Z))) {f__law_well : Addr} {d__law_well : FuncData} (B__law_well : FnB K mg "_law_well" s__law_well ["_law_cell"] f__law_well d__law_well) (G__law_well : FnOk P w K mg base CX0 1 f__law_well d__law_well ["_law_cell"] (spF K (fn__law_well Z))) {f_number_at_row : Addr} {d_number_at_row : FuncData} (B_number_at_row : FnB K mg "number_at_row" s_number_at_row ["doc", "path"] f_number_at_row d_number_at_row) (G_number_at_row : FnOk P w K mg base CX0 4 f_number_at_row d_number_at_row ["doc", "path"] (spF K (fn_number_at_row Z))) {f_path_at_row : Addr} {d_path_at_row : FuncData} (B_path_at_row : FnB K mg "path_at_row" s_path_at_row ["doc", "at", "k"] f_path_at_row d_path_at_row) (G_path_at_row : FnOk P w K mg base CX0 5 f_path_at_row d_path_at_row ["doc", "at", "k"] (spF K (fn_path_at_row Z))) {f_row_copies : Addr} {d_row_copies : FuncData} (B_row_copies : FnB K mg "row_copies" s_row_copies ["doc", "at"] f_row_copies d_row_copies) (G_row_copies : FnOk P w K mg base CX0 5 f_row_copies d_row_copies ["doc", "at"] (spF K (fn_row_copies Z))) {f_Doc___init__ : Addr} {d_Doc___init__ : FuncData} (B_Doc : InB K mg "Doc" s_Doc___init__ "Doc.__init__" ["self", "rows"] Z.Doc f_Doc___init__ d_Doc___init__) (G_Doc___init__ : FnOk P w K mg base CX0 4 f_Doc___init__ d_Doc___init__ ["self", "rows"] (spI K Z.Doc (fn_Doc___init__ Z))) : FnOk P w K mg base CX0 27 f fd ["_law_script"] (spF K (fn_law Z)) := by
  have S := sc_law
  exact okM0 (k := 26) F S fun cdv A outer s H E Θ hr hK hE => (ss_cons (s_for PassesOwn.never rfl (i_list hK (e_slice hK (e_add hK (e_var 0) (e_lst (a_cons e_int a_nil))) o_none (o_some e_int))) (g_name (i := 1) S.nd rfl (by first | exact Or.inl rfl | exact Or.inr rfl)) (ss_cons (s_set (i := 2) S.nd rfl (by first | exact Or.inl rfl | exact Or.inr rfl) (c_call B__law_well G__law_well hr (by decide) rfl hK hE (a_cons (e_var 1) a_nil))) (ss_one (s_for PassesOwn.never rfl (i_range1 rfl T.n_range (a_cons e_int a_nil)) (g_name (i := 3) S.nd rfl (by first | exact Or.inl rfl | exact Or.inr rfl)) (ss_cons (s_set (i := 4) S.nd rfl (by first | exact Or.inl rfl | exact Or.inr rfl) (c_call B__law_rows G__law_rows hr (by decide) rfl hK hE (a_cons (e_var 2) a_nil))) (ss_cons (s_asg (e_tup (a_cons (c_make B_Doc G_Doc___init__ hr (by decide) rfl hK hE (a_cons (e_var 4) a_nil)) (a_cons (c_call B__law_nodes G__law_nodes hr (by decide) rfl hK hE (a_cons (e_var 4) (a_cons (e_sub (e_callB call_lenV (lenV_ok hK) rfl T.n_len (by rfl) (a_cons (e_var 4) a_nil)) e_int) (a_cons (e_tup a_nil) a_nil)))) a_nil))) (g_tup (n := 2) hK rfl (gs_cons (g_name (i := 5) S.nd rfl (by first | exact Or.inl rfl | exact Or.inr rfl)) (gs_cons (g_name (i := 6) S.nd rfl (by first | exact Or.inl rfl | exact Or.inr rfl)) gs_nil)))) (ss_one (s_for PassesOwn.never rfl (i_range1 rfl T.n_range (a_cons (e_callB call_lenV (lenV_ok hK) rfl T.n_len (by rfl) (a_cons (e_var 4) a_nil)) a_nil)) (g_name (i := 7) S.nd rfl (by first | exact Or.inl rfl | exact Or.inr rfl)) (ss_cons (s_setC (i := 8) (own := [("_law_path", 9), ("_law_other", 10)]) (us := [9, 10]) (g := gTp 2 (gCs (gSet 9) (gCs (gSet 10) (gNl)))) (t := mTst (mOp eqV (mVar 10) (mVar 7))) (me := mVar 9) rfl S.nd hK rfl rfl (sw_true rfl rfl rfl (by decide +kernel)) (i_list hK (e_var 6)) (blkOk_by (N := ["_law_script", "_law_cell", "_law_well_here", "_law_turn", "_law_rows_here", "_law_doc", "_law_every", "_law_at", "_law_due", "_law_path", "_law_other", "_law_k"]) (sc := defScope s_law) (by decide +kernel)) (by decide) (fun _ _ _ _ _ Θ2 hS => by have hK := hS.1; have hE := hS.2; exact (g_tup (n := 2) hK rfl (gs_cons (g_name (i := 9) S.nd rfl (by first | exact Or.inl rfl | exact Or.inr rfl)) (gs_cons (g_name (i := 10) S.nd rfl (by first | exact Or.inl rfl | exact Or.inr rfl)) gs_nil)))) (fun _ _ _ _ _ Θ2 hS => by have hK := hS.1; have hE := hS.2; exact (p_one (t_cmp (op_eqV' hr.units) (eqV_ok hK) (e_var 10) (e_var 7) (nomark _)))) (fun _ _ _ _ _ Θ2 hS => by have hK := hS.1; have hE := hS.2; exact (e_var 9))) (ss_cons (s_if (PW.pt (w_or (t_cmp (op_neV' hr.units) (neV_ok hK) (c_call B_row_copies G_row_copies hr (by decide) rfl hK hE (a_cons (e_var 5) (a_cons (e_var 7) a_nil))) (e_callB call_lenV (lenV_ok hK) rfl T.n_len (by rfl) (a_cons (e_var 8) a_nil)) (nomark _)) (w_or1 (t_not (t_val (c_call B__law_is_refused G__law_is_refused hr (by decide) rfl hK hE (a_cons (e_var 5) (a_cons (e_var 7) (a_cons (e_callB call_lenV (lenV_ok hK) rfl T.n_len (by rfl) (a_cons (e_var 8) a_nil)) a_nil))))))))) (ss_one (s_ret e_bl)) ss_nil) (ss_cons (s_if (t_cmp (op_neV' hr.units) (neV_ok hK) (e_new (n_comp (own := [("_law_k", 11)]) (us := [11]) (g := gSet 11) (t := tYesM) (me := mCall (fn_path_at_row Z) (mCons (mVar 5) (mCons (mVar 7) (mCons (mVar 11) (mNil))))) rfl S.nd hK (i_range1 rfl T.n_range (a_cons (e_callB call_lenV (lenV_ok hK) rfl T.n_len (by rfl) (a_cons (e_var 8) a_nil)) a_nil)) (blkOk_by (N := ["_law_script", "_law_cell", "_law_well_here", "_law_turn", "_law_rows_here", "_law_doc", "_law_every", "_law_at", "_law_due", "_law_path", "_law_other", "_law_k"]) (sc := defScope s_law) (by decide +kernel)) (by decide) (fun _ _ _ _ _ Θ2 hS => by have hK := hS.1; have hE := hS.2; exact (g_name (i := 11) S.nd rfl (by first | exact Or.inl rfl | exact Or.inr rfl))) (fun _ _ _ _ _ Θ2 hS => by have hK := hS.1; have hE := hS.2; exact p_none) (fun _ _ _ _ _ Θ2 hS => by have hK := hS.1; have hE := hS.2; exact (c_call B_path_at_row G_path_at_row hr (by decide) rfl hK hE (a_cons (e_var 5) (a_cons (e_var 7) (a_cons (e_var 11) a_nil))))))) (e_var 8) (nomark _)) (ss_one (s_ret e_bl)) ss_nil) (ss_one (s_if (t_cmp (op_neV' hr.units) (neV_ok hK) (e_new (n_comp (own := [("_law_path", 9)]) (us := [9]) (g := gSet 9) (t := tYesM) (me := mCall (fn_number_at_row Z) (mCons (mVar 5) (mCons (mVar 9) (mNil)))) rfl S.nd hK (i_list hK (e_var 8)) (blkOk_by (N := ["_law_script", "_law_cell", "_law_well_here", "_law_turn", "_law_rows_here", "_law_doc", "_law_every", "_law_at", "_law_due", "_law_path", "_law_other", "_law_k"]) (sc := defScope s_law) (by decide +kernel)) (by decide) (fun _ _ _ _ _ Θ2 hS => by have hK := hS.1; have hE := hS.2; exact (g_name (i := 9) S.nd rfl (by first | exact Or.inl rfl | exact Or.inr rfl))) (fun _ _ _ _ _ Θ2 hS => by have hK := hS.1; have hE := hS.2; exact p_none) (fun _ _ _ _ _ Θ2 hS => by have hK := hS.1; have hE := hS.2; exact (c_call B_number_at_row G_number_at_row hr (by decide) rfl hK hE (a_cons (e_var 5) (a_cons (e_var 9) a_nil)))))) (e_new (n_listRg rfl rfl T.n_list rfl T.n_range (e_callB call_lenV (lenV_ok hK) rfl T.n_len (by rfl) (a_cons (e_var 8) a_nil)))) (nomark _)) (ss_one (s_ret e_bl)) ss_nil))))))))))))) (ss_one (s_ret e_bl)))
end
end Lw
set_option Elab.async false
set_option linter.all false
set_option maxRecDepth 100000
set_option maxHeartbeats 2000000
namespace Lw
open PySem L2 Mi
inductive Row where
  | text (s : Str) | line (s : Str) | hard | cat (l : List Nat) | nest (k p : Nat) | align (p : Nat) | group (p : Nat)
def Row.iv : Row → IV
  | .text s => .tup [.str "text", .str s]
  | .line s => .tup [.str "line", .str s]
  | .hard => .tup [.str "hard"]
  | .cat l => .tup [.str "cat", .fl (l.map nI)]
  | .nest k p => .tup [.str "nest", nI k, nI p]
  | .align p => .tup [.str "align", nI p]
  | .group p => .tup [.str "group", nI p]
def Row.parts : Row → List Nat
  | .text _ | .line _ | .hard => []
  | .cat l => l
  | .nest _ p | .align p | .group p => [p]
/-- rows that may stand at place n -/
def Row.ok (n : Nat) : Row → Prop
  | .text s => s.length ≤ 20 ∧ ∀ c ∈ s.cps.toList, 32 ≤ c ∧ c ≤ 126
  | .line s => s.length ≤ 3 ∧ ∀ c ∈ s.cps.toList, 32 ≤ c ∧ c ≤ 126
  | .hard => True
  | .cat l => l.length ≤ 8 ∧ ∀ p ∈ l, p < n
  | .nest k p => k ≤ 8 ∧ p < n
  | .align p => p < n
  | .group p => p < n
theorem parts_ok (Z : Ad) (r : Row) (μ : List SO) : fn_parts_of Z [r.iv] μ = .ok (.fl (r.parts.map nI)) μ := by
  cases r <;> kernel_rfl
theorem copied_ok (Z : Ad) (r : Row) (μ : List SO) : fn_copied_row Z [r.iv] μ = .ok r.iv μ := by
  cases r <;> kernel_rfl
theorem integer_ok (Z : Ad) (i : Int) (μ : List SO) : fn_is_integer Z [.int i] μ = .ok (.bl true) μ := by kernel_rfl
theorem between_ok (Z : Ad) (i a b : Int) (h1 : a ≤ i) (h2 : i ≤ b) (μ : List SO) : fn_is_between Z [.int i, .int a, .int b] μ = .ok (.bl true) μ := by
  apply of_WF
  unfold fn_is_between m_is_between
  simp (config := { failIfUnchanged := false, decide := false }) only [W_bind, W_pure, W_no, W_opt, W_nox, W_op, W_un, W_C, W_varM, W_tst, W_boolM, W_ifB, W_notT, W_andT, W_orT, W_ifE, W_andV, W_orV, W_notV, W_chain, W_nil, W_cons, W_ap, W_apL, W_fl, W_nx, W_brk, W_cnt, W_seq, W_set, W_own, W_ret, W_retN, W_drop, W_if, W_call, W_make, W_fld, W_ix, W_part, W_noPart, W_sl, W_itL, W_itT, W_itS, W_for, W_forNil, W_while, W_gset, W_gcons, W_gnil, W_par2, W_fzM, W_rf, W_ownA, W_setIx, WF_run, WF_ok, WF_arM, eq_self, setE_mk, List.map_cons, List.map_nil, List.length_cons, List.length_nil, List.replicate, List.cons_append, List.nil_append, List.append_nil, List.set_cons_zero, List.set_cons_succ, List.getElem?_cons_zero, List.getElem?_cons_succ, Nat.reduceAdd, Nat.reduceSub, Nat.sub_zero, if_true, if_false, Bool.false_eq_true, and_self, and_true, true_and, Int.reduceLT, Int.reduceLE, Nat.reduceLeDiff, Nat.reduceLT, decide_true, decide_false, Bool.not_true, Bool.not_false, addV_int, subV_int, negV_int, ltV_int, leV_int, gtV_int, geV_int, eqV_int, neV_int, eqV_str, neV_str, intV_int, intV_bl, lenV_fl, lenV_tup, listV_fl, tupleV_fl, ixS_fl, ixS_tup, enm_fl, tupV, lstV, szL, szl, addV_fl, W_ownIxM, W_appM, W_parVN, W_parNV, W_parNN, W_parVVN, minV_int, maxV_int, scI, W_selfM, WI_run, WI_end, WI_ok, Int.cast_ofNat_Int, Int.reduceBEq, Int.reduceBNe, beq_self_eq_true, Bool.not_eq_true, Bool.and_true, Bool.true_and, W_gtupM, W_opL, W_ownSet, integer_ok, leV, cmpV, decide_eq_true h1, decide_eq_true h2]
theorem sp_cps : ((" " : Str)).cps.toList = [32] := by decide +kernel
theorem ti_cps : (("~" : Str)).cps.toList = [126] := by decide +kernel
theorem one_lt (a b : Nat) : decide ([a] < [b]) = decide (a < b) := by
  by_cases h : a < b
  · rw [decide_eq_true h]; exact decide_eq_true (List.Lex.rel h)
  · rw [decide_eq_false h]
    refine decide_eq_false fun z => ?_
    cases z with
    | rel z => exact h z
    | cons z => cases z
theorem signs_ok (Z : Ad) (z : Str) (m : Int) (h1 : (z.length : Int) ≤ m) (h2 : z.length ≤ 1000) (h : ∀ c ∈ z.cps.toList, 32 ≤ c ∧ c ≤ 126) (μ : List SO) : fn_is_signs Z [.str z, .int m] μ = .ok (.bl true) μ := by
  apply of_WF
  unfold fn_is_signs m_is_signs
  have z1 : isiV [.str z, .ty "str"] = some (.bl true) := by kernel_rfl
  have z2 : lenV [.str z] = some (.int z.length) := by
    unfold lenV
    exact if_pos (by unfold szl; omega)
  simp (config := { failIfUnchanged := false, decide := false }) only [W_bind, W_pure, W_no, W_opt, W_nox, W_op, W_un, W_C, W_varM, W_tst, W_boolM, W_ifB, W_notT, W_andT, W_orT, W_ifE, W_andV, W_orV, W_notV, W_chain, W_nil, W_cons, W_ap, W_apL, W_fl, W_nx, W_brk, W_cnt, W_seq, W_set, W_own, W_ret, W_retN, W_drop, W_if, W_call, W_make, W_fld, W_ix, W_part, W_noPart, W_sl, W_itL, W_itT, W_itS, W_for, W_forNil, W_while, W_gset, W_gcons, W_gnil, W_par2, W_fzM, W_rf, W_ownA, W_setIx, WF_run, WF_ok, WF_arM, eq_self, setE_mk, List.map_cons, List.map_nil, List.length_cons, List.length_nil, List.replicate, List.cons_append, List.nil_append, List.append_nil, List.set_cons_zero, List.set_cons_succ, List.getElem?_cons_zero, List.getElem?_cons_succ, Nat.reduceAdd, Nat.reduceSub, Nat.sub_zero, if_true, if_false, Bool.false_eq_true, and_self, and_true, true_and, Int.reduceLT, Int.reduceLE, Nat.reduceLeDiff, Nat.reduceLT, decide_true, decide_false, Bool.not_true, Bool.not_false, addV_int, subV_int, negV_int, ltV_int, leV_int, gtV_int, geV_int, eqV_int, neV_int, eqV_str, neV_str, intV_int, intV_bl, lenV_fl, lenV_tup, listV_fl, tupleV_fl, ixS_fl, ixS_tup, enm_fl, tupV, lstV, szL, szl, addV_fl, W_ownIxM, W_appM, W_parVN, W_parNV, W_parNN, W_parVVN, minV_int, maxV_int, scI, W_selfM, WI_run, WI_end, WI_ok, Int.cast_ofNat_Int, Int.reduceBEq, Int.reduceBNe, beq_self_eq_true, Bool.not_eq_true, Bool.and_true, Bool.true_and, W_gtupM, W_opL, W_ownSet, z1, z2, decide_eq_true h1]
  refine W_compM (fun _ => .bl true) ?_
  simp (config := { failIfUnchanged := false, decide := false }) only [W_bind, W_pure, W_no, W_opt, W_nox, W_op, W_un, W_C, W_varM, W_tst, W_boolM, W_ifB, W_notT, W_andT, W_orT, W_ifE, W_andV, W_orV, W_notV, W_chain, W_nil, W_cons, W_ap, W_apL, W_fl, W_nx, W_brk, W_cnt, W_seq, W_set, W_own, W_ret, W_retN, W_drop, W_if, W_call, W_make, W_fld, W_ix, W_part, W_noPart, W_sl, W_itL, W_itT, W_itS, W_for, W_forNil, W_while, W_gset, W_gcons, W_gnil, W_par2, W_fzM, W_rf, W_ownA, W_setIx, WF_run, WF_ok, WF_arM, eq_self, setE_mk, List.map_cons, List.map_nil, List.length_cons, List.length_nil, List.replicate, List.cons_append, List.nil_append, List.append_nil, List.set_cons_zero, List.set_cons_succ, List.getElem?_cons_zero, List.getElem?_cons_succ, Nat.reduceAdd, Nat.reduceSub, Nat.sub_zero, if_true, if_false, Bool.false_eq_true, and_self, and_true, true_and, Int.reduceLT, Int.reduceLE, Nat.reduceLeDiff, Nat.reduceLT, decide_true, decide_false, Bool.not_true, Bool.not_false, addV_int, subV_int, negV_int, ltV_int, leV_int, gtV_int, geV_int, eqV_int, neV_int, eqV_str, neV_str, intV_int, intV_bl, lenV_fl, lenV_tup, listV_fl, tupleV_fl, ixS_fl, ixS_tup, enm_fl, tupV, lstV, szL, szl, addV_fl, W_ownIxM, W_appM, W_parVN, W_parNV, W_parNN, W_parVVN, minV_int, maxV_int, scI, W_selfM, WI_run, WI_end, WI_ok, Int.cast_ofNat_Int, Int.reduceBEq, Int.reduceBNe, beq_self_eq_true, Bool.not_eq_true, Bool.and_true, Bool.true_and, W_gtupM, W_opL, W_ownSet]
  have hl : (sgnL z).length = z.length := by unfold sgnL; rw [List.length_map]; rfl
  refine ⟨by rw [hl]; omega, ?_, ?_⟩
  · intro x hx
    unfold sgnL at hx
    obtain ⟨c, hc, rfl⟩ := List.mem_map.mp hx
    obtain ⟨c1, c2⟩ := h c hc
    apply of_W
    simp (config := { failIfUnchanged := false, decide := false }) only [W_bind, W_pure, W_no, W_opt, W_nox, W_op, W_un, W_C, W_varM, W_tst, W_boolM, W_ifB, W_notT, W_andT, W_orT, W_ifE, W_andV, W_orV, W_notV, W_chain, W_nil, W_cons, W_ap, W_apL, W_fl, W_nx, W_brk, W_cnt, W_seq, W_set, W_own, W_ret, W_retN, W_drop, W_if, W_call, W_make, W_fld, W_ix, W_part, W_noPart, W_sl, W_itL, W_itT, W_itS, W_for, W_forNil, W_while, W_gset, W_gcons, W_gnil, W_par2, W_fzM, W_rf, W_ownA, W_setIx, WF_run, WF_ok, WF_arM, eq_self, setE_mk, List.map_cons, List.map_nil, List.length_cons, List.length_nil, List.replicate, List.cons_append, List.nil_append, List.append_nil, List.set_cons_zero, List.set_cons_succ, List.getElem?_cons_zero, List.getElem?_cons_succ, Nat.reduceAdd, Nat.reduceSub, Nat.sub_zero, if_true, if_false, Bool.false_eq_true, and_self, and_true, true_and, Int.reduceLT, Int.reduceLE, Nat.reduceLeDiff, Nat.reduceLT, decide_true, decide_false, Bool.not_true, Bool.not_false, addV_int, subV_int, negV_int, ltV_int, leV_int, gtV_int, geV_int, eqV_int, neV_int, eqV_str, neV_str, intV_int, intV_bl, lenV_fl, lenV_tup, listV_fl, tupleV_fl, ixS_fl, ixS_tup, enm_fl, tupV, lstV, szL, szl, addV_fl, W_ownIxM, W_appM, W_parVN, W_parNV, W_parNN, W_parVVN, minV_int, maxV_int, scI, W_selfM, WI_run, WI_end, WI_ok, Int.cast_ofNat_Int, Int.reduceBEq, Int.reduceBNe, beq_self_eq_true, Bool.not_eq_true, Bool.and_true, Bool.true_and, W_gtupM, W_opL, W_ownSet]
    have e1 : leV (.str " ") (.str ⟨#[c]⟩) = some (.bl true) := by
      show some (IV.bl (!decide ([c] < ((" " : Str)).cps.toList))) = _
      rw [sp_cps, one_lt, decide_eq_false (by omega)]; rfl
    have e2 : leV (.str ⟨#[c]⟩) (.str "~") = some (.bl true) := by
      show some (IV.bl (!decide ((("~" : Str)).cps.toList < [c]))) = _
      rw [ti_cps, one_lt, decide_eq_false (by omega)]; rfl
    simp (config := { failIfUnchanged := false, decide := false }) only [W_bind, W_pure, W_no, W_opt, W_nox, W_op, W_un, W_C, W_varM, W_tst, W_boolM, W_ifB, W_notT, W_andT, W_orT, W_ifE, W_andV, W_orV, W_notV, W_chain, W_nil, W_cons, W_ap, W_apL, W_fl, W_nx, W_brk, W_cnt, W_seq, W_set, W_own, W_ret, W_retN, W_drop, W_if, W_call, W_make, W_fld, W_ix, W_part, W_noPart, W_sl, W_itL, W_itT, W_itS, W_for, W_forNil, W_while, W_gset, W_gcons, W_gnil, W_par2, W_fzM, W_rf, W_ownA, W_setIx, WF_run, WF_ok, WF_arM, eq_self, setE_mk, List.map_cons, List.map_nil, List.length_cons, List.length_nil, List.replicate, List.cons_append, List.nil_append, List.append_nil, List.set_cons_zero, List.set_cons_succ, List.getElem?_cons_zero, List.getElem?_cons_succ, Nat.reduceAdd, Nat.reduceSub, Nat.sub_zero, if_true, if_false, Bool.false_eq_true, and_self, and_true, true_and, Int.reduceLT, Int.reduceLE, Nat.reduceLeDiff, Nat.reduceLT, decide_true, decide_false, Bool.not_true, Bool.not_false, addV_int, subV_int, negV_int, ltV_int, leV_int, gtV_int, geV_int, eqV_int, neV_int, eqV_str, neV_str, intV_int, intV_bl, lenV_fl, lenV_tup, listV_fl, tupleV_fl, ixS_fl, ixS_tup, enm_fl, tupV, lstV, szL, szl, addV_fl, W_ownIxM, W_appM, W_parVN, W_parNV, W_parNN, W_parVVN, minV_int, maxV_int, scI, W_selfM, WI_run, WI_end, WI_ok, Int.cast_ofNat_Int, Int.reduceBEq, Int.reduceBNe, beq_self_eq_true, Bool.not_eq_true, Bool.and_true, Bool.true_and, W_gtupM, W_opL, W_ownSet, e1, e2]
  · have e : (sgnL z).map (fun _ => IV.bl true) = ((sgnL z).map fun _ => true).map IV.bl := by rw [List.map_map]; rfl
    rw [e]
    simp (config := { failIfUnchanged := false, decide := false }) only [W_bind, W_pure, W_no, W_opt, W_nox, W_op, W_un, W_C, W_varM, W_tst, W_boolM, W_ifB, W_notT, W_andT, W_orT, W_ifE, W_andV, W_orV, W_notV, W_chain, W_nil, W_cons, W_ap, W_apL, W_fl, W_nx, W_brk, W_cnt, W_seq, W_set, W_own, W_ret, W_retN, W_drop, W_if, W_call, W_make, W_fld, W_ix, W_part, W_noPart, W_sl, W_itL, W_itT, W_itS, W_for, W_forNil, W_while, W_gset, W_gcons, W_gnil, W_par2, W_fzM, W_rf, W_ownA, W_setIx, WF_run, WF_ok, WF_arM, eq_self, setE_mk, List.map_cons, List.map_nil, List.length_cons, List.length_nil, List.replicate, List.cons_append, List.nil_append, List.append_nil, List.set_cons_zero, List.set_cons_succ, List.getElem?_cons_zero, List.getElem?_cons_succ, Nat.reduceAdd, Nat.reduceSub, Nat.sub_zero, if_true, if_false, Bool.false_eq_true, and_self, and_true, true_and, Int.reduceLT, Int.reduceLE, Nat.reduceLeDiff, Nat.reduceLT, decide_true, decide_false, Bool.not_true, Bool.not_false, addV_int, subV_int, negV_int, ltV_int, leV_int, gtV_int, geV_int, eqV_int, neV_int, eqV_str, neV_str, intV_int, intV_bl, lenV_fl, lenV_tup, listV_fl, tupleV_fl, ixS_fl, ixS_tup, enm_fl, tupV, lstV, szL, szl, addV_fl, W_ownIxM, W_appM, W_parVN, W_parNV, W_parNN, W_parVVN, minV_int, maxV_int, scI, W_selfM, WI_run, WI_end, WI_ok, Int.cast_ofNat_Int, Int.reduceBEq, Int.reduceBNe, beq_self_eq_true, Bool.not_eq_true, Bool.and_true, Bool.true_and, W_gtupM, W_opL, W_ownSet, allV_bools]
    simp
theorem w_text_line : (Str.ofString "text" == Str.ofString "line") = false := by decide +kernel
theorem w_text_hard : (Str.ofString "text" == Str.ofString "hard") = false := by decide +kernel
theorem w_text_cat : (Str.ofString "text" == Str.ofString "cat") = false := by decide +kernel
theorem w_text_nest : (Str.ofString "text" == Str.ofString "nest") = false := by decide +kernel
theorem w_text_align : (Str.ofString "text" == Str.ofString "align") = false := by decide +kernel
theorem w_text_group : (Str.ofString "text" == Str.ofString "group") = false := by decide +kernel
theorem w_line_text : (Str.ofString "line" == Str.ofString "text") = false := by decide +kernel
theorem w_line_hard : (Str.ofString "line" == Str.ofString "hard") = false := by decide +kernel
theorem w_line_cat : (Str.ofString "line" == Str.ofString "cat") = false := by decide +kernel
theorem w_line_nest : (Str.ofString "line" == Str.ofString "nest") = false := by decide +kernel
theorem w_line_align : (Str.ofString "line" == Str.ofString "align") = false := by decide +kernel
theorem w_line_group : (Str.ofString "line" == Str.ofString "group") = false := by decide +kernel
theorem w_hard_text : (Str.ofString "hard" == Str.ofString "text") = false := by decide +kernel
theorem w_hard_line : (Str.ofString "hard" == Str.ofString "line") = false := by decide +kernel
theorem w_hard_cat : (Str.ofString "hard" == Str.ofString "cat") = false := by decide +kernel
theorem w_hard_nest : (Str.ofString "hard" == Str.ofString "nest") = false := by decide +kernel
theorem w_hard_align : (Str.ofString "hard" == Str.ofString "align") = false := by decide +kernel
theorem w_hard_group : (Str.ofString "hard" == Str.ofString "group") = false := by decide +kernel
theorem w_cat_text : (Str.ofString "cat" == Str.ofString "text") = false := by decide +kernel
theorem w_cat_line : (Str.ofString "cat" == Str.ofString "line") = false := by decide +kernel
theorem w_cat_hard : (Str.ofString "cat" == Str.ofString "hard") = false := by decide +kernel
theorem w_cat_nest : (Str.ofString "cat" == Str.ofString "nest") = false := by decide +kernel
theorem w_cat_align : (Str.ofString "cat" == Str.ofString "align") = false := by decide +kernel
theorem w_cat_group : (Str.ofString "cat" == Str.ofString "group") = false := by decide +kernel
theorem w_nest_text : (Str.ofString "nest" == Str.ofString "text") = false := by decide +kernel
theorem w_nest_line : (Str.ofString "nest" == Str.ofString "line") = false := by decide +kernel
theorem w_nest_hard : (Str.ofString "nest" == Str.ofString "hard") = false := by decide +kernel
theorem w_nest_cat : (Str.ofString "nest" == Str.ofString "cat") = false := by decide +kernel
theorem w_nest_align : (Str.ofString "nest" == Str.ofString "align") = false := by decide +kernel
theorem w_nest_group : (Str.ofString "nest" == Str.ofString "group") = false := by decide +kernel
theorem w_align_text : (Str.ofString "align" == Str.ofString "text") = false := by decide +kernel
theorem w_align_line : (Str.ofString "align" == Str.ofString "line") = false := by decide +kernel
theorem w_align_hard : (Str.ofString "align" == Str.ofString "hard") = false := by decide +kernel
theorem w_align_cat : (Str.ofString "align" == Str.ofString "cat") = false := by decide +kernel
theorem w_align_nest : (Str.ofString "align" == Str.ofString "nest") = false := by decide +kernel
theorem w_align_group : (Str.ofString "align" == Str.ofString "group") = false := by decide +kernel
theorem w_group_text : (Str.ofString "group" == Str.ofString "text") = false := by decide +kernel
theorem w_group_line : (Str.ofString "group" == Str.ofString "line") = false := by decide +kernel
theorem w_group_hard : (Str.ofString "group" == Str.ofString "hard") = false := by decide +kernel
theorem w_group_cat : (Str.ofString "group" == Str.ofString "cat") = false := by decide +kernel
theorem w_group_nest : (Str.ofString "group" == Str.ofString "nest") = false := by decide +kernel
theorem w_group_align : (Str.ofString "group" == Str.ofString "align") = false := by decide +kernel
/-! ### documents -/
theorem row_is (Z : Ad) (n : Nat) (r : Row) (h : r.ok n) (μ : List SO) : fn_is_row Z [r.iv, nI n] μ = .ok (.bl true) μ := by
  cases r with
  | text s =>
    apply of_WF
    unfold fn_is_row m_is_row m_is_row_r1
    have z1 : isiV [.tup [.str "text", .str s], .ty "tuple"] = some (.bl true) := by kernel_rfl
    have z2 : atI [IV.str "text", .str s] 0 = some (.str "text") := by kernel_rfl
    have z3 : atI [IV.str "text", .str s] 1 = some (.str s) := by kernel_rfl
    have z4 : isiV [.str "text", .ty "str"] = some (.bl true) := by kernel_rfl
    have z5 : tabIn true tab_SIZES (.str "text") = some (.bl false) := by kernel_rfl
    have z6 : tabV tab_SIZES (.str "text") = some (.int 2) := by kernel_rfl
    have z7 : tabIn false tab_MOST_SIGNS (.str "text") = some (.bl true) := by kernel_rfl
    have z8 : tabV tab_MOST_SIGNS (.str "text") = some (.int 20) := by kernel_rfl
    unfold Row.iv
    have b1 := signs_ok Z s 20 (by have := h.1; omega) (by have := h.1; omega) h.2 μ
    simp (config := { failIfUnchanged := false, decide := false }) only [W_bind, W_pure, W_no, W_opt, W_nox, W_op, W_un, W_C, W_varM, W_tst, W_boolM, W_ifB, W_notT, W_andT, W_orT, W_ifE, W_andV, W_orV, W_notV, W_chain, W_nil, W_cons, W_ap, W_apL, W_fl, W_nx, W_brk, W_cnt, W_seq, W_set, W_own, W_ret, W_retN, W_drop, W_if, W_call, W_make, W_fld, W_ix, W_part, W_noPart, W_sl, W_itL, W_itT, W_itS, W_for, W_forNil, W_while, W_gset, W_gcons, W_gnil, W_par2, W_fzM, W_rf, W_ownA, W_setIx, WF_run, WF_ok, WF_arM, eq_self, setE_mk, List.map_cons, List.map_nil, List.length_cons, List.length_nil, List.replicate, List.cons_append, List.nil_append, List.append_nil, List.set_cons_zero, List.set_cons_succ, List.getElem?_cons_zero, List.getElem?_cons_succ, Nat.reduceAdd, Nat.reduceSub, Nat.sub_zero, if_true, if_false, Bool.false_eq_true, and_self, and_true, true_and, Int.reduceLT, Int.reduceLE, Nat.reduceLeDiff, Nat.reduceLT, decide_true, decide_false, Bool.not_true, Bool.not_false, addV_int, subV_int, negV_int, ltV_int, leV_int, gtV_int, geV_int, eqV_int, neV_int, eqV_str, neV_str, intV_int, intV_bl, lenV_fl, lenV_tup, listV_fl, tupleV_fl, ixS_fl, ixS_tup, enm_fl, tupV, lstV, szL, szl, addV_fl, W_ownIxM, W_appM, W_parVN, W_parNV, W_parNN, W_parVVN, minV_int, maxV_int, scI, W_selfM, WI_run, WI_end, WI_ok, Int.cast_ofNat_Int, Int.reduceBEq, Int.reduceBNe, beq_self_eq_true, Bool.not_eq_true, Bool.and_true, Bool.true_and, W_gtupM, W_opL, W_ownSet, z1, z2, z3, z4, z5, z6, z7, z8, b1]
  | line s =>
    apply of_WF
    unfold fn_is_row m_is_row m_is_row_r1
    have z1 : isiV [.tup [.str "line", .str s], .ty "tuple"] = some (.bl true) := by kernel_rfl
    have z2 : atI [IV.str "line", .str s] 0 = some (.str "line") := by kernel_rfl
    have z3 : atI [IV.str "line", .str s] 1 = some (.str s) := by kernel_rfl
    have z4 : isiV [.str "line", .ty "str"] = some (.bl true) := by kernel_rfl
    have z5 : tabIn true tab_SIZES (.str "line") = some (.bl false) := by kernel_rfl
    have z6 : tabV tab_SIZES (.str "line") = some (.int 2) := by kernel_rfl
    have z7 : tabIn false tab_MOST_SIGNS (.str "line") = some (.bl true) := by kernel_rfl
    have z8 : tabV tab_MOST_SIGNS (.str "line") = some (.int 3) := by kernel_rfl
    unfold Row.iv
    have b1 := signs_ok Z s 3 (by have := h.1; omega) (by have := h.1; omega) h.2 μ
    simp (config := { failIfUnchanged := false, decide := false }) only [W_bind, W_pure, W_no, W_opt, W_nox, W_op, W_un, W_C, W_varM, W_tst, W_boolM, W_ifB, W_notT, W_andT, W_orT, W_ifE, W_andV, W_orV, W_notV, W_chain, W_nil, W_cons, W_ap, W_apL, W_fl, W_nx, W_brk, W_cnt, W_seq, W_set, W_own, W_ret, W_retN, W_drop, W_if, W_call, W_make, W_fld, W_ix, W_part, W_noPart, W_sl, W_itL, W_itT, W_itS, W_for, W_forNil, W_while, W_gset, W_gcons, W_gnil, W_par2, W_fzM, W_rf, W_ownA, W_setIx, WF_run, WF_ok, WF_arM, eq_self, setE_mk, List.map_cons, List.map_nil, List.length_cons, List.length_nil, List.replicate, List.cons_append, List.nil_append, List.append_nil, List.set_cons_zero, List.set_cons_succ, List.getElem?_cons_zero, List.getElem?_cons_succ, Nat.reduceAdd, Nat.reduceSub, Nat.sub_zero, if_true, if_false, Bool.false_eq_true, and_self, and_true, true_and, Int.reduceLT, Int.reduceLE, Nat.reduceLeDiff, Nat.reduceLT, decide_true, decide_false, Bool.not_true, Bool.not_false, addV_int, subV_int, negV_int, ltV_int, leV_int, gtV_int, geV_int, eqV_int, neV_int, eqV_str, neV_str, intV_int, intV_bl, lenV_fl, lenV_tup, listV_fl, tupleV_fl, ixS_fl, ixS_tup, enm_fl, tupV, lstV, szL, szl, addV_fl, W_ownIxM, W_appM, W_parVN, W_parNV, W_parNN, W_parVVN, minV_int, maxV_int, scI, W_selfM, WI_run, WI_end, WI_ok, Int.cast_ofNat_Int, Int.reduceBEq, Int.reduceBNe, beq_self_eq_true, Bool.not_eq_true, Bool.and_true, Bool.true_and, W_gtupM, W_opL, W_ownSet, z1, z2, z3, z4, z5, z6, z7, z8, b1]
  | hard => kernel_rfl
  | cat l =>
    obtain ⟨h1, h2⟩ := h
    apply of_WF
    unfold fn_is_row m_is_row m_is_row_r1
    have z1 : isiV [.tup [.str "cat", .fl (l.map nI)], .ty "tuple"] = some (.bl true) := by kernel_rfl
    have z2 : atI [IV.str "cat", .fl (l.map nI)] 0 = some (.str "cat") := by kernel_rfl
    have z3 : atI [IV.str "cat", .fl (l.map nI)] 1 = some (.fl (l.map nI)) := by kernel_rfl
    have z4 : isiV [.str "cat", .ty "str"] = some (.bl true) := by kernel_rfl
    have z5 : tabIn true tab_SIZES (.str "cat") = some (.bl false) := by kernel_rfl
    have z6 : tabV tab_SIZES (.str "cat") = some (.int 2) := by kernel_rfl
    have z7 : tabIn false tab_MOST_SIGNS (.str "cat") = some (.bl false) := by kernel_rfl
    have z8 : isiV [.fl (l.map nI), .ty "list"] = some (.bl true) := by kernel_rfl
    have z9 : decide (((l.map nI).length : Int) ≤ 8) = true := by rw [List.length_map]; exact decide_eq_true (by omega)
    unfold Row.iv
    simp (config := { failIfUnchanged := false, decide := false }) only [W_bind, W_pure, W_no, W_opt, W_nox, W_op, W_un, W_C, W_varM, W_tst, W_boolM, W_ifB, W_notT, W_andT, W_orT, W_ifE, W_andV, W_orV, W_notV, W_chain, W_nil, W_cons, W_ap, W_apL, W_fl, W_nx, W_brk, W_cnt, W_seq, W_set, W_own, W_ret, W_retN, W_drop, W_if, W_call, W_make, W_fld, W_ix, W_part, W_noPart, W_sl, W_itL, W_itT, W_itS, W_for, W_forNil, W_while, W_gset, W_gcons, W_gnil, W_par2, W_fzM, W_rf, W_ownA, W_setIx, WF_run, WF_ok, WF_arM, eq_self, setE_mk, List.map_cons, List.map_nil, List.length_cons, List.length_nil, List.replicate, List.cons_append, List.nil_append, List.append_nil, List.set_cons_zero, List.set_cons_succ, List.getElem?_cons_zero, List.getElem?_cons_succ, Nat.reduceAdd, Nat.reduceSub, Nat.sub_zero, if_true, if_false, Bool.false_eq_true, and_self, and_true, true_and, Int.reduceLT, Int.reduceLE, Nat.reduceLeDiff, Nat.reduceLT, decide_true, decide_false, Bool.not_true, Bool.not_false, addV_int, subV_int, negV_int, ltV_int, leV_int, gtV_int, geV_int, eqV_int, neV_int, eqV_str, neV_str, intV_int, intV_bl, lenV_fl, lenV_tup, listV_fl, tupleV_fl, ixS_fl, ixS_tup, enm_fl, tupV, lstV, szL, szl, addV_fl, W_ownIxM, W_appM, W_parVN, W_parNV, W_parNN, W_parVVN, minV_int, maxV_int, scI, W_selfM, WI_run, WI_end, WI_ok, Int.cast_ofNat_Int, Int.reduceBEq, Int.reduceBNe, beq_self_eq_true, Bool.not_eq_true, Bool.and_true, Bool.true_and, W_gtupM, W_opL, W_ownSet, z1, z2, z3, z4, z5, z6, z7, z8, z9]
    refine W_compM (fun _ => .bl true) ?_
    simp (config := { failIfUnchanged := false, decide := false }) only [W_bind, W_pure, W_no, W_opt, W_nox, W_op, W_un, W_C, W_varM, W_tst, W_boolM, W_ifB, W_notT, W_andT, W_orT, W_ifE, W_andV, W_orV, W_notV, W_chain, W_nil, W_cons, W_ap, W_apL, W_fl, W_nx, W_brk, W_cnt, W_seq, W_set, W_own, W_ret, W_retN, W_drop, W_if, W_call, W_make, W_fld, W_ix, W_part, W_noPart, W_sl, W_itL, W_itT, W_itS, W_for, W_forNil, W_while, W_gset, W_gcons, W_gnil, W_par2, W_fzM, W_rf, W_ownA, W_setIx, WF_run, WF_ok, WF_arM, eq_self, setE_mk, List.map_cons, List.map_nil, List.length_cons, List.length_nil, List.replicate, List.cons_append, List.nil_append, List.append_nil, List.set_cons_zero, List.set_cons_succ, List.getElem?_cons_zero, List.getElem?_cons_succ, Nat.reduceAdd, Nat.reduceSub, Nat.sub_zero, if_true, if_false, Bool.false_eq_true, and_self, and_true, true_and, Int.reduceLT, Int.reduceLE, Nat.reduceLeDiff, Nat.reduceLT, decide_true, decide_false, Bool.not_true, Bool.not_false, addV_int, subV_int, negV_int, ltV_int, leV_int, gtV_int, geV_int, eqV_int, neV_int, eqV_str, neV_str, intV_int, intV_bl, lenV_fl, lenV_tup, listV_fl, tupleV_fl, ixS_fl, ixS_tup, enm_fl, tupV, lstV, szL, szl, addV_fl, W_ownIxM, W_appM, W_parVN, W_parNV, W_parNN, W_parVVN, minV_int, maxV_int, scI, W_selfM, WI_run, WI_end, WI_ok, Int.cast_ofNat_Int, Int.reduceBEq, Int.reduceBNe, beq_self_eq_true, Bool.not_eq_true, Bool.and_true, Bool.true_and, W_gtupM, W_opL, W_ownSet, z3]
    refine ⟨by rw [List.length_map]; omega, ?_, ?_⟩
    · intro x hx
      obtain ⟨p, hp, rfl⟩ := List.mem_map.mp hx
      have hp := h2 p hp
      apply of_W
      simp (config := { failIfUnchanged := false, decide := false }) only [W_bind, W_pure, W_no, W_opt, W_nox, W_op, W_un, W_C, W_varM, W_tst, W_boolM, W_ifB, W_notT, W_andT, W_orT, W_ifE, W_andV, W_orV, W_notV, W_chain, W_nil, W_cons, W_ap, W_apL, W_fl, W_nx, W_brk, W_cnt, W_seq, W_set, W_own, W_ret, W_retN, W_drop, W_if, W_call, W_make, W_fld, W_ix, W_part, W_noPart, W_sl, W_itL, W_itT, W_itS, W_for, W_forNil, W_while, W_gset, W_gcons, W_gnil, W_par2, W_fzM, W_rf, W_ownA, W_setIx, WF_run, WF_ok, WF_arM, eq_self, setE_mk, List.map_cons, List.map_nil, List.length_cons, List.length_nil, List.replicate, List.cons_append, List.nil_append, List.append_nil, List.set_cons_zero, List.set_cons_succ, List.getElem?_cons_zero, List.getElem?_cons_succ, Nat.reduceAdd, Nat.reduceSub, Nat.sub_zero, if_true, if_false, Bool.false_eq_true, and_self, and_true, true_and, Int.reduceLT, Int.reduceLE, Nat.reduceLeDiff, Nat.reduceLT, decide_true, decide_false, Bool.not_true, Bool.not_false, addV_int, subV_int, negV_int, ltV_int, leV_int, gtV_int, geV_int, eqV_int, neV_int, eqV_str, neV_str, intV_int, intV_bl, lenV_fl, lenV_tup, listV_fl, tupleV_fl, ixS_fl, ixS_tup, enm_fl, tupV, lstV, szL, szl, addV_fl, W_ownIxM, W_appM, W_parVN, W_parNV, W_parNN, W_parVVN, minV_int, maxV_int, scI, W_selfM, WI_run, WI_end, WI_ok, Int.cast_ofNat_Int, Int.reduceBEq, Int.reduceBNe, beq_self_eq_true, Bool.not_eq_true, Bool.and_true, Bool.true_and, W_gtupM, W_opL, W_ownSet, between_ok Z (p : Int) 0 ((n : Int) - 1) (by omega) (by omega)]
    · have e : (l.map nI).map (fun _ => IV.bl true) = (l.map fun _ => true).map IV.bl := by rw [List.map_map, List.map_map]; rfl
      rw [e]
      simp (config := { failIfUnchanged := false, decide := false }) only [W_bind, W_pure, W_no, W_opt, W_nox, W_op, W_un, W_C, W_varM, W_tst, W_boolM, W_ifB, W_notT, W_andT, W_orT, W_ifE, W_andV, W_orV, W_notV, W_chain, W_nil, W_cons, W_ap, W_apL, W_fl, W_nx, W_brk, W_cnt, W_seq, W_set, W_own, W_ret, W_retN, W_drop, W_if, W_call, W_make, W_fld, W_ix, W_part, W_noPart, W_sl, W_itL, W_itT, W_itS, W_for, W_forNil, W_while, W_gset, W_gcons, W_gnil, W_par2, W_fzM, W_rf, W_ownA, W_setIx, WF_run, WF_ok, WF_arM, eq_self, setE_mk, List.map_cons, List.map_nil, List.length_cons, List.length_nil, List.replicate, List.cons_append, List.nil_append, List.append_nil, List.set_cons_zero, List.set_cons_succ, List.getElem?_cons_zero, List.getElem?_cons_succ, Nat.reduceAdd, Nat.reduceSub, Nat.sub_zero, if_true, if_false, Bool.false_eq_true, and_self, and_true, true_and, Int.reduceLT, Int.reduceLE, Nat.reduceLeDiff, Nat.reduceLT, decide_true, decide_false, Bool.not_true, Bool.not_false, addV_int, subV_int, negV_int, ltV_int, leV_int, gtV_int, geV_int, eqV_int, neV_int, eqV_str, neV_str, intV_int, intV_bl, lenV_fl, lenV_tup, listV_fl, tupleV_fl, ixS_fl, ixS_tup, enm_fl, tupV, lstV, szL, szl, addV_fl, W_ownIxM, W_appM, W_parVN, W_parNV, W_parNN, W_parVVN, minV_int, maxV_int, scI, W_selfM, WI_run, WI_end, WI_ok, Int.cast_ofNat_Int, Int.reduceBEq, Int.reduceBNe, beq_self_eq_true, Bool.not_eq_true, Bool.and_true, Bool.true_and, W_gtupM, W_opL, W_ownSet, allV_bools]
      simp
  | nest k p =>
    apply of_WF
    unfold fn_is_row m_is_row m_is_row_r1
    have z1 : isiV [.tup [.str "nest", nI k, nI p], .ty "tuple"] = some (.bl true) := by kernel_rfl
    have z2 : atI [IV.str "nest", nI k, nI p] 0 = some (.str "nest") := by kernel_rfl
    have z3 : atI [IV.str "nest", nI k, nI p] 1 = some (nI k) := by kernel_rfl
    have z9 : atI [IV.str "nest", nI k, nI p] (-1) = some (nI p) := by kernel_rfl
    have z4 : isiV [.str "nest", .ty "str"] = some (.bl true) := by kernel_rfl
    have z5 : tabIn true tab_SIZES (.str "nest") = some (.bl false) := by kernel_rfl
    have z6 : tabV tab_SIZES (.str "nest") = some (.int 3) := by kernel_rfl
    have z7 : tabIn false tab_MOST_SIGNS (.str "nest") = some (.bl false) := by kernel_rfl
    have b1 : fn_is_between Z [nI p, .int 0, .int ((n : Int) - 1)] μ = .ok (.bl true) μ := between_ok Z _ _ _ (by omega) (by have := h.2; omega) μ
    have b2 : fn_is_between Z [nI k, .int 0, .int 8] μ = .ok (.bl true) μ := between_ok Z _ _ _ (by omega) (by have := h.1; omega) μ
    unfold Row.iv
    simp (config := { failIfUnchanged := false, decide := false }) only [W_bind, W_pure, W_no, W_opt, W_nox, W_op, W_un, W_C, W_varM, W_tst, W_boolM, W_ifB, W_notT, W_andT, W_orT, W_ifE, W_andV, W_orV, W_notV, W_chain, W_nil, W_cons, W_ap, W_apL, W_fl, W_nx, W_brk, W_cnt, W_seq, W_set, W_own, W_ret, W_retN, W_drop, W_if, W_call, W_make, W_fld, W_ix, W_part, W_noPart, W_sl, W_itL, W_itT, W_itS, W_for, W_forNil, W_while, W_gset, W_gcons, W_gnil, W_par2, W_fzM, W_rf, W_ownA, W_setIx, WF_run, WF_ok, WF_arM, eq_self, setE_mk, List.map_cons, List.map_nil, List.length_cons, List.length_nil, List.replicate, List.cons_append, List.nil_append, List.append_nil, List.set_cons_zero, List.set_cons_succ, List.getElem?_cons_zero, List.getElem?_cons_succ, Nat.reduceAdd, Nat.reduceSub, Nat.sub_zero, if_true, if_false, Bool.false_eq_true, and_self, and_true, true_and, Int.reduceLT, Int.reduceLE, Nat.reduceLeDiff, Nat.reduceLT, decide_true, decide_false, Bool.not_true, Bool.not_false, addV_int, subV_int, negV_int, ltV_int, leV_int, gtV_int, geV_int, eqV_int, neV_int, eqV_str, neV_str, intV_int, intV_bl, lenV_fl, lenV_tup, listV_fl, tupleV_fl, ixS_fl, ixS_tup, enm_fl, tupV, lstV, szL, szl, addV_fl, W_ownIxM, W_appM, W_parVN, W_parNV, W_parNN, W_parVVN, minV_int, maxV_int, scI, W_selfM, WI_run, WI_end, WI_ok, Int.cast_ofNat_Int, Int.reduceBEq, Int.reduceBNe, beq_self_eq_true, Bool.not_eq_true, Bool.and_true, Bool.true_and, W_gtupM, W_opL, W_ownSet, z1, z2, z3, z4, z5, z6, z7, z9, b1, b2, w_cat_nest, w_cat_hard, w_nest_cat, w_nest_hard, w_align_cat, w_align_nest, w_align_hard, w_group_cat, w_group_nest, w_group_hard]
  | align p =>
    apply of_WF
    unfold fn_is_row m_is_row m_is_row_r1
    have z1 : isiV [.tup [.str "align", nI p], .ty "tuple"] = some (.bl true) := by kernel_rfl
    have z2 : atI [IV.str "align", nI p] 0 = some (.str "align") := by kernel_rfl
    have z3 : atI [IV.str "align", nI p] 1 = some (nI p) := by kernel_rfl
    have z9 : atI [IV.str "align", nI p] (-1) = some (nI p) := by kernel_rfl
    have z4 : isiV [.str "align", .ty "str"] = some (.bl true) := by kernel_rfl
    have z5 : tabIn true tab_SIZES (.str "align") = some (.bl false) := by kernel_rfl
    have z6 : tabV tab_SIZES (.str "align") = some (.int 2) := by kernel_rfl
    have z7 : tabIn false tab_MOST_SIGNS (.str "align") = some (.bl false) := by kernel_rfl
    have b1 : fn_is_between Z [nI p, .int 0, .int ((n : Int) - 1)] μ = .ok (.bl true) μ := between_ok Z _ _ _ (by omega) (by have : p < n := h; omega) μ

    unfold Row.iv
    simp (config := { failIfUnchanged := false, decide := false }) only [W_bind, W_pure, W_no, W_opt, W_nox, W_op, W_un, W_C, W_varM, W_tst, W_boolM, W_ifB, W_notT, W_andT, W_orT, W_ifE, W_andV, W_orV, W_notV, W_chain, W_nil, W_cons, W_ap, W_apL, W_fl, W_nx, W_brk, W_cnt, W_seq, W_set, W_own, W_ret, W_retN, W_drop, W_if, W_call, W_make, W_fld, W_ix, W_part, W_noPart, W_sl, W_itL, W_itT, W_itS, W_for, W_forNil, W_while, W_gset, W_gcons, W_gnil, W_par2, W_fzM, W_rf, W_ownA, W_setIx, WF_run, WF_ok, WF_arM, eq_self, setE_mk, List.map_cons, List.map_nil, List.length_cons, List.length_nil, List.replicate, List.cons_append, List.nil_append, List.append_nil, List.set_cons_zero, List.set_cons_succ, List.getElem?_cons_zero, List.getElem?_cons_succ, Nat.reduceAdd, Nat.reduceSub, Nat.sub_zero, if_true, if_false, Bool.false_eq_true, and_self, and_true, true_and, Int.reduceLT, Int.reduceLE, Nat.reduceLeDiff, Nat.reduceLT, decide_true, decide_false, Bool.not_true, Bool.not_false, addV_int, subV_int, negV_int, ltV_int, leV_int, gtV_int, geV_int, eqV_int, neV_int, eqV_str, neV_str, intV_int, intV_bl, lenV_fl, lenV_tup, listV_fl, tupleV_fl, ixS_fl, ixS_tup, enm_fl, tupV, lstV, szL, szl, addV_fl, W_ownIxM, W_appM, W_parVN, W_parNV, W_parNN, W_parVVN, minV_int, maxV_int, scI, W_selfM, WI_run, WI_end, WI_ok, Int.cast_ofNat_Int, Int.reduceBEq, Int.reduceBNe, beq_self_eq_true, Bool.not_eq_true, Bool.and_true, Bool.true_and, W_gtupM, W_opL, W_ownSet, z1, z2, z3, z4, z5, z6, z7, z9, b1, w_cat_nest, w_cat_hard, w_nest_cat, w_nest_hard, w_align_cat, w_align_nest, w_align_hard, w_group_cat, w_group_nest, w_group_hard]
  | group p =>
    apply of_WF
    unfold fn_is_row m_is_row m_is_row_r1
    have z1 : isiV [.tup [.str "group", nI p], .ty "tuple"] = some (.bl true) := by kernel_rfl
    have z2 : atI [IV.str "group", nI p] 0 = some (.str "group") := by kernel_rfl
    have z3 : atI [IV.str "group", nI p] 1 = some (nI p) := by kernel_rfl
    have z9 : atI [IV.str "group", nI p] (-1) = some (nI p) := by kernel_rfl
    have z4 : isiV [.str "group", .ty "str"] = some (.bl true) := by kernel_rfl
    have z5 : tabIn true tab_SIZES (.str "group") = some (.bl false) := by kernel_rfl
    have z6 : tabV tab_SIZES (.str "group") = some (.int 2) := by kernel_rfl
    have z7 : tabIn false tab_MOST_SIGNS (.str "group") = some (.bl false) := by kernel_rfl
    have b1 : fn_is_between Z [nI p, .int 0, .int ((n : Int) - 1)] μ = .ok (.bl true) μ := between_ok Z _ _ _ (by omega) (by have : p < n := h; omega) μ

    unfold Row.iv
    simp (config := { failIfUnchanged := false, decide := false }) only [W_bind, W_pure, W_no, W_opt, W_nox, W_op, W_un, W_C, W_varM, W_tst, W_boolM, W_ifB, W_notT, W_andT, W_orT, W_ifE, W_andV, W_orV, W_notV, W_chain, W_nil, W_cons, W_ap, W_apL, W_fl, W_nx, W_brk, W_cnt, W_seq, W_set, W_own, W_ret, W_retN, W_drop, W_if, W_call, W_make, W_fld, W_ix, W_part, W_noPart, W_sl, W_itL, W_itT, W_itS, W_for, W_forNil, W_while, W_gset, W_gcons, W_gnil, W_par2, W_fzM, W_rf, W_ownA, W_setIx, WF_run, WF_ok, WF_arM, eq_self, setE_mk, List.map_cons, List.map_nil, List.length_cons, List.length_nil, List.replicate, List.cons_append, List.nil_append, List.append_nil, List.set_cons_zero, List.set_cons_succ, List.getElem?_cons_zero, List.getElem?_cons_succ, Nat.reduceAdd, Nat.reduceSub, Nat.sub_zero, if_true, if_false, Bool.false_eq_true, and_self, and_true, true_and, Int.reduceLT, Int.reduceLE, Nat.reduceLeDiff, Nat.reduceLT, decide_true, decide_false, Bool.not_true, Bool.not_false, addV_int, subV_int, negV_int, ltV_int, leV_int, gtV_int, geV_int, eqV_int, neV_int, eqV_str, neV_str, intV_int, intV_bl, lenV_fl, lenV_tup, listV_fl, tupleV_fl, ixS_fl, ixS_tup, enm_fl, tupV, lstV, szL, szl, addV_fl, W_ownIxM, W_appM, W_parVN, W_parNV, W_parNN, W_parVVN, minV_int, maxV_int, scI, W_selfM, WI_run, WI_end, WI_ok, Int.cast_ofNat_Int, Int.reduceBEq, Int.reduceBNe, beq_self_eq_true, Bool.not_eq_true, Bool.and_true, Bool.true_and, W_gtupM, W_opL, W_ownSet, z1, z2, z3, z4, z5, z6, z7, z9, b1, w_cat_nest, w_cat_hard, w_nest_cat, w_nest_hard, w_align_cat, w_align_nest, w_align_hard, w_group_cat, w_group_nest, w_group_hard]

def RowsOk (rs : List Row) : Prop := ∀ (k : Nat) (r : Row), rs[k]? = some r → r.ok k
theorem RowsOk.snoc {rs : List Row} {r : Row} (h : RowsOk rs) (hr : r.ok rs.length) : RowsOk (rs ++ [r]) := by
  intro k (r' : Row) e
  rw [List.getElem?_append] at e
  split at e
  · exact h k r' e
  · rename_i hk
    have : k = rs.length := by
      have := (List.getElem?_eq_some_iff.mp e).1
      simp at this; omega
    subst this
    simp at e
    subst e
    exact hr
theorem Row.ok.lt {n : Nat} {r : Row} (h : r.ok n) : ∀ p ∈ r.parts, p < n := by
  cases r <;> simp [Row.ok, Row.parts] at h ⊢
  · exact h.2
  · exact h.2
  · exact h
  · exact h
theorem Row.ok.len {n : Nat} {r : Row} (h : r.ok n) : r.parts.length ≤ 8 := by
  cases r <;> simp [Row.ok, Row.parts] at h ⊢
  exact h.1
/-- [found[part] for part in parts], found a list of sizes -/
def atF (t : List Nat) : IV → IV := fun x => match x with
  | .int k => nI (t.getD k.toNat 0)
  | _ => .non
theorem atF_map {t : List Nat} {ps : List Nat} : (ps.map nI).map (atF t) = (ps.map fun p => t.getD p 0).map nI := by
  rw [List.map_map, List.map_map]; rfl
theorem at_nats {t : List Nat} {p : Nat} (h : p < t.length) : atI (t.map nI) (p : Int) = some (nI (t.getD p 0)) := by
  rw [Mi.atI_n (by simpa using h), List.getElem?_map, List.getElem?_eq_getElem h]
  simp [List.getD, List.getElem?_eq_getElem h]
/-! ### values by rows -/
def vals {α : Type} (f : List α → Row → α) (rs : List Row) : List α := rs.foldl (fun acc r => acc ++ [f acc r]) []
theorem vals_snoc {α : Type} (f : List α → Row → α) (rs : List Row) (r : Row) : vals f (rs ++ [r]) = vals f rs ++ [f (vals f rs) r] := by unfold vals; rw [List.foldl_append]; rfl
theorem vals_len {α : Type} (f : List α → Row → α) (rs : List Row) : (vals f rs).length = rs.length := by
  unfold vals
  have : ∀ (rs : List Row) (acc : List α), (rs.foldl (fun acc r => acc ++ [f acc r]) acc).length = acc.length + rs.length := by
    intro rs
    induction rs with
    | nil => intro acc; rfl
    | cons r rs ih => intro acc; rw [List.foldl_cons, ih]; simp; omega
  simpa using this rs []
theorem vals_take {α : Type} (f : List α → Row → α) {rs : List Row} {k : Nat} {r : Row} (h : rs[k]? = some r) : vals f (rs.take (k + 1)) = vals f (rs.take k) ++ [f (vals f (rs.take k)) r] := by
  rw [List.take_add_one, h]
  exact vals_snoc f _ _
theorem vals_take_len {α : Type} (f : List α → Row → α) {rs : List Row} {k : Nat} (h : k ≤ rs.length) : (vals f (rs.take k)).length = k := by rw [vals_len, List.length_take]; omega
theorem vals_pre {α : Type} (f : List α → Row → α) (rs qs : List Row) : ∃ z, vals f (rs ++ qs) = vals f rs ++ z := by
  unfold vals
  rw [List.foldl_append]
  have : ∀ (qs : List Row) (acc : List α), ∃ z, qs.foldl (fun acc r => acc ++ [f acc r]) acc = acc ++ z := by
    intro qs
    induction qs with
    | nil => intro acc; exact ⟨[], by simp⟩
    | cons q qs ih => intro acc; obtain ⟨z, e⟩ := ih (acc ++ [f acc q]); exact ⟨[f acc q] ++ z, by rw [List.foldl_cons, e]; simp⟩
  exact this qs _
abbrev rowsV (rs : List Row) : IV := .fl (rs.map Row.iv)
abbrev docF (rs : List Row) : List (Str × IV) := [("rows", rowsV rs), ("layouts", .fd)]
abbrev docV (Z : Ad) (rs : List Row) : IV := .obj Z.Doc (docF rs)
theorem doc_ok (Z : Ad) (rs : List Row) (h1 : rs ≠ []) (h2 : rs.length ≤ 200) (h : RowsOk rs) (μ : List SO) : fn_Doc___init__ Z [rowsV rs] μ = .ok (docF rs) μ := by
  apply of_WI
  unfold fn_Doc___init__ m_Doc___init__ m_Doc___init___r1
  have hl : 0 < rs.length := List.length_pos_iff.mpr h1
  have z1 : isiV [rowsV rs, .ty "list"] = some (.bl true) := by kernel_rfl
  have z2 : decide ((1 : Int) ≤ rs.length) = true := decide_eq_true (by omega)
  have z3 : decide ((rs.length : Int) ≤ 200) = true := decide_eq_true (by omega)
  simp (config := { failIfUnchanged := false, decide := false }) only [W_bind, W_pure, W_no, W_opt, W_nox, W_op, W_un, W_C, W_varM, W_tst, W_boolM, W_ifB, W_notT, W_andT, W_orT, W_ifE, W_andV, W_orV, W_notV, W_chain, W_nil, W_cons, W_ap, W_apL, W_fl, W_nx, W_brk, W_cnt, W_seq, W_set, W_own, W_ret, W_retN, W_drop, W_if, W_call, W_make, W_fld, W_ix, W_part, W_noPart, W_sl, W_itL, W_itT, W_itS, W_for, W_forNil, W_while, W_gset, W_gcons, W_gnil, W_par2, W_fzM, W_rf, W_ownA, W_setIx, WF_run, WF_ok, WF_arM, eq_self, setE_mk, List.map_cons, List.map_nil, List.length_cons, List.length_nil, List.replicate, List.cons_append, List.nil_append, List.append_nil, List.set_cons_zero, List.set_cons_succ, List.getElem?_cons_zero, List.getElem?_cons_succ, Nat.reduceAdd, Nat.reduceSub, Nat.sub_zero, if_true, if_false, Bool.false_eq_true, and_self, and_true, true_and, Int.reduceLT, Int.reduceLE, Nat.reduceLeDiff, Nat.reduceLT, decide_true, decide_false, Bool.not_true, Bool.not_false, addV_int, subV_int, negV_int, ltV_int, leV_int, gtV_int, geV_int, eqV_int, neV_int, eqV_str, neV_str, intV_int, intV_bl, lenV_fl, lenV_tup, listV_fl, tupleV_fl, ixS_fl, ixS_tup, enm_fl, tupV, lstV, szL, szl, addV_fl, W_ownIxM, W_appM, W_parVN, W_parNV, W_parNN, W_parVVN, minV_int, maxV_int, scI, W_selfM, WI_run, WI_end, WI_ok, Int.cast_ofNat_Int, Int.reduceBEq, Int.reduceBNe, beq_self_eq_true, Bool.not_eq_true, Bool.and_true, Bool.true_and, W_gtupM, W_opL, W_ownSet, z1, List.length_map, z2, z3]
  refine W_forI (fun k s => ∃ a b, s = ⟨[.ins Z.Doc [], .val (rowsV rs), a, b], μ⟩) _ 0 _ ⟨_, _, rfl⟩ ?_ ?_
  · rintro k x s hk ⟨a, b, rfl⟩
    obtain ⟨y, hy, rfl⟩ := enmL_at hk
    obtain ⟨r, hr, rfl⟩ := map_at hy
    simp (config := { failIfUnchanged := false, decide := false }) only [W_bind, W_pure, W_no, W_opt, W_nox, W_op, W_un, W_C, W_varM, W_tst, W_boolM, W_ifB, W_notT, W_andT, W_orT, W_ifE, W_andV, W_orV, W_notV, W_chain, W_nil, W_cons, W_ap, W_apL, W_fl, W_nx, W_brk, W_cnt, W_seq, W_set, W_own, W_ret, W_retN, W_drop, W_if, W_call, W_make, W_fld, W_ix, W_part, W_noPart, W_sl, W_itL, W_itT, W_itS, W_for, W_forNil, W_while, W_gset, W_gcons, W_gnil, W_par2, W_fzM, W_rf, W_ownA, W_setIx, WF_run, WF_ok, WF_arM, eq_self, setE_mk, List.map_cons, List.map_nil, List.length_cons, List.length_nil, List.replicate, List.cons_append, List.nil_append, List.append_nil, List.set_cons_zero, List.set_cons_succ, List.getElem?_cons_zero, List.getElem?_cons_succ, Nat.reduceAdd, Nat.reduceSub, Nat.sub_zero, if_true, if_false, Bool.false_eq_true, and_self, and_true, true_and, Int.reduceLT, Int.reduceLE, Nat.reduceLeDiff, Nat.reduceLT, decide_true, decide_false, Bool.not_true, Bool.not_false, addV_int, subV_int, negV_int, ltV_int, leV_int, gtV_int, geV_int, eqV_int, neV_int, eqV_str, neV_str, intV_int, intV_bl, lenV_fl, lenV_tup, listV_fl, tupleV_fl, ixS_fl, ixS_tup, enm_fl, tupV, lstV, szL, szl, addV_fl, W_ownIxM, W_appM, W_parVN, W_parNV, W_parNN, W_parVVN, minV_int, maxV_int, scI, W_selfM, WI_run, WI_end, WI_ok, Int.cast_ofNat_Int, Int.reduceBEq, Int.reduceBNe, beq_self_eq_true, Bool.not_eq_true, Bool.and_true, Bool.true_and, W_gtupM, W_opL, W_ownSet, row_is Z k r (h k r hr)]
    exact ⟨.inl trivial, _, _, rfl⟩
  · rintro s ⟨a, b, rfl⟩
    simp (config := { failIfUnchanged := false, decide := false }) only [W_bind, W_pure, W_no, W_opt, W_nox, W_op, W_un, W_C, W_varM, W_tst, W_boolM, W_ifB, W_notT, W_andT, W_orT, W_ifE, W_andV, W_orV, W_notV, W_chain, W_nil, W_cons, W_ap, W_apL, W_fl, W_nx, W_brk, W_cnt, W_seq, W_set, W_own, W_ret, W_retN, W_drop, W_if, W_call, W_make, W_fld, W_ix, W_part, W_noPart, W_sl, W_itL, W_itT, W_itS, W_for, W_forNil, W_while, W_gset, W_gcons, W_gnil, W_par2, W_fzM, W_rf, W_ownA, W_setIx, WF_run, WF_ok, WF_arM, eq_self, setE_mk, List.map_cons, List.map_nil, List.length_cons, List.length_nil, List.replicate, List.cons_append, List.nil_append, List.append_nil, List.set_cons_zero, List.set_cons_succ, List.getElem?_cons_zero, List.getElem?_cons_succ, Nat.reduceAdd, Nat.reduceSub, Nat.sub_zero, if_true, if_false, Bool.false_eq_true, and_self, and_true, true_and, Int.reduceLT, Int.reduceLE, Nat.reduceLeDiff, Nat.reduceLT, decide_true, decide_false, Bool.not_true, Bool.not_false, addV_int, subV_int, negV_int, ltV_int, leV_int, gtV_int, geV_int, eqV_int, neV_int, eqV_str, neV_str, intV_int, intV_bl, lenV_fl, lenV_tup, listV_fl, tupleV_fl, ixS_fl, ixS_tup, enm_fl, tupV, lstV, szL, szl, addV_fl, W_ownIxM, W_appM, W_parVN, W_parNV, W_parNN, W_parVVN, minV_int, maxV_int, scI, W_selfM, WI_run, WI_end, WI_ok, Int.cast_ofNat_Int, Int.reduceBEq, Int.reduceBNe, beq_self_eq_true, Bool.not_eq_true, Bool.and_true, Bool.true_and, W_gtupM, W_opL, W_ownSet]
    refine W_compM (fun x => x) ?_
    simp (config := { failIfUnchanged := false, decide := false }) only [W_bind, W_pure, W_no, W_opt, W_nox, W_op, W_un, W_C, W_varM, W_tst, W_boolM, W_ifB, W_notT, W_andT, W_orT, W_ifE, W_andV, W_orV, W_notV, W_chain, W_nil, W_cons, W_ap, W_apL, W_fl, W_nx, W_brk, W_cnt, W_seq, W_set, W_own, W_ret, W_retN, W_drop, W_if, W_call, W_make, W_fld, W_ix, W_part, W_noPart, W_sl, W_itL, W_itT, W_itS, W_for, W_forNil, W_while, W_gset, W_gcons, W_gnil, W_par2, W_fzM, W_rf, W_ownA, W_setIx, WF_run, WF_ok, WF_arM, eq_self, setE_mk, List.map_cons, List.map_nil, List.length_cons, List.length_nil, List.replicate, List.cons_append, List.nil_append, List.append_nil, List.set_cons_zero, List.set_cons_succ, List.getElem?_cons_zero, List.getElem?_cons_succ, Nat.reduceAdd, Nat.reduceSub, Nat.sub_zero, if_true, if_false, Bool.false_eq_true, and_self, and_true, true_and, Int.reduceLT, Int.reduceLE, Nat.reduceLeDiff, Nat.reduceLT, decide_true, decide_false, Bool.not_true, Bool.not_false, addV_int, subV_int, negV_int, ltV_int, leV_int, gtV_int, geV_int, eqV_int, neV_int, eqV_str, neV_str, intV_int, intV_bl, lenV_fl, lenV_tup, listV_fl, tupleV_fl, ixS_fl, ixS_tup, enm_fl, tupV, lstV, szL, szl, addV_fl, W_ownIxM, W_appM, W_parVN, W_parNV, W_parNN, W_parVVN, minV_int, maxV_int, scI, W_selfM, WI_run, WI_end, WI_ok, Int.cast_ofNat_Int, Int.reduceBEq, Int.reduceBNe, beq_self_eq_true, Bool.not_eq_true, Bool.and_true, Bool.true_and, W_gtupM, W_opL, W_ownSet, List.length_map]
    refine ⟨by omega, ?_, ?_⟩
    · intro x hx
      obtain ⟨r, hr, rfl⟩ := List.mem_map.mp hx
      apply of_W
      simp (config := { failIfUnchanged := false, decide := false }) only [W_bind, W_pure, W_no, W_opt, W_nox, W_op, W_un, W_C, W_varM, W_tst, W_boolM, W_ifB, W_notT, W_andT, W_orT, W_ifE, W_andV, W_orV, W_notV, W_chain, W_nil, W_cons, W_ap, W_apL, W_fl, W_nx, W_brk, W_cnt, W_seq, W_set, W_own, W_ret, W_retN, W_drop, W_if, W_call, W_make, W_fld, W_ix, W_part, W_noPart, W_sl, W_itL, W_itT, W_itS, W_for, W_forNil, W_while, W_gset, W_gcons, W_gnil, W_par2, W_fzM, W_rf, W_ownA, W_setIx, WF_run, WF_ok, WF_arM, eq_self, setE_mk, List.map_cons, List.map_nil, List.length_cons, List.length_nil, List.replicate, List.cons_append, List.nil_append, List.append_nil, List.set_cons_zero, List.set_cons_succ, List.getElem?_cons_zero, List.getElem?_cons_succ, Nat.reduceAdd, Nat.reduceSub, Nat.sub_zero, if_true, if_false, Bool.false_eq_true, and_self, and_true, true_and, Int.reduceLT, Int.reduceLE, Nat.reduceLeDiff, Nat.reduceLT, decide_true, decide_false, Bool.not_true, Bool.not_false, addV_int, subV_int, negV_int, ltV_int, leV_int, gtV_int, geV_int, eqV_int, neV_int, eqV_str, neV_str, intV_int, intV_bl, lenV_fl, lenV_tup, listV_fl, tupleV_fl, ixS_fl, ixS_tup, enm_fl, tupV, lstV, szL, szl, addV_fl, W_ownIxM, W_appM, W_parVN, W_parNV, W_parNN, W_parVVN, minV_int, maxV_int, scI, W_selfM, WI_run, WI_end, WI_ok, Int.cast_ofNat_Int, Int.reduceBEq, Int.reduceBNe, beq_self_eq_true, Bool.not_eq_true, Bool.and_true, Bool.true_and, W_gtupM, W_opL, W_ownSet, copied_ok]
    · simp (config := { failIfUnchanged := false, decide := false }) only [W_bind, W_pure, W_no, W_opt, W_nox, W_op, W_un, W_C, W_varM, W_tst, W_boolM, W_ifB, W_notT, W_andT, W_orT, W_ifE, W_andV, W_orV, W_notV, W_chain, W_nil, W_cons, W_ap, W_apL, W_fl, W_nx, W_brk, W_cnt, W_seq, W_set, W_own, W_ret, W_retN, W_drop, W_if, W_call, W_make, W_fld, W_ix, W_part, W_noPart, W_sl, W_itL, W_itT, W_itS, W_for, W_forNil, W_while, W_gset, W_gcons, W_gnil, W_par2, W_fzM, W_rf, W_ownA, W_setIx, WF_run, WF_ok, WF_arM, eq_self, setE_mk, List.map_cons, List.map_nil, List.length_cons, List.length_nil, List.replicate, List.cons_append, List.nil_append, List.append_nil, List.set_cons_zero, List.set_cons_succ, List.getElem?_cons_zero, List.getElem?_cons_succ, Nat.reduceAdd, Nat.reduceSub, Nat.sub_zero, if_true, if_false, Bool.false_eq_true, and_self, and_true, true_and, Int.reduceLT, Int.reduceLE, Nat.reduceLeDiff, Nat.reduceLT, decide_true, decide_false, Bool.not_true, Bool.not_false, addV_int, subV_int, negV_int, ltV_int, leV_int, gtV_int, geV_int, eqV_int, neV_int, eqV_str, neV_str, intV_int, intV_bl, lenV_fl, lenV_tup, listV_fl, tupleV_fl, ixS_fl, ixS_tup, enm_fl, tupV, lstV, szL, szl, addV_fl, W_ownIxM, W_appM, W_parVN, W_parNV, W_parNN, W_parVVN, minV_int, maxV_int, scI, W_selfM, WI_run, WI_end, WI_ok, Int.cast_ofNat_Int, Int.reduceBEq, Int.reduceBNe, beq_self_eq_true, Bool.not_eq_true, Bool.and_true, Bool.true_and, W_gtupM, W_opL, W_ownSet, List.map_id']
      have p1 : putI "rows" (.fl (rs.map Row.iv)) [] = ([("rows", rowsV rs)] : List (Str × IV)) := rfl
      have p2 : putI "layouts" .fd ([("rows", rowsV rs)] : List (Str × IV)) = docF rs := by
        unfold putI
        rw [if_neg (by decide +kernel)]
        rfl
      simp (config := { failIfUnchanged := false, decide := false }) only [W_bind, W_pure, W_no, W_opt, W_nox, W_op, W_un, W_C, W_varM, W_tst, W_boolM, W_ifB, W_notT, W_andT, W_orT, W_ifE, W_andV, W_orV, W_notV, W_chain, W_nil, W_cons, W_ap, W_apL, W_fl, W_nx, W_brk, W_cnt, W_seq, W_set, W_own, W_ret, W_retN, W_drop, W_if, W_call, W_make, W_fld, W_ix, W_part, W_noPart, W_sl, W_itL, W_itT, W_itS, W_for, W_forNil, W_while, W_gset, W_gcons, W_gnil, W_par2, W_fzM, W_rf, W_ownA, W_setIx, WF_run, WF_ok, WF_arM, eq_self, setE_mk, List.map_cons, List.map_nil, List.length_cons, List.length_nil, List.replicate, List.cons_append, List.nil_append, List.append_nil, List.set_cons_zero, List.set_cons_succ, List.getElem?_cons_zero, List.getElem?_cons_succ, Nat.reduceAdd, Nat.reduceSub, Nat.sub_zero, if_true, if_false, Bool.false_eq_true, and_self, and_true, true_and, Int.reduceLT, Int.reduceLE, Nat.reduceLeDiff, Nat.reduceLT, decide_true, decide_false, Bool.not_true, Bool.not_false, addV_int, subV_int, negV_int, ltV_int, leV_int, gtV_int, geV_int, eqV_int, neV_int, eqV_str, neV_str, intV_int, intV_bl, lenV_fl, lenV_tup, listV_fl, tupleV_fl, ixS_fl, ixS_tup, enm_fl, tupV, lstV, szL, szl, addV_fl, W_ownIxM, W_appM, W_parVN, W_parNV, W_parNN, W_parVVN, minV_int, maxV_int, scI, W_selfM, WI_run, WI_end, WI_ok, Int.cast_ofNat_Int, Int.reduceBEq, Int.reduceBNe, beq_self_eq_true, Bool.not_eq_true, Bool.and_true, Bool.true_and, W_gtupM, W_opL, W_ownSet, p1, p2]
theorem fld_rows (Z : Ad) (rs : List Row) (s : S) : fldOf Z.Doc "rows" (docV Z rs) s = some (rowsV rs) := by
  unfold fldOf
  simp only [if_true]
  kernel_rfl
theorem check_ok (Z : Ad) (rs : List Row) (μ : List SO) : fn_check_doc Z [docV Z rs] μ = .ok .non μ := by
  apply of_WF
  unfold fn_check_doc m_check_doc
  have z : isiC Z.Doc [Z.Doc] [docV Z rs, .adr Z.Doc] = some (.bl true) := by simp [isiC]
  simp (config := { failIfUnchanged := false, decide := false }) only [W_bind, W_pure, W_no, W_opt, W_nox, W_op, W_un, W_C, W_varM, W_tst, W_boolM, W_ifB, W_notT, W_andT, W_orT, W_ifE, W_andV, W_orV, W_notV, W_chain, W_nil, W_cons, W_ap, W_apL, W_fl, W_nx, W_brk, W_cnt, W_seq, W_set, W_own, W_ret, W_retN, W_drop, W_if, W_call, W_make, W_fld, W_ix, W_part, W_noPart, W_sl, W_itL, W_itT, W_itS, W_for, W_forNil, W_while, W_gset, W_gcons, W_gnil, W_par2, W_fzM, W_rf, W_ownA, W_setIx, WF_run, WF_ok, WF_arM, eq_self, setE_mk, List.map_cons, List.map_nil, List.length_cons, List.length_nil, List.replicate, List.cons_append, List.nil_append, List.append_nil, List.set_cons_zero, List.set_cons_succ, List.getElem?_cons_zero, List.getElem?_cons_succ, Nat.reduceAdd, Nat.reduceSub, Nat.sub_zero, if_true, if_false, Bool.false_eq_true, and_self, and_true, true_and, Int.reduceLT, Int.reduceLE, Nat.reduceLeDiff, Nat.reduceLT, decide_true, decide_false, Bool.not_true, Bool.not_false, addV_int, subV_int, negV_int, ltV_int, leV_int, gtV_int, geV_int, eqV_int, neV_int, eqV_str, neV_str, intV_int, intV_bl, lenV_fl, lenV_tup, listV_fl, tupleV_fl, ixS_fl, ixS_tup, enm_fl, tupV, lstV, szL, szl, addV_fl, W_ownIxM, W_appM, W_parVN, W_parNV, W_parNN, W_parVVN, minV_int, maxV_int, scI, W_selfM, WI_run, WI_end, WI_ok, Int.cast_ofNat_Int, Int.reduceBEq, Int.reduceBNe, beq_self_eq_true, Bool.not_eq_true, Bool.and_true, Bool.true_and, W_gtupM, W_opL, W_ownSet, z]
end Lw
set_option Elab.async false
set_option linter.all false
set_option maxRecDepth 100000
set_option maxHeartbeats 2000000
namespace Lw
open PySem L2 Mi
/-! ### kinds of rows -/
def Row.word : Row → Str
  | .text _ => "text" | .line _ => "line" | .hard => "hard" | .cat _ => "cat" | .nest _ _ => "nest" | .align _ => "align" | .group _ => "group"
def Row.leaf : Row → Bool
  | .text _ | .line _ | .hard => true
  | _ => false
def Row.brk : Row → Bool
  | .line _ | .hard => true
  | _ => false
def Row.isG : Row → Bool
  | .group _ => true
  | _ => false
def Row.isT : Row → Bool
  | .text _ => true
  | _ => false
theorem word_at (r : Row) (μ : List SO) : ixS μ r.iv (.int 0) = some (.str r.word) := by cases r <;> kernel_rfl
theorem leaf_at (r : Row) : inV' (.str r.word) (.tup [.str "text", .str "line", .str "hard"]) = some (.bl r.leaf) := by cases r <;> kernel_rfl
theorem brk_at (r : Row) : inV' (.str r.word) (.tup [.str "line", .str "hard"]) = some (.bl r.brk) := by cases r <;> kernel_rfl
theorem isG_at (r : Row) : (r.word == Str.ofString "group") = r.isG := by cases r <;> kernel_rfl
theorem isT_at (r : Row) : (r.word == Str.ofString "text") = r.isT := by cases r <;> kernel_rfl
/-- [found[part] for part in parts_of(row)] -/
def atG {α : Type} (iv : α → IV) (d : α) (t : List α) : IV → IV := fun x => match x with
  | .int k => iv (t.getD k.toNat d)
  | _ => .non
theorem atG_map {α : Type} {iv : α → IV} {d : α} {t : List α} {ps : List Nat} : (ps.map nI).map (atG iv d t) = (ps.map fun p => t.getD p d).map iv := by
  rw [List.map_map, List.map_map]; rfl
theorem at_of {α : Type} {iv : α → IV} {d : α} {t : List α} {p : Nat} (h : p < t.length) : atI (t.map iv) (p : Int) = some (iv (t.getD p d)) := by
  rw [Mi.atI_n (by simpa using h), List.getElem?_map, List.getElem?_eq_getElem h]
  simp [List.getD, List.getElem?_eq_getElem h]
theorem atG_at {α : Type} {iv : α → IV} {d : α} {t : List α} {p : Nat} (h : p < t.length) : atI (t.map iv) (p : Int) = some (atG iv d t (nI p)) := at_of h
def oI : Option Nat → IV
  | none => .non
  | some n => nI n
def lI (p : Nat × Bool) : IV := .tup [nI p.1, .bl p.2]
def fT (acc : List Nat) (r : Row) : Nat := 1 + (r.parts.map fun p => acc.getD p 0).sum
def fG (acc : List Nat) (r : Row) : Nat := (if r.isG = true then 1 else 0) + (r.parts.map fun p => acc.getD p 0).sum
theorem fetch {α : Type} (iv : α → IV) (d : α) (f : List α → Row → α) {rs : List Row} {k : Nat} {r : Row} (h : RowsOk rs) (hr : rs[k]? = some r) : ∀ x ∈ r.parts.map nI, atI ((vals f (rs.take k)).map iv) (match x with | .int j => j | _ => 0) = some (atG iv d (vals f (rs.take k)) x) := by
  intro x hx
  obtain ⟨p, hp, rfl⟩ := List.mem_map.mp hx
  have hkl := (List.getElem?_eq_some_iff.mp hr).1
  exact atG_at (by rw [vals_take_len f (Nat.le_of_lt hkl)]; exact (h k r hr).lt p hp)
theorem last_of {α : Type} {iv : α → IV} {d : α} {t : List α} (h : 0 < t.length) : atI (t.map iv) (-1) = some (iv (t.getD (t.length - 1) d)) := by
  have hl2 : t.length - 1 < t.length := by omega
  rw [Mi.atI_last (by simpa using h), List.length_map, List.getElem?_map, List.getElem?_eq_getElem hl2]
  simp [List.getD, List.getElem?_eq_getElem hl2]
end Lw
set_option Elab.async false
set_option linter.all false
set_option maxRecDepth 100000
set_option maxHeartbeats 2000000
namespace Lw
open PySem L2 Mi
theorem below_ok (Z : Ad) (r : Row) (μ : List SO) : fn__law_below Z [r.iv] μ = .ok (.fl (r.parts.map nI)) μ := by
  cases r <;> kernel_rfl
theorem well_at (Z : Ad) (c : Int) (μ : List SO) : ∃ a b, fn__law_well Z [.int c] μ = .ok (.ref μ.length) (μ ++ [.lst [.int a, .int b, .int 0]]) := by
  refine ⟨c * (if decide ((10 : Int) ^ 18 ≤ c) = true then 1 else 0), c % 2147483629, ?_⟩
  apply of_WF
  unfold fn__law_well m__law_well
  have hp : powV (.int 10) (.int 18) = some (.int (10 ^ 18)) := rfl
  simp (config := { failIfUnchanged := false, decide := false }) only [W_bind, W_pure, W_no, W_opt, W_nox, W_op, W_un, W_C, W_varM, W_tst, W_boolM, W_ifB, W_notT, W_andT, W_orT, W_ifE, W_andV, W_orV, W_notV, W_chain, W_nil, W_cons, W_ap, W_apL, W_fl, W_nx, W_brk, W_cnt, W_seq, W_set, W_own, W_ret, W_retN, W_drop, W_if, W_call, W_make, W_fld, W_ix, W_part, W_noPart, W_sl, W_itL, W_itT, W_itS, W_for, W_forNil, W_while, W_gset, W_gcons, W_gnil, W_par2, W_fzM, W_rf, W_ownA, W_setIx, WF_run, WF_ok, WF_arM, eq_self, setE_mk, List.map_cons, List.map_nil, List.length_cons, List.length_nil, List.replicate, List.cons_append, List.nil_append, List.append_nil, List.set_cons_zero, List.set_cons_succ, List.getElem?_cons_zero, List.getElem?_cons_succ, Nat.reduceAdd, Nat.reduceSub, Nat.sub_zero, if_true, if_false, Bool.false_eq_true, and_self, and_true, true_and, Int.reduceLT, Int.reduceLE, Nat.reduceLeDiff, Nat.reduceLT, decide_true, decide_false, Bool.not_true, Bool.not_false, addV_int, subV_int, negV_int, ltV_int, leV_int, gtV_int, geV_int, eqV_int, neV_int, eqV_str, neV_str, intV_int, intV_bl, lenV_fl, lenV_tup, listV_fl, tupleV_fl, ixS_fl, ixS_tup, enm_fl, tupV, lstV, szL, szl, addV_fl, W_ownIxM, W_appM, W_parVN, W_parNV, W_parNN, W_parVVN, minV_int, maxV_int, scI, W_selfM, WI_run, WI_end, WI_ok, Int.cast_ofNat_Int, Int.reduceBEq, Int.reduceBNe, beq_self_eq_true, Bool.not_eq_true, Bool.and_true, Bool.true_and, W_gtupM, W_opL, W_ownSet, hp]
  rw [mulV_int (Or.inr (by split <;> decide)), modV_int (by decide)]
def Well (μ : List SO) (i : Nat) : Prop := ∃ a b c : Int, μ[i]? = some (.lst [.int a, .int b, .int c])
theorem mod_small (x m y : Int) (h0 : 0 < m) (h : m ≤ 4294967296) : (x % m).natAbs < 18446744073709551616 ∨ y.natAbs < 18446744073709551616 := by
  have := Int.emod_nonneg x (show m ≠ 0 by omega)
  have := Int.emod_lt_of_pos x h0
  omega
theorem set_at {μ : List SO} {i : Nat} {o o' : SO} (h : μ[i]? = some o) : (μ.set i o')[i]? = some o' := by
  have := (List.getElem?_eq_some_iff.mp h).1
  simp [this]
theorem draw_ok (Z : Ad) (i : Nat) (m : Int) (μ : List SO) (Q : IV → List SO → Prop) (hw : Well μ i) (h0 : 0 < m) (h1 : m < 1000000) (hQ : ∀ v μ', 0 ≤ v → v < m → Well μ' i → μ'.length = μ.length → Q (.int v) μ') :
    WF (fn__law_draw Z [.ref i, .int m] μ) Q := by
  obtain ⟨a, b, c, hw⟩ := hw
  have a0 : atI [IV.int a, IV.int b, IV.int c] 0 = some (.int a) := rfl
  have a1 : atI [IV.int a, IV.int b, IV.int c] 1 = some (.int b) := rfl
  have a2 : atI [IV.int a, IV.int b, IV.int c] 2 = some (.int c) := rfl
  have n0 : ixN 3 0 = some 0 := rfl
  have n2 : ixN 3 2 = some 2 := rfl
  have mm : ∀ x : Int, modV (.int x) (.int m) = some (.int (x % m)) := fun x => modV_int h0
  have dm : ∀ x : Int, divV (.int x) (.int m) = some (.int (x / m)) := fun x => divV_int h0 (by omega)
  unfold fn__law_draw m__law_draw
  simp (config := { failIfUnchanged := false, decide := false }) only [W_bind, W_pure, W_no, W_opt, W_nox, W_op, W_un, W_C, W_varM, W_tst, W_boolM, W_ifB, W_notT, W_andT, W_orT, W_ifE, W_andV, W_orV, W_notV, W_chain, W_nil, W_cons, W_ap, W_apL, W_fl, W_nx, W_brk, W_cnt, W_seq, W_set, W_own, W_ret, W_retN, W_drop, W_if, W_call, W_make, W_fld, W_ix, W_part, W_noPart, W_sl, W_itL, W_itT, W_itS, W_for, W_forNil, W_while, W_gset, W_gcons, W_gnil, W_par2, W_fzM, W_rf, W_ownA, W_setIx, WF_run, WF_ok, WF_arM, eq_self, setE_mk, List.map_cons, List.map_nil, List.length_cons, List.length_nil, List.replicate, List.cons_append, List.nil_append, List.append_nil, List.set_cons_zero, List.set_cons_succ, List.getElem?_cons_zero, List.getElem?_cons_succ, Nat.reduceAdd, Nat.reduceSub, Nat.sub_zero, if_true, if_false, Bool.false_eq_true, and_self, and_true, true_and, Int.reduceLT, Int.reduceLE, Nat.reduceLeDiff, Nat.reduceLT, decide_true, decide_false, Bool.not_true, Bool.not_false, addV_int, subV_int, negV_int, ltV_int, leV_int, gtV_int, geV_int, eqV_int, neV_int, eqV_str, neV_str, intV_int, intV_bl, lenV_fl, lenV_tup, listV_fl, tupleV_fl, ixS_fl, ixS_tup, enm_fl, tupV, lstV, szL, szl, addV_fl, W_ownIxM, W_appM, W_parVN, W_parNV, W_parNN, W_parVVN, minV_int, maxV_int, scI, W_selfM, WI_run, WI_end, WI_ok, Int.cast_ofNat_Int, Int.reduceBEq, Int.reduceBNe, beq_self_eq_true, Bool.not_eq_true, Bool.and_true, Bool.true_and, W_gtupM, W_opL, W_ownSet, ixS_ref hw, hw, a0]
  by_cases ha : 0 < a
  · rw [decide_eq_true ha]
    simp (config := { failIfUnchanged := false, decide := false }) only [W_bind, W_pure, W_no, W_opt, W_nox, W_op, W_un, W_C, W_varM, W_tst, W_boolM, W_ifB, W_notT, W_andT, W_orT, W_ifE, W_andV, W_orV, W_notV, W_chain, W_nil, W_cons, W_ap, W_apL, W_fl, W_nx, W_brk, W_cnt, W_seq, W_set, W_own, W_ret, W_retN, W_drop, W_if, W_call, W_make, W_fld, W_ix, W_part, W_noPart, W_sl, W_itL, W_itT, W_itS, W_for, W_forNil, W_while, W_gset, W_gcons, W_gnil, W_par2, W_fzM, W_rf, W_ownA, W_setIx, WF_run, WF_ok, WF_arM, eq_self, setE_mk, List.map_cons, List.map_nil, List.length_cons, List.length_nil, List.replicate, List.cons_append, List.nil_append, List.append_nil, List.set_cons_zero, List.set_cons_succ, List.getElem?_cons_zero, List.getElem?_cons_succ, Nat.reduceAdd, Nat.reduceSub, Nat.sub_zero, if_true, if_false, Bool.false_eq_true, and_self, and_true, true_and, Int.reduceLT, Int.reduceLE, Nat.reduceLeDiff, Nat.reduceLT, decide_true, decide_false, Bool.not_true, Bool.not_false, addV_int, subV_int, negV_int, ltV_int, leV_int, gtV_int, geV_int, eqV_int, neV_int, eqV_str, neV_str, intV_int, intV_bl, lenV_fl, lenV_tup, listV_fl, tupleV_fl, ixS_fl, ixS_tup, enm_fl, tupV, lstV, szL, szl, addV_fl, W_ownIxM, W_appM, W_parVN, W_parNV, W_parNN, W_parVVN, minV_int, maxV_int, scI, W_selfM, WI_run, WI_end, WI_ok, Int.cast_ofNat_Int, Int.reduceBEq, Int.reduceBNe, beq_self_eq_true, Bool.not_eq_true, Bool.and_true, Bool.true_and, W_gtupM, W_opL, W_ownSet, ixS_ref hw, hw, a0, n0, mm, dm]
    exact hQ _ _ (Int.emod_nonneg _ (by omega)) (Int.emod_lt_of_pos _ h0) ⟨_, _, _, set_at hw⟩ (by simp)
  · rw [decide_eq_false ha]
    have hs : (μ.set i (SO.lst [IV.int a, IV.int b, IV.int (c + 1)]))[i]? = some (SO.lst [IV.int a, IV.int b, IV.int (c + 1)]) := set_at hw
    have b1 : atI [IV.int a, IV.int b, IV.int (c + 1)] 1 = some (.int b) := rfl
    have b2 : atI [IV.int a, IV.int b, IV.int (c + 1)] 2 = some (.int (c + 1)) := rfl
    have c1 : ∀ x : Int, mulV (.int 65537) (.int x) = some (.int (65537 * x)) := fun x => mulV_int (.inl (by decide))
    have c2 : ∀ x : Int, modV (.int x) (.int 2147483629) = some (.int (x % 2147483629)) := fun x => modV_int (by decide)
    have c3 : ∀ x : Int, modV (.int x) (.int 2147483587) = some (.int (x % 2147483587)) := fun x => modV_int (by decide)
    have c4 : ∀ x : Int, modV (.int x) (.int 2147483563) = some (.int (x % 2147483563)) := fun x => modV_int (by decide)
    have c5 : ∀ x : Int, divV (.int x) (.int 997) = some (.int (x / 997)) := fun x => divV_int (by decide) (by decide)
    have c6 : ∀ x : Int, divV (.int x) (.int 2003) = some (.int (x / 2003)) := fun x => divV_int (by decide) (by decide)
    have c7 : ∀ x : Int, divV (.int x) (.int 5) = some (.int (x / 5)) := fun x => divV_int (by decide) (by decide)
    have c8 : ∀ x y : Int, mulV (.int (x % 2147483629)) (.int y) = some (.int ((x % 2147483629) * y)) := fun x y => mulV_int (mod_small _ _ _ (by decide) (by decide))
    have c9 : ∀ x y : Int, mulV (.int (x % 2147483587)) (.int y) = some (.int ((x % 2147483587) * y)) := fun x y => mulV_int (mod_small _ _ _ (by decide) (by decide))
    simp (config := { failIfUnchanged := false, decide := false }) only [W_bind, W_pure, W_no, W_opt, W_nox, W_op, W_un, W_C, W_varM, W_tst, W_boolM, W_ifB, W_notT, W_andT, W_orT, W_ifE, W_andV, W_orV, W_notV, W_chain, W_nil, W_cons, W_ap, W_apL, W_fl, W_nx, W_brk, W_cnt, W_seq, W_set, W_own, W_ret, W_retN, W_drop, W_if, W_call, W_make, W_fld, W_ix, W_part, W_noPart, W_sl, W_itL, W_itT, W_itS, W_for, W_forNil, W_while, W_gset, W_gcons, W_gnil, W_par2, W_fzM, W_rf, W_ownA, W_setIx, WF_run, WF_ok, WF_arM, eq_self, setE_mk, List.map_cons, List.map_nil, List.length_cons, List.length_nil, List.replicate, List.cons_append, List.nil_append, List.append_nil, List.set_cons_zero, List.set_cons_succ, List.getElem?_cons_zero, List.getElem?_cons_succ, Nat.reduceAdd, Nat.reduceSub, Nat.sub_zero, if_true, if_false, Bool.false_eq_true, and_self, and_true, true_and, Int.reduceLT, Int.reduceLE, Nat.reduceLeDiff, Nat.reduceLT, decide_true, decide_false, Bool.not_true, Bool.not_false, addV_int, subV_int, negV_int, ltV_int, leV_int, gtV_int, geV_int, eqV_int, neV_int, eqV_str, neV_str, intV_int, intV_bl, lenV_fl, lenV_tup, listV_fl, tupleV_fl, ixS_fl, ixS_tup, enm_fl, tupV, lstV, szL, szl, addV_fl, W_ownIxM, W_appM, W_parVN, W_parNV, W_parNN, W_parVVN, minV_int, maxV_int, scI, W_selfM, WI_run, WI_end, WI_ok, Int.cast_ofNat_Int, Int.reduceBEq, Int.reduceBNe, beq_self_eq_true, Bool.not_eq_true, Bool.and_true, Bool.true_and, W_gtupM, W_opL, W_ownSet, ixS_ref hw, hw, a0, a2, n2, ixS_ref hs, b1, b2, c1, c2, c3, c4, c5, c6, c7, c8, c9, mm]
    exact hQ _ _ (Int.emod_nonneg _ (by omega)) (Int.emod_lt_of_pos _ h0) ⟨_, _, _, hs⟩ (by simp)
theorem pick_ok (Z : Ad) (i : Nat) (l : List IV) (μ : List SO) (Q : IV → List SO → Prop) (hw : Well μ i) (h0 : 0 < l.length) (h1 : l.length < 1000) (hQ : ∀ v μ', v ∈ l → Well μ' i → μ'.length = μ.length → Q v μ') :
    WF (fn__law_pick Z [.ref i, .fl l] μ) Q := by
  unfold fn__law_pick m__law_pick
  simp (config := { failIfUnchanged := false, decide := false }) only [W_bind, W_pure, W_no, W_opt, W_nox, W_op, W_un, W_C, W_varM, W_tst, W_boolM, W_ifB, W_notT, W_andT, W_orT, W_ifE, W_andV, W_orV, W_notV, W_chain, W_nil, W_cons, W_ap, W_apL, W_fl, W_nx, W_brk, W_cnt, W_seq, W_set, W_own, W_ret, W_retN, W_drop, W_if, W_call, W_make, W_fld, W_ix, W_part, W_noPart, W_sl, W_itL, W_itT, W_itS, W_for, W_forNil, W_while, W_gset, W_gcons, W_gnil, W_par2, W_fzM, W_rf, W_ownA, W_setIx, WF_run, WF_ok, WF_arM, eq_self, setE_mk, List.map_cons, List.map_nil, List.length_cons, List.length_nil, List.replicate, List.cons_append, List.nil_append, List.append_nil, List.set_cons_zero, List.set_cons_succ, List.getElem?_cons_zero, List.getElem?_cons_succ, Nat.reduceAdd, Nat.reduceSub, Nat.sub_zero, if_true, if_false, Bool.false_eq_true, and_self, and_true, true_and, Int.reduceLT, Int.reduceLE, Nat.reduceLeDiff, Nat.reduceLT, decide_true, decide_false, Bool.not_true, Bool.not_false, addV_int, subV_int, negV_int, ltV_int, leV_int, gtV_int, geV_int, eqV_int, neV_int, eqV_str, neV_str, intV_int, intV_bl, lenV_fl, lenV_tup, listV_fl, tupleV_fl, ixS_fl, ixS_tup, enm_fl, tupV, lstV, szL, szl, addV_fl, W_ownIxM, W_appM, W_parVN, W_parNV, W_parNN, W_parVVN, minV_int, maxV_int, scI, W_selfM, WI_run, WI_end, WI_ok, Int.cast_ofNat_Int, Int.reduceBEq, Int.reduceBNe, beq_self_eq_true, Bool.not_eq_true, Bool.and_true, Bool.true_and, W_gtupM, W_opL, W_ownSet]
  refine draw_ok Z i _ μ _ hw (by omega) (by omega) fun v μ' v0 v1 hw' hl => ?_
  obtain ⟨n, rfl⟩ := Int.eq_ofNat_of_zero_le v0
  have hn : n < l.length := by omega
  rw [ixS_fl, atI_n hn, List.getElem?_eq_getElem hn]
  exact hQ _ _ (List.getElem_mem hn) hw' hl
def Some4 (n : Nat) (l : List IV) : Prop := ∃ ps : List Nat, l = ps.map nI ∧ ps.length = 4 ∧ ∀ p ∈ ps, p < n
theorem cutL_sub {α : Type} {l : List α} {lo hi : Option Int} : ∀ x ∈ cutL l lo hi, x ∈ l := fun x h => List.mem_of_mem_drop (List.mem_of_mem_take h)
theorem cutL_len {α : Type} {l : List α} {lo hi : Option Int} : (cutL l lo hi).length ≤ l.length := by unfold cutL; simp; omega
theorem cutL_map {α β : Type} {f : α → β} {l : List α} {lo hi : Option Int} : cutL (l.map f) lo hi = (cutL l lo hi).map f := by unfold cutL; simp
theorem row_ok (Z : Ad) (i n : Nat) (μ : List SO) (Q : IV → List SO → Prop) (hw : Well μ i) (hn : n ≤ 1000) (hQ : ∀ (r : Row) μ', r.ok n → Well μ' i → μ'.length = μ.length → Q r.iv μ') :
    WF (fn__law_row Z [.ref i, nI n] μ) Q := by
  have leaf : ∀ (way : Int) μ1, way < 4 → Well μ1 i → μ1.length = μ.length → WF (fn__law_pick Z [.ref i, .fl ([Row.text "a", .text "bcd", .text "efghij", .text "", .line " ", .line " ", .line "", .line ", ", .hard].map Row.iv)] μ1) Q := by
    intro way μ1 _ hw1 hl1
    refine pick_ok Z i _ μ1 _ hw1 (by simp) (by simp) fun v μ' hv hw' hl' => ?_
    obtain ⟨r, hr, rfl⟩ := List.mem_map.mp hv
    refine hQ r μ' ?_ hw' (hl'.trans hl1)
    simp only [List.mem_cons, List.not_mem_nil, or_false] at hr
    rcases hr with h | h | h | h | h | h | h | h | h <;> subst h
    · exact (by decide +kernel : ("a" : Str).length ≤ 20 ∧ ∀ c ∈ ("a" : Str).cps.toList, 32 ≤ c ∧ c ≤ 126)
    · exact (by decide +kernel : ("bcd" : Str).length ≤ 20 ∧ ∀ c ∈ ("bcd" : Str).cps.toList, 32 ≤ c ∧ c ≤ 126)
    · exact (by decide +kernel : ("efghij" : Str).length ≤ 20 ∧ ∀ c ∈ ("efghij" : Str).cps.toList, 32 ≤ c ∧ c ≤ 126)
    · exact (by decide +kernel : ("" : Str).length ≤ 20 ∧ ∀ c ∈ ("" : Str).cps.toList, 32 ≤ c ∧ c ≤ 126)
    · exact (by decide +kernel : (" " : Str).length ≤ 3 ∧ ∀ c ∈ (" " : Str).cps.toList, 32 ≤ c ∧ c ≤ 126)
    · exact (by decide +kernel : (" " : Str).length ≤ 3 ∧ ∀ c ∈ (" " : Str).cps.toList, 32 ≤ c ∧ c ≤ 126)
    · exact (by decide +kernel : ("" : Str).length ≤ 3 ∧ ∀ c ∈ ("" : Str).cps.toList, 32 ≤ c ∧ c ≤ 126)
    · exact (by decide +kernel : (", " : Str).length ≤ 3 ∧ ∀ c ∈ (", " : Str).cps.toList, 32 ≤ c ∧ c ≤ 126)
    · exact trivial
  unfold fn__law_row m__law_row
  simp (config := { failIfUnchanged := false, decide := false }) only [W_bind, W_pure, W_no, W_opt, W_nox, W_op, W_un, W_C, W_varM, W_tst, W_boolM, W_ifB, W_notT, W_andT, W_orT, W_ifE, W_andV, W_orV, W_notV, W_chain, W_nil, W_cons, W_ap, W_apL, W_fl, W_nx, W_brk, W_cnt, W_seq, W_set, W_own, W_ret, W_retN, W_drop, W_if, W_call, W_make, W_fld, W_ix, W_part, W_noPart, W_sl, W_itL, W_itT, W_itS, W_for, W_forNil, W_while, W_gset, W_gcons, W_gnil, W_par2, W_fzM, W_rf, W_ownA, W_setIx, WF_run, WF_ok, WF_arM, eq_self, setE_mk, List.map_cons, List.map_nil, List.length_cons, List.length_nil, List.replicate, List.cons_append, List.nil_append, List.append_nil, List.set_cons_zero, List.set_cons_succ, List.getElem?_cons_zero, List.getElem?_cons_succ, Nat.reduceAdd, Nat.reduceSub, Nat.sub_zero, if_true, if_false, Bool.false_eq_true, and_self, and_true, true_and, Int.reduceLT, Int.reduceLE, Nat.reduceLeDiff, Nat.reduceLT, decide_true, decide_false, Bool.not_true, Bool.not_false, addV_int, subV_int, negV_int, ltV_int, leV_int, gtV_int, geV_int, eqV_int, neV_int, eqV_str, neV_str, intV_int, intV_bl, lenV_fl, lenV_tup, listV_fl, tupleV_fl, ixS_fl, ixS_tup, enm_fl, tupV, lstV, szL, szl, addV_fl, W_ownIxM, W_appM, W_parVN, W_parNV, W_parNN, W_parVVN, minV_int, maxV_int, scI, W_selfM, WI_run, WI_end, WI_ok, Int.cast_ofNat_Int, Int.reduceBEq, Int.reduceBNe, beq_self_eq_true, Bool.not_eq_true, Bool.and_true, Bool.true_and, W_gtupM, W_opL, W_ownSet]
  by_cases h2 : (2 : Int) < n
  · rw [decide_eq_true h2, if_pos rfl]
    refine draw_ok Z i 14 μ _ hw (by decide) (by decide) fun way μ1 w0 w1 hw1 hl1 => ?_
    simp (config := { failIfUnchanged := false, decide := false }) only [W_bind, W_pure, W_no, W_opt, W_nox, W_op, W_un, W_C, W_varM, W_tst, W_boolM, W_ifB, W_notT, W_andT, W_orT, W_ifE, W_andV, W_orV, W_notV, W_chain, W_nil, W_cons, W_ap, W_apL, W_fl, W_nx, W_brk, W_cnt, W_seq, W_set, W_own, W_ret, W_retN, W_drop, W_if, W_call, W_make, W_fld, W_ix, W_part, W_noPart, W_sl, W_itL, W_itT, W_itS, W_for, W_forNil, W_while, W_gset, W_gcons, W_gnil, W_par2, W_fzM, W_rf, W_ownA, W_setIx, WF_run, WF_ok, WF_arM, eq_self, setE_mk, List.map_cons, List.map_nil, List.length_cons, List.length_nil, List.replicate, List.cons_append, List.nil_append, List.append_nil, List.set_cons_zero, List.set_cons_succ, List.getElem?_cons_zero, List.getElem?_cons_succ, Nat.reduceAdd, Nat.reduceSub, Nat.sub_zero, if_true, if_false, Bool.false_eq_true, and_self, and_true, true_and, Int.reduceLT, Int.reduceLE, Nat.reduceLeDiff, Nat.reduceLT, decide_true, decide_false, Bool.not_true, Bool.not_false, addV_int, subV_int, negV_int, ltV_int, leV_int, gtV_int, geV_int, eqV_int, neV_int, eqV_str, neV_str, intV_int, intV_bl, lenV_fl, lenV_tup, listV_fl, tupleV_fl, ixS_fl, ixS_tup, enm_fl, tupV, lstV, szL, szl, addV_fl, W_ownIxM, W_appM, W_parVN, W_parNV, W_parNN, W_parVVN, minV_int, maxV_int, scI, W_selfM, WI_run, WI_end, WI_ok, Int.cast_ofNat_Int, Int.reduceBEq, Int.reduceBNe, beq_self_eq_true, Bool.not_eq_true, Bool.and_true, Bool.true_and, W_gtupM, W_opL, W_ownSet]
    by_cases h4 : way < 4
    · rw [decide_eq_true h4, if_pos rfl]
      exact leaf way μ1 h4 hw1 hl1
    · rw [decide_eq_false h4, if_neg (by decide)]
      refine W_compI (fun acc s => ∃ (ps : List Nat) (μ2 : List SO), acc = ps.map nI ∧ (∀ p ∈ ps, p < n) ∧ s = ⟨[.val (.ref i), .val (nI n), .val (.int way), .emp, .emp], μ2⟩ ∧ Well μ2 i ∧ μ2.length = μ.length) ?_
      have r4 : rng1 [.int 4] = some (rngL 0 4) := rfl
      simp (config := { failIfUnchanged := false, decide := false }) only [W_bind, W_pure, W_no, W_opt, W_nox, W_op, W_un, W_C, W_varM, W_tst, W_boolM, W_ifB, W_notT, W_andT, W_orT, W_ifE, W_andV, W_orV, W_notV, W_chain, W_nil, W_cons, W_ap, W_apL, W_fl, W_nx, W_brk, W_cnt, W_seq, W_set, W_own, W_ret, W_retN, W_drop, W_if, W_call, W_make, W_fld, W_ix, W_part, W_noPart, W_sl, W_itL, W_itT, W_itS, W_for, W_forNil, W_while, W_gset, W_gcons, W_gnil, W_par2, W_fzM, W_rf, W_ownA, W_setIx, WF_run, WF_ok, WF_arM, eq_self, setE_mk, List.map_cons, List.map_nil, List.length_cons, List.length_nil, List.replicate, List.cons_append, List.nil_append, List.append_nil, List.set_cons_zero, List.set_cons_succ, List.getElem?_cons_zero, List.getElem?_cons_succ, Nat.reduceAdd, Nat.reduceSub, Nat.sub_zero, if_true, if_false, Bool.false_eq_true, and_self, and_true, true_and, Int.reduceLT, Int.reduceLE, Nat.reduceLeDiff, Nat.reduceLT, decide_true, decide_false, Bool.not_true, Bool.not_false, addV_int, subV_int, negV_int, ltV_int, leV_int, gtV_int, geV_int, eqV_int, neV_int, eqV_str, neV_str, intV_int, intV_bl, lenV_fl, lenV_tup, listV_fl, tupleV_fl, ixS_fl, ixS_tup, enm_fl, tupV, lstV, szL, szl, addV_fl, W_ownIxM, W_appM, W_parVN, W_parNV, W_parNN, W_parVVN, minV_int, maxV_int, scI, W_selfM, WI_run, WI_end, WI_ok, Int.cast_ofNat_Int, Int.reduceBEq, Int.reduceBNe, beq_self_eq_true, Bool.not_eq_true, Bool.and_true, Bool.true_and, W_gtupM, W_opL, W_ownSet, r4]
      refine ⟨by simp [rngL], ⟨[], μ1, rfl, by simp, rfl, hw1, hl1⟩, ?_, ?_⟩
      · rintro acc x s ⟨ps, μ2, rfl, hp, rfl, hw2, hl2⟩
        simp (config := { failIfUnchanged := false, decide := false }) only [W_bind, W_pure, W_no, W_opt, W_nox, W_op, W_un, W_C, W_varM, W_tst, W_boolM, W_ifB, W_notT, W_andT, W_orT, W_ifE, W_andV, W_orV, W_notV, W_chain, W_nil, W_cons, W_ap, W_apL, W_fl, W_nx, W_brk, W_cnt, W_seq, W_set, W_own, W_ret, W_retN, W_drop, W_if, W_call, W_make, W_fld, W_ix, W_part, W_noPart, W_sl, W_itL, W_itT, W_itS, W_for, W_forNil, W_while, W_gset, W_gcons, W_gnil, W_par2, W_fzM, W_rf, W_ownA, W_setIx, WF_run, WF_ok, WF_arM, eq_self, setE_mk, List.map_cons, List.map_nil, List.length_cons, List.length_nil, List.replicate, List.cons_append, List.nil_append, List.append_nil, List.set_cons_zero, List.set_cons_succ, List.getElem?_cons_zero, List.getElem?_cons_succ, Nat.reduceAdd, Nat.reduceSub, Nat.sub_zero, if_true, if_false, Bool.false_eq_true, and_self, and_true, true_and, Int.reduceLT, Int.reduceLE, Nat.reduceLeDiff, Nat.reduceLT, decide_true, decide_false, Bool.not_true, Bool.not_false, addV_int, subV_int, negV_int, ltV_int, leV_int, gtV_int, geV_int, eqV_int, neV_int, eqV_str, neV_str, intV_int, intV_bl, lenV_fl, lenV_tup, listV_fl, tupleV_fl, ixS_fl, ixS_tup, enm_fl, tupV, lstV, szL, szl, addV_fl, W_ownIxM, W_appM, W_parVN, W_parNV, W_parNN, W_parVVN, minV_int, maxV_int, scI, W_selfM, WI_run, WI_end, WI_ok, Int.cast_ofNat_Int, Int.reduceBEq, Int.reduceBNe, beq_self_eq_true, Bool.not_eq_true, Bool.and_true, Bool.true_and, W_gtupM, W_opL, W_ownSet, minV]
        refine draw_ok Z i _ μ2 _ hw2 (by split <;> omega) (by split <;> omega) fun v μ3 v0 v1 hw3 hl3 => ?_
        simp (config := { failIfUnchanged := false, decide := false }) only [W_bind, W_pure, W_no, W_opt, W_nox, W_op, W_un, W_C, W_varM, W_tst, W_boolM, W_ifB, W_notT, W_andT, W_orT, W_ifE, W_andV, W_orV, W_notV, W_chain, W_nil, W_cons, W_ap, W_apL, W_fl, W_nx, W_brk, W_cnt, W_seq, W_set, W_own, W_ret, W_retN, W_drop, W_if, W_call, W_make, W_fld, W_ix, W_part, W_noPart, W_sl, W_itL, W_itT, W_itS, W_for, W_forNil, W_while, W_gset, W_gcons, W_gnil, W_par2, W_fzM, W_rf, W_ownA, W_setIx, WF_run, WF_ok, WF_arM, eq_self, setE_mk, List.map_cons, List.map_nil, List.length_cons, List.length_nil, List.replicate, List.cons_append, List.nil_append, List.append_nil, List.set_cons_zero, List.set_cons_succ, List.getElem?_cons_zero, List.getElem?_cons_succ, Nat.reduceAdd, Nat.reduceSub, Nat.sub_zero, if_true, if_false, Bool.false_eq_true, and_self, and_true, true_and, Int.reduceLT, Int.reduceLE, Nat.reduceLeDiff, Nat.reduceLT, decide_true, decide_false, Bool.not_true, Bool.not_false, addV_int, subV_int, negV_int, ltV_int, leV_int, gtV_int, geV_int, eqV_int, neV_int, eqV_str, neV_str, intV_int, intV_bl, lenV_fl, lenV_tup, listV_fl, tupleV_fl, ixS_fl, ixS_tup, enm_fl, tupV, lstV, szL, szl, addV_fl, W_ownIxM, W_appM, W_parVN, W_parNV, W_parNN, W_parVVN, minV_int, maxV_int, scI, W_selfM, WI_run, WI_end, WI_ok, Int.cast_ofNat_Int, Int.reduceBEq, Int.reduceBNe, beq_self_eq_true, Bool.not_eq_true, Bool.and_true, Bool.true_and, W_gtupM, W_opL, W_ownSet]
        obtain ⟨k, rfl⟩ := Int.eq_ofNat_of_zero_le v0
        refine ⟨ps ++ [n - 1 - k], μ3, ?_, ?_, rfl, hw3, hl3.trans hl2⟩
        · have : (k : Int) < n := by split at v1 <;> omega
          rw [List.map_append, List.map_singleton]
          congr 3
          omega
        · intro p hp'
          have : (k : Int) < n := by split at v1 <;> omega
          rcases List.mem_append.mp hp' with h | h
          · exact hp p h
          · have := List.mem_singleton.mp h
            omega
      · rintro acc s hacc ⟨ps, μ2, rfl, hp, rfl, hw2, hl2⟩
        have hlen : ps.length = 4 := by simpa [rngL] using hacc
        obtain ⟨a, b, c, d, rfl⟩ : ∃ a b c d, ps = [a, b, c, d] := by
          match ps, hlen with
          | [a, b, c, d], _ => exact ⟨a, b, c, d, rfl⟩
        have at0 : ∀ r : List IV, atI (nI a :: r) 0 = some (nI a) := fun r => by rw [show (0 : Int) = ((0 : Nat) : Int) from rfl, Mi.atI_n (by simp)]; rfl
        have ha : a < n := hp a (by simp)
        have l2 : μ2.length = μ.length := hl2
        simp (config := { failIfUnchanged := false, decide := false }) only [W_bind, W_pure, W_no, W_opt, W_nox, W_op, W_un, W_C, W_varM, W_tst, W_boolM, W_ifB, W_notT, W_andT, W_orT, W_ifE, W_andV, W_orV, W_notV, W_chain, W_nil, W_cons, W_ap, W_apL, W_fl, W_nx, W_brk, W_cnt, W_seq, W_set, W_own, W_ret, W_retN, W_drop, W_if, W_call, W_make, W_fld, W_ix, W_part, W_noPart, W_sl, W_itL, W_itT, W_itS, W_for, W_forNil, W_while, W_gset, W_gcons, W_gnil, W_par2, W_fzM, W_rf, W_ownA, W_setIx, WF_run, WF_ok, WF_arM, eq_self, setE_mk, List.map_cons, List.map_nil, List.length_cons, List.length_nil, List.replicate, List.cons_append, List.nil_append, List.append_nil, List.set_cons_zero, List.set_cons_succ, List.getElem?_cons_zero, List.getElem?_cons_succ, Nat.reduceAdd, Nat.reduceSub, Nat.sub_zero, if_true, if_false, Bool.false_eq_true, and_self, and_true, true_and, Int.reduceLT, Int.reduceLE, Nat.reduceLeDiff, Nat.reduceLT, decide_true, decide_false, Bool.not_true, Bool.not_false, addV_int, subV_int, negV_int, ltV_int, leV_int, gtV_int, geV_int, eqV_int, neV_int, eqV_str, neV_str, intV_int, intV_bl, lenV_fl, lenV_tup, listV_fl, tupleV_fl, ixS_fl, ixS_tup, enm_fl, tupV, lstV, szL, szl, addV_fl, W_ownIxM, W_appM, W_parVN, W_parNV, W_parNN, W_parVVN, minV_int, maxV_int, scI, W_selfM, WI_run, WI_end, WI_ok, Int.cast_ofNat_Int, Int.reduceBEq, Int.reduceBNe, beq_self_eq_true, Bool.not_eq_true, Bool.and_true, Bool.true_and, W_gtupM, W_opL, W_ownSet, at0]
        by_cases h7 : way < 7
        · rw [decide_eq_true h7, if_pos rfl]
          exact hQ (.group a) μ2 ha hw2 l2
        rw [decide_eq_false h7, if_neg (by decide)]
        by_cases h7 : way = 7
        · subst h7
          rw [if_pos (by decide)]
          refine draw_ok Z i 5 μ2 _ hw2 (by decide) (by decide) fun v μ3 v0 v1 hw3 hl3 => ?_
          obtain ⟨k, rfl⟩ := Int.eq_ofNat_of_zero_le v0
          exact hQ (.nest k a) μ3 ⟨by omega, ha⟩ hw3 (hl3.trans l2)
        rw [if_neg (by simpa using h7)]
        by_cases h8 : way = 8
        · subst h8
          rw [if_pos (by decide)]
          exact hQ (.align a) μ2 ha hw2 l2
        rw [if_neg (by simpa using h8)]
        refine pick_ok Z i _ μ2 _ hw2 (by simp) (by simp) fun v μ3 hv hw3 hl3 => ?_
        obtain ⟨j, rfl⟩ : ∃ j : Int, v = .int j := by
          simp only [List.mem_cons, List.not_mem_nil, or_false] at hv
          rcases hv with h | h | h | h | h | h | h <;> exact ⟨_, h⟩
        have e : slV (.fl [nI a, nI b, nI c, nI d, nI a, nI b, nI c, nI d]) none (some j) = some (.fl ((cutL [a, b, c, d, a, b, c, d] none (some j)).map nI)) := by
          rw [← cutL_map]; rfl
        simp (config := { failIfUnchanged := false, decide := false }) only [W_bind, W_pure, W_no, W_opt, W_nox, W_op, W_un, W_C, W_varM, W_tst, W_boolM, W_ifB, W_notT, W_andT, W_orT, W_ifE, W_andV, W_orV, W_notV, W_chain, W_nil, W_cons, W_ap, W_apL, W_fl, W_nx, W_brk, W_cnt, W_seq, W_set, W_own, W_ret, W_retN, W_drop, W_if, W_call, W_make, W_fld, W_ix, W_part, W_noPart, W_sl, W_itL, W_itT, W_itS, W_for, W_forNil, W_while, W_gset, W_gcons, W_gnil, W_par2, W_fzM, W_rf, W_ownA, W_setIx, WF_run, WF_ok, WF_arM, eq_self, setE_mk, List.map_cons, List.map_nil, List.length_cons, List.length_nil, List.replicate, List.cons_append, List.nil_append, List.append_nil, List.set_cons_zero, List.set_cons_succ, List.getElem?_cons_zero, List.getElem?_cons_succ, Nat.reduceAdd, Nat.reduceSub, Nat.sub_zero, if_true, if_false, Bool.false_eq_true, and_self, and_true, true_and, Int.reduceLT, Int.reduceLE, Nat.reduceLeDiff, Nat.reduceLT, decide_true, decide_false, Bool.not_true, Bool.not_false, addV_int, subV_int, negV_int, ltV_int, leV_int, gtV_int, geV_int, eqV_int, neV_int, eqV_str, neV_str, intV_int, intV_bl, lenV_fl, lenV_tup, listV_fl, tupleV_fl, ixS_fl, ixS_tup, enm_fl, tupV, lstV, szL, szl, addV_fl, W_ownIxM, W_appM, W_parVN, W_parNV, W_parNN, W_parVVN, minV_int, maxV_int, scI, W_selfM, WI_run, WI_end, WI_ok, Int.cast_ofNat_Int, Int.reduceBEq, Int.reduceBNe, beq_self_eq_true, Bool.not_eq_true, Bool.and_true, Bool.true_and, W_gtupM, W_opL, W_ownSet, e]
        refine hQ (.cat (cutL [a, b, c, d, a, b, c, d] none (some j))) μ3 ⟨Nat.le_trans cutL_len (by simp), fun p h => ?_⟩ hw3 (hl3.trans l2)
        have := cutL_sub p h
        simp only [List.mem_cons, List.not_mem_nil, or_false] at this
        rcases this with h | h | h | h | h | h | h | h <;> subst h <;> exact hp _ (by simp)
  · rw [decide_eq_false h2, if_neg (by decide)]
    refine draw_ok Z i 4 μ _ hw (by decide) (by decide) fun way μ1 w0 w1 hw1 hl1 => ?_
    simp (config := { failIfUnchanged := false, decide := false }) only [W_bind, W_pure, W_no, W_opt, W_nox, W_op, W_un, W_C, W_varM, W_tst, W_boolM, W_ifB, W_notT, W_andT, W_orT, W_ifE, W_andV, W_orV, W_notV, W_chain, W_nil, W_cons, W_ap, W_apL, W_fl, W_nx, W_brk, W_cnt, W_seq, W_set, W_own, W_ret, W_retN, W_drop, W_if, W_call, W_make, W_fld, W_ix, W_part, W_noPart, W_sl, W_itL, W_itT, W_itS, W_for, W_forNil, W_while, W_gset, W_gcons, W_gnil, W_par2, W_fzM, W_rf, W_ownA, W_setIx, WF_run, WF_ok, WF_arM, eq_self, setE_mk, List.map_cons, List.map_nil, List.length_cons, List.length_nil, List.replicate, List.cons_append, List.nil_append, List.append_nil, List.set_cons_zero, List.set_cons_succ, List.getElem?_cons_zero, List.getElem?_cons_succ, Nat.reduceAdd, Nat.reduceSub, Nat.sub_zero, if_true, if_false, Bool.false_eq_true, and_self, and_true, true_and, Int.reduceLT, Int.reduceLE, Nat.reduceLeDiff, Nat.reduceLT, decide_true, decide_false, Bool.not_true, Bool.not_false, addV_int, subV_int, negV_int, ltV_int, leV_int, gtV_int, geV_int, eqV_int, neV_int, eqV_str, neV_str, intV_int, intV_bl, lenV_fl, lenV_tup, listV_fl, tupleV_fl, ixS_fl, ixS_tup, enm_fl, tupV, lstV, szL, szl, addV_fl, W_ownIxM, W_appM, W_parVN, W_parNV, W_parNN, W_parVVN, minV_int, maxV_int, scI, W_selfM, WI_run, WI_end, WI_ok, Int.cast_ofNat_Int, Int.reduceBEq, Int.reduceBNe, beq_self_eq_true, Bool.not_eq_true, Bool.and_true, Bool.true_and, W_gtupM, W_opL, W_ownSet]
    rw [decide_eq_true w1, if_pos rfl]
    exact leaf way μ1 w1 hw1 hl1
theorem rows_ok (Z : Ad) (i : Nat) (μ : List SO) (Q : IV → List SO → Prop) (hw : Well μ i) (hQ : ∀ (rs : List Row) μ', rs ≠ [] → rs.length ≤ 16 → RowsOk rs → (∀ t ∈ vals fT rs, t ≤ 150) → Well μ' i → μ'.length = μ.length → Q (.fl (rs.map Row.iv)) μ') :
    WF (fn__law_rows Z [.ref i] μ) Q := by
  unfold fn__law_rows m__law_rows
  simp (config := { failIfUnchanged := false, decide := false }) only [W_bind, W_pure, W_no, W_opt, W_nox, W_op, W_un, W_C, W_varM, W_tst, W_boolM, W_ifB, W_notT, W_andT, W_orT, W_ifE, W_andV, W_orV, W_notV, W_chain, W_nil, W_cons, W_ap, W_apL, W_fl, W_nx, W_brk, W_cnt, W_seq, W_set, W_own, W_ret, W_retN, W_drop, W_if, W_call, W_make, W_fld, W_ix, W_part, W_noPart, W_sl, W_itL, W_itT, W_itS, W_for, W_forNil, W_while, W_gset, W_gcons, W_gnil, W_par2, W_fzM, W_rf, W_ownA, W_setIx, WF_run, WF_ok, WF_arM, eq_self, setE_mk, List.map_cons, List.map_nil, List.length_cons, List.length_nil, List.replicate, List.cons_append, List.nil_append, List.append_nil, List.set_cons_zero, List.set_cons_succ, List.getElem?_cons_zero, List.getElem?_cons_succ, Nat.reduceAdd, Nat.reduceSub, Nat.sub_zero, if_true, if_false, Bool.false_eq_true, and_self, and_true, true_and, Int.reduceLT, Int.reduceLE, Nat.reduceLeDiff, Nat.reduceLT, decide_true, decide_false, Bool.not_true, Bool.not_false, addV_int, subV_int, negV_int, ltV_int, leV_int, gtV_int, geV_int, eqV_int, neV_int, eqV_str, neV_str, intV_int, intV_bl, lenV_fl, lenV_tup, listV_fl, tupleV_fl, ixS_fl, ixS_tup, enm_fl, tupV, lstV, szL, szl, addV_fl, W_ownIxM, W_appM, W_parVN, W_parNV, W_parNN, W_parVVN, minV_int, maxV_int, scI, W_selfM, WI_run, WI_end, WI_ok, Int.cast_ofNat_Int, Int.reduceBEq, Int.reduceBNe, beq_self_eq_true, Bool.not_eq_true, Bool.and_true, Bool.true_and, W_gtupM, W_opL, W_ownSet]
  refine draw_ok Z i 12 μ _ hw (by decide) (by decide) fun d μ1 d0 d1 hw1 hl1 => ?_
  simp (config := { failIfUnchanged := false, decide := false }) only [W_bind, W_pure, W_no, W_opt, W_nox, W_op, W_un, W_C, W_varM, W_tst, W_boolM, W_ifB, W_notT, W_andT, W_orT, W_ifE, W_andV, W_orV, W_notV, W_chain, W_nil, W_cons, W_ap, W_apL, W_fl, W_nx, W_brk, W_cnt, W_seq, W_set, W_own, W_ret, W_retN, W_drop, W_if, W_call, W_make, W_fld, W_ix, W_part, W_noPart, W_sl, W_itL, W_itT, W_itS, W_for, W_forNil, W_while, W_gset, W_gcons, W_gnil, W_par2, W_fzM, W_rf, W_ownA, W_setIx, WF_run, WF_ok, WF_arM, eq_self, setE_mk, List.map_cons, List.map_nil, List.length_cons, List.length_nil, List.replicate, List.cons_append, List.nil_append, List.append_nil, List.set_cons_zero, List.set_cons_succ, List.getElem?_cons_zero, List.getElem?_cons_succ, Nat.reduceAdd, Nat.reduceSub, Nat.sub_zero, if_true, if_false, Bool.false_eq_true, and_self, and_true, true_and, Int.reduceLT, Int.reduceLE, Nat.reduceLeDiff, Nat.reduceLT, decide_true, decide_false, Bool.not_true, Bool.not_false, addV_int, subV_int, negV_int, ltV_int, leV_int, gtV_int, geV_int, eqV_int, neV_int, eqV_str, neV_str, intV_int, intV_bl, lenV_fl, lenV_tup, listV_fl, tupleV_fl, ixS_fl, ixS_tup, enm_fl, tupV, lstV, szL, szl, addV_fl, W_ownIxM, W_appM, W_parVN, W_parNV, W_parNN, W_parVVN, minV_int, maxV_int, scI, W_selfM, WI_run, WI_end, WI_ok, Int.cast_ofNat_Int, Int.reduceBEq, Int.reduceBNe, beq_self_eq_true, Bool.not_eq_true, Bool.and_true, Bool.true_and, W_gtupM, W_opL, W_ownSet]
  rw [rng1_of (by omega) (by omega)]
  refine W_forI (fun k s => ∃ (rs : List Row) (μ' : List SO) (a b c d e : Slot), s = ⟨[.val (.ref i), .own (rs.map Row.iv), .own ((vals fT rs).map nI), a, b, c, d, e], μ'⟩ ∧ rs.length ≤ k ∧ (0 < k → rs ≠ []) ∧ RowsOk rs ∧ (∀ t ∈ vals fT rs, t ≤ 150) ∧ Well μ' i ∧ μ'.length = μ.length)
    _ 0 _ ⟨[], μ1, .emp, .emp, .emp, .emp, .emp, rfl, Nat.le_refl _, fun h => absurd h (by decide), fun k r h => by simp at h, by simp [vals], hw1, hl1⟩ ?_ ?_
  · rintro k x s hk ⟨rs, μ2, a, b, c, dd, e, rfl, hl, hne, hok, ht, hw2, hl2⟩
    have hkd : k < (5 + d).toNat := by
      have := (List.getElem?_eq_some_iff.mp hk).1
      simpa [rngL] using this
    have hk16 : k < 16 := by omega
    obtain rfl : x = nI k := by
      unfold rngL at hk
      rw [List.getElem?_map, List.getElem?_range hkd] at hk
      have := Option.some.inj hk
      rw [← this]
      simp
    have hlen : (vals fT rs).length = rs.length := vals_len fT rs
    have main : ∀ (r : Row) (μ3 : List SO) (c a' e : Slot), r.ok rs.length → Well μ3 i → μ3.length = μ.length → W (mSeq (mSet 5 (mOp addV (mC (IV.int 1)) (mAp sumV (mCons (mFl (mComp [7] (mItL (mCall (fn__law_below Z) (mCons (mVar 4) mNil))) (gSet 7) tYesM (mOwnIx 2 (mVar 7)))) mNil)))) (mIf (mTst (mOp leV (mVar 5) (mC (IV.int 150)))) (mSeq (mApp 1 (mVar 4)) (mApp 2 (mVar 5))) mNx))
        ⟨[.val (.ref i), .own (rs.map Row.iv), .own ((vals fT rs).map nI), .val (nI k), .val r.iv, c, a', e], μ3⟩ fun f s2 => (f = .nx ∨ f = .ct) ∧ (∃ (rs : List Row) (μ' : List SO) (a b c d e : Slot), s2 = ⟨[.val (.ref i), .own (rs.map Row.iv), .own ((vals fT rs).map nI), a, b, c, d, e], μ'⟩ ∧ rs.length ≤ 0 + k + 1 ∧ (0 < 0 + k + 1 → rs ≠ []) ∧ RowsOk rs ∧ (∀ t ∈ vals fT rs, t ≤ 150) ∧ Well μ' i ∧ μ'.length = μ.length) := by
      intro r μ3 c a' e hr hw3 hl3
      have hp8 := hr.len
      have hplt := hr.lt
      simp (config := { failIfUnchanged := false, decide := false }) only [W_bind, W_pure, W_no, W_opt, W_nox, W_op, W_un, W_C, W_varM, W_tst, W_boolM, W_ifB, W_notT, W_andT, W_orT, W_ifE, W_andV, W_orV, W_notV, W_chain, W_nil, W_cons, W_ap, W_apL, W_fl, W_nx, W_brk, W_cnt, W_seq, W_set, W_own, W_ret, W_retN, W_drop, W_if, W_call, W_make, W_fld, W_ix, W_part, W_noPart, W_sl, W_itL, W_itT, W_itS, W_for, W_forNil, W_while, W_gset, W_gcons, W_gnil, W_par2, W_fzM, W_rf, W_ownA, W_setIx, WF_run, WF_ok, WF_arM, eq_self, setE_mk, List.map_cons, List.map_nil, List.length_cons, List.length_nil, List.replicate, List.cons_append, List.nil_append, List.append_nil, List.set_cons_zero, List.set_cons_succ, List.getElem?_cons_zero, List.getElem?_cons_succ, Nat.reduceAdd, Nat.reduceSub, Nat.sub_zero, if_true, if_false, Bool.false_eq_true, and_self, and_true, true_and, Int.reduceLT, Int.reduceLE, Nat.reduceLeDiff, Nat.reduceLT, decide_true, decide_false, Bool.not_true, Bool.not_false, addV_int, subV_int, negV_int, ltV_int, leV_int, gtV_int, geV_int, eqV_int, neV_int, eqV_str, neV_str, intV_int, intV_bl, lenV_fl, lenV_tup, listV_fl, tupleV_fl, ixS_fl, ixS_tup, enm_fl, tupV, lstV, szL, szl, addV_fl, W_ownIxM, W_appM, W_parVN, W_parNV, W_parNN, W_parVVN, minV_int, maxV_int, scI, W_selfM, WI_run, WI_end, WI_ok, Int.cast_ofNat_Int, Int.reduceBEq, Int.reduceBNe, beq_self_eq_true, Bool.not_eq_true, Bool.and_true, Bool.true_and, W_gtupM, W_opL, W_ownSet]
      refine W_compM (atF (vals fT rs)) ?_
      simp (config := { failIfUnchanged := false, decide := false }) only [W_bind, W_pure, W_no, W_opt, W_nox, W_op, W_un, W_C, W_varM, W_tst, W_boolM, W_ifB, W_notT, W_andT, W_orT, W_ifE, W_andV, W_orV, W_notV, W_chain, W_nil, W_cons, W_ap, W_apL, W_fl, W_nx, W_brk, W_cnt, W_seq, W_set, W_own, W_ret, W_retN, W_drop, W_if, W_call, W_make, W_fld, W_ix, W_part, W_noPart, W_sl, W_itL, W_itT, W_itS, W_for, W_forNil, W_while, W_gset, W_gcons, W_gnil, W_par2, W_fzM, W_rf, W_ownA, W_setIx, WF_run, WF_ok, WF_arM, eq_self, setE_mk, List.map_cons, List.map_nil, List.length_cons, List.length_nil, List.replicate, List.cons_append, List.nil_append, List.append_nil, List.set_cons_zero, List.set_cons_succ, List.getElem?_cons_zero, List.getElem?_cons_succ, Nat.reduceAdd, Nat.reduceSub, Nat.sub_zero, if_true, if_false, Bool.false_eq_true, and_self, and_true, true_and, Int.reduceLT, Int.reduceLE, Nat.reduceLeDiff, Nat.reduceLT, decide_true, decide_false, Bool.not_true, Bool.not_false, addV_int, subV_int, negV_int, ltV_int, leV_int, gtV_int, geV_int, eqV_int, neV_int, eqV_str, neV_str, intV_int, intV_bl, lenV_fl, lenV_tup, listV_fl, tupleV_fl, ixS_fl, ixS_tup, enm_fl, tupV, lstV, szL, szl, addV_fl, W_ownIxM, W_appM, W_parVN, W_parNV, W_parNN, W_parVVN, minV_int, maxV_int, scI, W_selfM, WI_run, WI_end, WI_ok, Int.cast_ofNat_Int, Int.reduceBEq, Int.reduceBNe, beq_self_eq_true, Bool.not_eq_true, Bool.and_true, Bool.true_and, W_gtupM, W_opL, W_ownSet, below_ok]
      refine ⟨by rw [List.length_map]; omega, ?_, ?_⟩
      · intro x hx
        obtain ⟨p, hp, rfl⟩ := List.mem_map.mp hx
        apply of_W
        simp (config := { failIfUnchanged := false, decide := false }) only [W_bind, W_pure, W_no, W_opt, W_nox, W_op, W_un, W_C, W_varM, W_tst, W_boolM, W_ifB, W_notT, W_andT, W_orT, W_ifE, W_andV, W_orV, W_notV, W_chain, W_nil, W_cons, W_ap, W_apL, W_fl, W_nx, W_brk, W_cnt, W_seq, W_set, W_own, W_ret, W_retN, W_drop, W_if, W_call, W_make, W_fld, W_ix, W_part, W_noPart, W_sl, W_itL, W_itT, W_itS, W_for, W_forNil, W_while, W_gset, W_gcons, W_gnil, W_par2, W_fzM, W_rf, W_ownA, W_setIx, WF_run, WF_ok, WF_arM, eq_self, setE_mk, List.map_cons, List.map_nil, List.length_cons, List.length_nil, List.replicate, List.cons_append, List.nil_append, List.append_nil, List.set_cons_zero, List.set_cons_succ, List.getElem?_cons_zero, List.getElem?_cons_succ, Nat.reduceAdd, Nat.reduceSub, Nat.sub_zero, if_true, if_false, Bool.false_eq_true, and_self, and_true, true_and, Int.reduceLT, Int.reduceLE, Nat.reduceLeDiff, Nat.reduceLT, decide_true, decide_false, Bool.not_true, Bool.not_false, addV_int, subV_int, negV_int, ltV_int, leV_int, gtV_int, geV_int, eqV_int, neV_int, eqV_str, neV_str, intV_int, intV_bl, lenV_fl, lenV_tup, listV_fl, tupleV_fl, ixS_fl, ixS_tup, enm_fl, tupV, lstV, szL, szl, addV_fl, W_ownIxM, W_appM, W_parVN, W_parNV, W_parNN, W_parVVN, minV_int, maxV_int, scI, W_selfM, WI_run, WI_end, WI_ok, Int.cast_ofNat_Int, Int.reduceBEq, Int.reduceBNe, beq_self_eq_true, Bool.not_eq_true, Bool.and_true, Bool.true_and, W_gtupM, W_opL, W_ownSet, at_nats (show p < (vals fT rs).length by rw [hlen]; exact hplt p hp)]
        rfl
      · rw [atF_map]
        simp (config := { failIfUnchanged := false, decide := false }) only [W_bind, W_pure, W_no, W_opt, W_nox, W_op, W_un, W_C, W_varM, W_tst, W_boolM, W_ifB, W_notT, W_andT, W_orT, W_ifE, W_andV, W_orV, W_notV, W_chain, W_nil, W_cons, W_ap, W_apL, W_fl, W_nx, W_brk, W_cnt, W_seq, W_set, W_own, W_ret, W_retN, W_drop, W_if, W_call, W_make, W_fld, W_ix, W_part, W_noPart, W_sl, W_itL, W_itT, W_itS, W_for, W_forNil, W_while, W_gset, W_gcons, W_gnil, W_par2, W_fzM, W_rf, W_ownA, W_setIx, WF_run, WF_ok, WF_arM, eq_self, setE_mk, List.map_cons, List.map_nil, List.length_cons, List.length_nil, List.replicate, List.cons_append, List.nil_append, List.append_nil, List.set_cons_zero, List.set_cons_succ, List.getElem?_cons_zero, List.getElem?_cons_succ, Nat.reduceAdd, Nat.reduceSub, Nat.sub_zero, if_true, if_false, Bool.false_eq_true, and_self, and_true, true_and, Int.reduceLT, Int.reduceLE, Nat.reduceLeDiff, Nat.reduceLT, decide_true, decide_false, Bool.not_true, Bool.not_false, addV_int, subV_int, negV_int, ltV_int, leV_int, gtV_int, geV_int, eqV_int, neV_int, eqV_str, neV_str, intV_int, intV_bl, lenV_fl, lenV_tup, listV_fl, tupleV_fl, ixS_fl, ixS_tup, enm_fl, tupV, lstV, szL, szl, addV_fl, W_ownIxM, W_appM, W_parVN, W_parNV, W_parNN, W_parVVN, minV_int, maxV_int, scI, W_selfM, WI_run, WI_end, WI_ok, Int.cast_ofNat_Int, Int.reduceBEq, Int.reduceBNe, beq_self_eq_true, Bool.not_eq_true, Bool.and_true, Bool.true_and, W_gtupM, W_opL, W_ownSet, sumV_nats]
        have hn : (1 : Int) + (((r.parts.map fun p => (vals fT rs).getD p 0).sum : Nat) : Int) = ((fT (vals fT rs) r : Nat) : Int) := by unfold fT; omega
        rw [hn]
        by_cases h150 : fT (vals fT rs) r ≤ 150
        · rw [decide_eq_true (show ((fT (vals fT rs) r : Nat) : Int) ≤ 150 by omega)]
          simp (config := { failIfUnchanged := false, decide := false }) only [W_bind, W_pure, W_no, W_opt, W_nox, W_op, W_un, W_C, W_varM, W_tst, W_boolM, W_ifB, W_notT, W_andT, W_orT, W_ifE, W_andV, W_orV, W_notV, W_chain, W_nil, W_cons, W_ap, W_apL, W_fl, W_nx, W_brk, W_cnt, W_seq, W_set, W_own, W_ret, W_retN, W_drop, W_if, W_call, W_make, W_fld, W_ix, W_part, W_noPart, W_sl, W_itL, W_itT, W_itS, W_for, W_forNil, W_while, W_gset, W_gcons, W_gnil, W_par2, W_fzM, W_rf, W_ownA, W_setIx, WF_run, WF_ok, WF_arM, eq_self, setE_mk, List.map_cons, List.map_nil, List.length_cons, List.length_nil, List.replicate, List.cons_append, List.nil_append, List.append_nil, List.set_cons_zero, List.set_cons_succ, List.getElem?_cons_zero, List.getElem?_cons_succ, Nat.reduceAdd, Nat.reduceSub, Nat.sub_zero, if_true, if_false, Bool.false_eq_true, and_self, and_true, true_and, Int.reduceLT, Int.reduceLE, Nat.reduceLeDiff, Nat.reduceLT, decide_true, decide_false, Bool.not_true, Bool.not_false, addV_int, subV_int, negV_int, ltV_int, leV_int, gtV_int, geV_int, eqV_int, neV_int, eqV_str, neV_str, intV_int, intV_bl, lenV_fl, lenV_tup, listV_fl, tupleV_fl, ixS_fl, ixS_tup, enm_fl, tupV, lstV, szL, szl, addV_fl, W_ownIxM, W_appM, W_parVN, W_parNV, W_parNN, W_parVVN, minV_int, maxV_int, scI, W_selfM, WI_run, WI_end, WI_ok, Int.cast_ofNat_Int, Int.reduceBEq, Int.reduceBNe, beq_self_eq_true, Bool.not_eq_true, Bool.and_true, Bool.true_and, W_gtupM, W_opL, W_ownSet, List.length_map, hlen]
          rw [if_pos (by omega), if_pos (by omega)]
          refine ⟨.inl trivial, rs ++ [r], μ3, .val (nI k), .val r.iv, .val (nI (fT (vals fT rs) r)), a', .emp, ?_, by simp; omega, fun _ => by simp, hok.snoc hr, ?_, hw3, hl3⟩
          · rw [vals_snoc, List.map_append, List.map_append]; rfl
          · rw [vals_snoc]
            intro t h
            rcases List.mem_append.mp h with h | h
            · exact ht t h
            · rw [List.mem_singleton.mp h]; exact h150
        · rw [decide_eq_false (show ¬ ((fT (vals fT rs) r : Nat) : Int) ≤ 150 by omega)]
          simp (config := { failIfUnchanged := false, decide := false }) only [W_bind, W_pure, W_no, W_opt, W_nox, W_op, W_un, W_C, W_varM, W_tst, W_boolM, W_ifB, W_notT, W_andT, W_orT, W_ifE, W_andV, W_orV, W_notV, W_chain, W_nil, W_cons, W_ap, W_apL, W_fl, W_nx, W_brk, W_cnt, W_seq, W_set, W_own, W_ret, W_retN, W_drop, W_if, W_call, W_make, W_fld, W_ix, W_part, W_noPart, W_sl, W_itL, W_itT, W_itS, W_for, W_forNil, W_while, W_gset, W_gcons, W_gnil, W_par2, W_fzM, W_rf, W_ownA, W_setIx, WF_run, WF_ok, WF_arM, eq_self, setE_mk, List.map_cons, List.map_nil, List.length_cons, List.length_nil, List.replicate, List.cons_append, List.nil_append, List.append_nil, List.set_cons_zero, List.set_cons_succ, List.getElem?_cons_zero, List.getElem?_cons_succ, Nat.reduceAdd, Nat.reduceSub, Nat.sub_zero, if_true, if_false, Bool.false_eq_true, and_self, and_true, true_and, Int.reduceLT, Int.reduceLE, Nat.reduceLeDiff, Nat.reduceLT, decide_true, decide_false, Bool.not_true, Bool.not_false, addV_int, subV_int, negV_int, ltV_int, leV_int, gtV_int, geV_int, eqV_int, neV_int, eqV_str, neV_str, intV_int, intV_bl, lenV_fl, lenV_tup, listV_fl, tupleV_fl, ixS_fl, ixS_tup, enm_fl, tupV, lstV, szL, szl, addV_fl, W_ownIxM, W_appM, W_parVN, W_parNV, W_parNN, W_parVVN, minV_int, maxV_int, scI, W_selfM, WI_run, WI_end, WI_ok, Int.cast_ofNat_Int, Int.reduceBEq, Int.reduceBNe, beq_self_eq_true, Bool.not_eq_true, Bool.and_true, Bool.true_and, W_gtupM, W_opL, W_ownSet]
          refine ⟨.inl trivial, rs, μ3, _, _, _, _, _, rfl, by omega, fun _ => ?_, hok, ht, hw3, hl3⟩
          intro he
          subst he
          have : r.parts = [] := by
            cases e : r.parts with
            | nil => rfl
            | cons p q => exact absurd (hplt p (by simp [e])) (by simp)
          exact h150 (by unfold fT; rw [this]; simp)
    generalize mSeq (mSet 5 (mOp addV (mC (IV.int 1)) (mAp sumV (mCons (mFl (mComp [7] (mItL (mCall (fn__law_below Z) (mCons (mVar 4) mNil))) (gSet 7) tYesM (mOwnIx 2 (mVar 7)))) mNil)))) (mIf (mTst (mOp leV (mVar 5) (mC (IV.int 150)))) (mSeq (mApp 1 (mVar 4)) (mApp 2 (mVar 5))) mNx) = REST at main ⊢
    have hsc : scI (.int ((rs.map Row.iv).length : Int)) = true := rfl
    simp (config := { failIfUnchanged := false, decide := false }) only [W_bind, W_pure, W_no, W_opt, W_nox, W_op, W_un, W_C, W_varM, W_tst, W_boolM, W_ifB, W_notT, W_andT, W_orT, W_ifE, W_andV, W_orV, W_notV, W_chain, W_nil, W_cons, W_ap, W_apL, W_fl, W_nx, W_brk, W_cnt, W_seq, W_set, W_own, W_ret, W_retN, W_drop, W_if, W_call, W_make, W_fld, W_ix, W_part, W_noPart, W_sl, W_itL, W_itT, W_itS, W_for, W_forNil, W_while, W_gset, W_gcons, W_gnil, W_par2, W_fzM, W_rf, W_ownA, W_setIx, WF_run, WF_ok, WF_arM, eq_self, setE_mk, List.map_cons, List.map_nil, List.length_cons, List.length_nil, List.replicate, List.cons_append, List.nil_append, List.append_nil, List.set_cons_zero, List.set_cons_succ, List.getElem?_cons_zero, List.getElem?_cons_succ, Nat.reduceAdd, Nat.reduceSub, Nat.sub_zero, if_true, if_false, Bool.false_eq_true, and_self, and_true, true_and, Int.reduceLT, Int.reduceLE, Nat.reduceLeDiff, Nat.reduceLT, decide_true, decide_false, Bool.not_true, Bool.not_false, addV_int, subV_int, negV_int, ltV_int, leV_int, gtV_int, geV_int, eqV_int, neV_int, eqV_str, neV_str, intV_int, intV_bl, lenV_fl, lenV_tup, listV_fl, tupleV_fl, ixS_fl, ixS_tup, enm_fl, tupV, lstV, szL, szl, addV_fl, W_ownIxM, W_appM, W_parVN, W_parNV, W_parNN, W_parVVN, minV_int, maxV_int, scI, W_selfM, WI_run, WI_end, WI_ok, Int.cast_ofNat_Int, Int.reduceBEq, Int.reduceBNe, beq_self_eq_true, Bool.not_eq_true, Bool.and_true, Bool.true_and, W_gtupM, W_opL, W_ownSet, hsc, List.length_map]
    refine row_ok Z i rs.length μ2 _ hw2 (by omega) fun r μ3 hr hw3 hl3 => ?_
    simp (config := { failIfUnchanged := false, decide := false }) only [W_bind, W_pure, W_no, W_opt, W_nox, W_op, W_un, W_C, W_varM, W_tst, W_boolM, W_ifB, W_notT, W_andT, W_orT, W_ifE, W_andV, W_orV, W_notV, W_chain, W_nil, W_cons, W_ap, W_apL, W_fl, W_nx, W_brk, W_cnt, W_seq, W_set, W_own, W_ret, W_retN, W_drop, W_if, W_call, W_make, W_fld, W_ix, W_part, W_noPart, W_sl, W_itL, W_itT, W_itS, W_for, W_forNil, W_while, W_gset, W_gcons, W_gnil, W_par2, W_fzM, W_rf, W_ownA, W_setIx, WF_run, WF_ok, WF_arM, eq_self, setE_mk, List.map_cons, List.map_nil, List.length_cons, List.length_nil, List.replicate, List.cons_append, List.nil_append, List.append_nil, List.set_cons_zero, List.set_cons_succ, List.getElem?_cons_zero, List.getElem?_cons_succ, Nat.reduceAdd, Nat.reduceSub, Nat.sub_zero, if_true, if_false, Bool.false_eq_true, and_self, and_true, true_and, Int.reduceLT, Int.reduceLE, Nat.reduceLeDiff, Nat.reduceLT, decide_true, decide_false, Bool.not_true, Bool.not_false, addV_int, subV_int, negV_int, ltV_int, leV_int, gtV_int, geV_int, eqV_int, neV_int, eqV_str, neV_str, intV_int, intV_bl, lenV_fl, lenV_tup, listV_fl, tupleV_fl, ixS_fl, ixS_tup, enm_fl, tupV, lstV, szL, szl, addV_fl, W_ownIxM, W_appM, W_parVN, W_parNV, W_parNN, W_parVVN, minV_int, maxV_int, scI, W_selfM, WI_run, WI_end, WI_ok, Int.cast_ofNat_Int, Int.reduceBEq, Int.reduceBNe, beq_self_eq_true, Bool.not_eq_true, Bool.and_true, Bool.true_and, W_gtupM, W_opL, W_ownSet]
    by_cases h4 : k = 4
    · rw [if_pos (by rw [h4]; rfl)]
      refine W_compM (fun x => match x with | .int j => .int ((rs.length : Int) - 1 - j) | _ => .non) ?_
      simp (config := { failIfUnchanged := false, decide := false }) only [W_bind, W_pure, W_no, W_opt, W_nox, W_op, W_un, W_C, W_varM, W_tst, W_boolM, W_ifB, W_notT, W_andT, W_orT, W_ifE, W_andV, W_orV, W_notV, W_chain, W_nil, W_cons, W_ap, W_apL, W_fl, W_nx, W_brk, W_cnt, W_seq, W_set, W_own, W_ret, W_retN, W_drop, W_if, W_call, W_make, W_fld, W_ix, W_part, W_noPart, W_sl, W_itL, W_itT, W_itS, W_for, W_forNil, W_while, W_gset, W_gcons, W_gnil, W_par2, W_fzM, W_rf, W_ownA, W_setIx, WF_run, WF_ok, WF_arM, eq_self, setE_mk, List.map_cons, List.map_nil, List.length_cons, List.length_nil, List.replicate, List.cons_append, List.nil_append, List.append_nil, List.set_cons_zero, List.set_cons_succ, List.getElem?_cons_zero, List.getElem?_cons_succ, Nat.reduceAdd, Nat.reduceSub, Nat.sub_zero, if_true, if_false, Bool.false_eq_true, and_self, and_true, true_and, Int.reduceLT, Int.reduceLE, Nat.reduceLeDiff, Nat.reduceLT, decide_true, decide_false, Bool.not_true, Bool.not_false, addV_int, subV_int, negV_int, ltV_int, leV_int, gtV_int, geV_int, eqV_int, neV_int, eqV_str, neV_str, intV_int, intV_bl, lenV_fl, lenV_tup, listV_fl, tupleV_fl, ixS_fl, ixS_tup, enm_fl, tupV, lstV, szL, szl, addV_fl, W_ownIxM, W_appM, W_parVN, W_parNV, W_parNN, W_parVVN, minV_int, maxV_int, scI, W_selfM, WI_run, WI_end, WI_ok, Int.cast_ofNat_Int, Int.reduceBEq, Int.reduceBNe, beq_self_eq_true, Bool.not_eq_true, Bool.and_true, Bool.true_and, W_gtupM, W_opL, W_ownSet, hsc, List.length_map]
      rw [rng1_of (by split <;> omega) (by split <;> omega)]
      have hlr : (rngL 0 (if (rs.length : Int) < 3 then (rs.length : Int) else 3).toNat).length = (if (rs.length : Int) < 3 then (rs.length : Int) else 3).toNat := by simp [rngL]
      have hm : ∀ x ∈ rngL 0 (if (rs.length : Int) < 3 then (rs.length : Int) else 3).toNat, ∃ j : Nat, j < rs.length ∧ j < 3 ∧ x = nI j := by
        intro x hx
        obtain ⟨j, hj, rfl⟩ := List.mem_map.mp hx
        have := List.mem_range.mp hj
        exact ⟨j, by split at this <;> omega, by split at this <;> omega, by simp⟩
      refine ⟨by rw [hlr]; split <;> omega, ?_, ?_⟩
      · intro x hx
        obtain ⟨j, _, _, rfl⟩ := hm x hx
        apply of_W
        simp (config := { failIfUnchanged := false, decide := false }) only [W_bind, W_pure, W_no, W_opt, W_nox, W_op, W_un, W_C, W_varM, W_tst, W_boolM, W_ifB, W_notT, W_andT, W_orT, W_ifE, W_andV, W_orV, W_notV, W_chain, W_nil, W_cons, W_ap, W_apL, W_fl, W_nx, W_brk, W_cnt, W_seq, W_set, W_own, W_ret, W_retN, W_drop, W_if, W_call, W_make, W_fld, W_ix, W_part, W_noPart, W_sl, W_itL, W_itT, W_itS, W_for, W_forNil, W_while, W_gset, W_gcons, W_gnil, W_par2, W_fzM, W_rf, W_ownA, W_setIx, WF_run, WF_ok, WF_arM, eq_self, setE_mk, List.map_cons, List.map_nil, List.length_cons, List.length_nil, List.replicate, List.cons_append, List.nil_append, List.append_nil, List.set_cons_zero, List.set_cons_succ, List.getElem?_cons_zero, List.getElem?_cons_succ, Nat.reduceAdd, Nat.reduceSub, Nat.sub_zero, if_true, if_false, Bool.false_eq_true, and_self, and_true, true_and, Int.reduceLT, Int.reduceLE, Nat.reduceLeDiff, Nat.reduceLT, decide_true, decide_false, Bool.not_true, Bool.not_false, addV_int, subV_int, negV_int, ltV_int, leV_int, gtV_int, geV_int, eqV_int, neV_int, eqV_str, neV_str, intV_int, intV_bl, lenV_fl, lenV_tup, listV_fl, tupleV_fl, ixS_fl, ixS_tup, enm_fl, tupV, lstV, szL, szl, addV_fl, W_ownIxM, W_appM, W_parVN, W_parNV, W_parNN, W_parVVN, minV_int, maxV_int, scI, W_selfM, WI_run, WI_end, WI_ok, Int.cast_ofNat_Int, Int.reduceBEq, Int.reduceBNe, beq_self_eq_true, Bool.not_eq_true, Bool.and_true, Bool.true_and, W_gtupM, W_opL, W_ownSet, hsc, List.length_map]
      · simp (config := { failIfUnchanged := false, decide := false }) only [W_bind, W_pure, W_no, W_opt, W_nox, W_op, W_un, W_C, W_varM, W_tst, W_boolM, W_ifB, W_notT, W_andT, W_orT, W_ifE, W_andV, W_orV, W_notV, W_chain, W_nil, W_cons, W_ap, W_apL, W_fl, W_nx, W_brk, W_cnt, W_seq, W_set, W_own, W_ret, W_retN, W_drop, W_if, W_call, W_make, W_fld, W_ix, W_part, W_noPart, W_sl, W_itL, W_itT, W_itS, W_for, W_forNil, W_while, W_gset, W_gcons, W_gnil, W_par2, W_fzM, W_rf, W_ownA, W_setIx, WF_run, WF_ok, WF_arM, eq_self, setE_mk, List.map_cons, List.map_nil, List.length_cons, List.length_nil, List.replicate, List.cons_append, List.nil_append, List.append_nil, List.set_cons_zero, List.set_cons_succ, List.getElem?_cons_zero, List.getElem?_cons_succ, Nat.reduceAdd, Nat.reduceSub, Nat.sub_zero, if_true, if_false, Bool.false_eq_true, and_self, and_true, true_and, Int.reduceLT, Int.reduceLE, Nat.reduceLeDiff, Nat.reduceLT, decide_true, decide_false, Bool.not_true, Bool.not_false, addV_int, subV_int, negV_int, ltV_int, leV_int, gtV_int, geV_int, eqV_int, neV_int, eqV_str, neV_str, intV_int, intV_bl, lenV_fl, lenV_tup, listV_fl, tupleV_fl, ixS_fl, ixS_tup, enm_fl, tupV, lstV, szL, szl, addV_fl, W_ownIxM, W_appM, W_parVN, W_parNV, W_parNN, W_parVVN, minV_int, maxV_int, scI, W_selfM, WI_run, WI_end, WI_ok, Int.cast_ofNat_Int, Int.reduceBEq, Int.reduceBNe, beq_self_eq_true, Bool.not_eq_true, Bool.and_true, Bool.true_and, W_gtupM, W_opL, W_ownSet]
        have e : ∃ ps : List Nat, (rngL 0 (if (rs.length : Int) < 3 then (rs.length : Int) else 3).toNat).map (fun x => match x with | .int j => .int ((rs.length : Int) - 1 - j) | _ => .non) = ps.map nI ∧ ps.length ≤ 8 ∧ ∀ p ∈ ps, p < rs.length := by
          refine ⟨(List.range (if (rs.length : Int) < 3 then (rs.length : Int) else 3).toNat).map fun j => rs.length - 1 - j, ?_, ?_, ?_⟩
          · unfold rngL
            rw [List.map_map, List.map_map]
            apply List.map_congr_left
            intro j hj
            have := List.mem_range.mp hj
            show IV.int ((rs.length : Int) - 1 - (0 + (j : Int))) = IV.int ((rs.length - 1 - j : Nat) : Int)
            congr 1
            split at this <;> omega
          · rw [List.length_map, List.length_range]; split <;> omega
          · intro p hp
            obtain ⟨j, hj, rfl⟩ := List.mem_map.mp hp
            have := List.mem_range.mp hj
            split at this <;> omega
        obtain ⟨ps, e1, e2, e3⟩ := e
        rw [e1]
        exact main (.cat ps) μ3 _ _ _ ⟨e2, e3⟩ hw3 (hl3.trans hl2)
    · rw [if_neg (by simpa using fun h => h4 (by omega))]
      exact main r μ3 _ _ _ hr hw3 (hl3.trans hl2)
  · rintro s ⟨rs, μ2, a, b, c, dd, e, rfl, hl, hne, hok, ht, hw2, hl2⟩
    simp (config := { failIfUnchanged := false, decide := false }) only [W_bind, W_pure, W_no, W_opt, W_nox, W_op, W_un, W_C, W_varM, W_tst, W_boolM, W_ifB, W_notT, W_andT, W_orT, W_ifE, W_andV, W_orV, W_notV, W_chain, W_nil, W_cons, W_ap, W_apL, W_fl, W_nx, W_brk, W_cnt, W_seq, W_set, W_own, W_ret, W_retN, W_drop, W_if, W_call, W_make, W_fld, W_ix, W_part, W_noPart, W_sl, W_itL, W_itT, W_itS, W_for, W_forNil, W_while, W_gset, W_gcons, W_gnil, W_par2, W_fzM, W_rf, W_ownA, W_setIx, WF_run, WF_ok, WF_arM, eq_self, setE_mk, List.map_cons, List.map_nil, List.length_cons, List.length_nil, List.replicate, List.cons_append, List.nil_append, List.append_nil, List.set_cons_zero, List.set_cons_succ, List.getElem?_cons_zero, List.getElem?_cons_succ, Nat.reduceAdd, Nat.reduceSub, Nat.sub_zero, if_true, if_false, Bool.false_eq_true, and_self, and_true, true_and, Int.reduceLT, Int.reduceLE, Nat.reduceLeDiff, Nat.reduceLT, decide_true, decide_false, Bool.not_true, Bool.not_false, addV_int, subV_int, negV_int, ltV_int, leV_int, gtV_int, geV_int, eqV_int, neV_int, eqV_str, neV_str, intV_int, intV_bl, lenV_fl, lenV_tup, listV_fl, tupleV_fl, ixS_fl, ixS_tup, enm_fl, tupV, lstV, szL, szl, addV_fl, W_ownIxM, W_appM, W_parVN, W_parNV, W_parNN, W_parVVN, minV_int, maxV_int, scI, W_selfM, WI_run, WI_end, WI_ok, Int.cast_ofNat_Int, Int.reduceBEq, Int.reduceBNe, beq_self_eq_true, Bool.not_eq_true, Bool.and_true, Bool.true_and, W_gtupM, W_opL, W_ownSet]
    refine hQ rs μ2 (hne (by simp [rngL]; omega)) (by simp [rngL] at hl; omega) hok ht hw2 hl2
end Lw
set_option Elab.async false
set_option linter.all false
set_option maxRecDepth 100000
set_option maxHeartbeats 2000000
namespace Lw
open PySem L2 Mi
theorem wipeS_two {i j : Nat} {e : List Slot} {μ : List SO} : wipeS [i, j] ⟨e, μ⟩ = ⟨(e.set j .emp).set i .emp, μ⟩ := rfl
theorem wipeS_one {i : Nat} {e : List Slot} {μ : List SO} : wipeS [i] ⟨e, μ⟩ = ⟨e.set i .emp, μ⟩ := rfl
/-! ### values at rows -/
theorem vals_keep {α : Type} (f : List α → Row → α) (d : α) {rs : List Row} {k p : Nat} (hp : p < k) (hk : k ≤ rs.length) : (vals f (rs.take k)).getD p d = (vals f rs).getD p d := by
  obtain ⟨z, e⟩ := vals_pre f (rs.take k) (rs.drop k)
  rw [List.take_append_drop] at e
  have hl : p < (vals f (rs.take k)).length := by rw [vals_len, List.length_take]; omega
  rw [e]
  simp [List.getD, List.getElem?_append_left hl]
theorem vals_at {α : Type} (f : List α → Row → α) (d : α) {rs : List Row} {a : Nat} {r : Row} (hr : rs[a]? = some r) : (vals f rs).getD a d = f (vals f (rs.take a)) r := by
  have ha := (List.getElem?_eq_some_iff.mp hr).1
  rw [← vals_keep f d (Nat.lt_succ_self a) ha, vals_take f hr]
  have : (vals f (rs.take a)).length = a := by rw [vals_len, List.length_take]; omega
  simp [List.getD, this]
def pa (rs : List Row) (a : Nat) : List Nat := ((rs[a]?).map Row.parts).getD []
theorem pa_at {rs : List Row} {a : Nat} {r : Row} (h : rs[a]? = some r) : pa rs a = r.parts := by unfold pa; rw [h]; rfl
theorem pa_lt {rs : List Row} (h : RowsOk rs) {a : Nat} : ∀ p ∈ pa rs a, p < a := by
  intro p hp
  unfold pa at hp
  cases e : rs[a]? with
  | none => rw [e] at hp; cases hp
  | some r => rw [e] at hp; exact (h a r e).lt p hp
/-! ### chosen rows -/
def w1 (b : Bool) : Nat := if b = true then 1 else 0
def fC (c : Nat → Bool) (acc : List Nat) (r : Row) : Nat := w1 (c acc.length) + (r.parts.map fun p => acc.getD p 0).sum
theorem fC_def (c : Nat → Bool) (acc : List Nat) (r : Row) : fC c acc r = w1 (c acc.length) + (r.parts.map fun p => acc.getD p 0).sum := rfl
def ct (c : Nat → Bool) (rs : List Row) (a : Nat) : Nat := (vals (fC c) rs).getD a 0
theorem ct_eq (c : Nat → Bool) {rs : List Row} (h : RowsOk rs) {a : Nat} (ha : a < rs.length) : ct c rs a = w1 (c a) + ((pa rs a).map (ct c rs)).sum := by
  obtain ⟨r, hr⟩ : ∃ r, rs[a]? = some r := ⟨_, List.getElem?_eq_getElem ha⟩
  unfold ct
  rw [vals_at (fC c) 0 hr, pa_at hr, fC_def, vals_take_len (fC c) (Nat.le_of_lt ha)]
  congr 2
  apply List.map_congr_left
  intro p hp
  exact vals_keep (fC c) 0 ((h a r hr).lt p hp) (Nat.le_of_lt ha)
abbrev chV (c : Nat → Bool) (n : Nat) : IV := .fl ((List.range n).map fun a => .bl (c a))
theorem ch_at {c : Nat → Bool} {n k : Nat} (h : k < n) : atI ((List.range n).map fun a => IV.bl (c a)) (k : Int) = some (.bl (c k)) := by
  rw [Mi.atI_n (by simpa using h), List.getElem?_map, List.getElem?_range h]; rfl
theorem int_bl (b : Bool) : (if b = true then (1 : Int) else 0) = ((w1 b : Nat) : Int) := by cases b <;> rfl
theorem chosen_ok (Z : Ad) (c : Nat → Bool) (rs : List Row) (h : RowsOk rs) (h2 : rs.length ≤ 1000) (μ : List SO) : fn_chosen_totals Z [rowsV rs, chV c rs.length] μ = .ok (.fl ((vals (fC c) rs).map nI)) μ := by
  apply of_WF
  unfold fn_chosen_totals m_chosen_totals
  simp (config := { failIfUnchanged := false, decide := false }) only [W_bind, W_pure, W_no, W_opt, W_nox, W_op, W_un, W_C, W_varM, W_tst, W_boolM, W_ifB, W_notT, W_andT, W_orT, W_ifE, W_andV, W_orV, W_notV, W_chain, W_nil, W_cons, W_ap, W_apL, W_fl, W_nx, W_brk, W_cnt, W_seq, W_set, W_own, W_ret, W_retN, W_drop, W_if, W_call, W_make, W_fld, W_ix, W_part, W_noPart, W_sl, W_itL, W_itT, W_itS, W_for, W_forNil, W_while, W_gset, W_gcons, W_gnil, W_par2, W_fzM, W_rf, W_ownA, W_setIx, WF_run, WF_ok, WF_arM, eq_self, setE_mk, List.map_cons, List.map_nil, List.length_cons, List.length_nil, List.replicate, List.cons_append, List.nil_append, List.append_nil, List.set_cons_zero, List.set_cons_succ, List.getElem?_cons_zero, List.getElem?_cons_succ, Nat.reduceAdd, Nat.reduceSub, Nat.sub_zero, if_true, if_false, Bool.false_eq_true, and_self, and_true, true_and, Int.reduceLT, Int.reduceLE, Nat.reduceLeDiff, Nat.reduceLT, decide_true, decide_false, Bool.not_true, Bool.not_false, addV_int, subV_int, negV_int, ltV_int, leV_int, gtV_int, geV_int, eqV_int, neV_int, eqV_str, neV_str, intV_int, intV_bl, lenV_fl, lenV_tup, listV_fl, tupleV_fl, ixS_fl, ixS_tup, enm_fl, tupV, lstV, szL, szl, addV_fl, W_ownIxM, W_appM, W_parVN, W_parNV, W_parNN, W_parVVN, minV_int, maxV_int, scI, W_selfM, WI_run, WI_end, WI_ok, Int.cast_ofNat_Int, Int.reduceBEq, Int.reduceBNe, beq_self_eq_true, Bool.not_eq_true, Bool.and_true, Bool.true_and, W_gtupM, W_opL, W_ownSet]
  refine W_forI (fun k s => ∃ a b d, s = ⟨[.val (rowsV rs), .val (chV c rs.length), .own ((vals (fC c) (rs.take k)).map nI), a, b, d], μ⟩) _ 0 _ ⟨.emp, .emp, .emp, rfl⟩ ?_ ?_
  · rintro k x s hk ⟨a, b, d, rfl⟩
    obtain ⟨y, hy, rfl⟩ := enmL_at hk
    obtain ⟨r, hr, rfl⟩ := map_at hy
    have hkl := (List.getElem?_eq_some_iff.mp hr).1
    have hok := h k r hr
    have hlen : (vals (fC c) (rs.take k)).length = k := vals_take_len (fC c) (Nat.le_of_lt hkl)
    rw [show 0 + k = k from by omega]
    simp (config := { failIfUnchanged := false, decide := false }) only [W_bind, W_pure, W_no, W_opt, W_nox, W_op, W_un, W_C, W_varM, W_tst, W_boolM, W_ifB, W_notT, W_andT, W_orT, W_ifE, W_andV, W_orV, W_notV, W_chain, W_nil, W_cons, W_ap, W_apL, W_fl, W_nx, W_brk, W_cnt, W_seq, W_set, W_own, W_ret, W_retN, W_drop, W_if, W_call, W_make, W_fld, W_ix, W_part, W_noPart, W_sl, W_itL, W_itT, W_itS, W_for, W_forNil, W_while, W_gset, W_gcons, W_gnil, W_par2, W_fzM, W_rf, W_ownA, W_setIx, WF_run, WF_ok, WF_arM, eq_self, setE_mk, List.map_cons, List.map_nil, List.length_cons, List.length_nil, List.replicate, List.cons_append, List.nil_append, List.append_nil, List.set_cons_zero, List.set_cons_succ, List.getElem?_cons_zero, List.getElem?_cons_succ, Nat.reduceAdd, Nat.reduceSub, Nat.sub_zero, if_true, if_false, Bool.false_eq_true, and_self, and_true, true_and, Int.reduceLT, Int.reduceLE, Nat.reduceLeDiff, Nat.reduceLT, decide_true, decide_false, Bool.not_true, Bool.not_false, addV_int, subV_int, negV_int, ltV_int, leV_int, gtV_int, geV_int, eqV_int, neV_int, eqV_str, neV_str, intV_int, intV_bl, lenV_fl, lenV_tup, listV_fl, tupleV_fl, ixS_fl, ixS_tup, enm_fl, tupV, lstV, szL, szl, addV_fl, W_ownIxM, W_appM, W_parVN, W_parNV, W_parNN, W_parVVN, minV_int, maxV_int, scI, W_selfM, WI_run, WI_end, WI_ok, Int.cast_ofNat_Int, Int.reduceBEq, Int.reduceBNe, beq_self_eq_true, Bool.not_eq_true, Bool.and_true, Bool.true_and, W_gtupM, W_opL, W_ownSet, ch_at hkl]
    refine W_compM (atF (vals (fC c) (rs.take k))) ?_
    simp (config := { failIfUnchanged := false, decide := false }) only [W_bind, W_pure, W_no, W_opt, W_nox, W_op, W_un, W_C, W_varM, W_tst, W_boolM, W_ifB, W_notT, W_andT, W_orT, W_ifE, W_andV, W_orV, W_notV, W_chain, W_nil, W_cons, W_ap, W_apL, W_fl, W_nx, W_brk, W_cnt, W_seq, W_set, W_own, W_ret, W_retN, W_drop, W_if, W_call, W_make, W_fld, W_ix, W_part, W_noPart, W_sl, W_itL, W_itT, W_itS, W_for, W_forNil, W_while, W_gset, W_gcons, W_gnil, W_par2, W_fzM, W_rf, W_ownA, W_setIx, WF_run, WF_ok, WF_arM, eq_self, setE_mk, List.map_cons, List.map_nil, List.length_cons, List.length_nil, List.replicate, List.cons_append, List.nil_append, List.append_nil, List.set_cons_zero, List.set_cons_succ, List.getElem?_cons_zero, List.getElem?_cons_succ, Nat.reduceAdd, Nat.reduceSub, Nat.sub_zero, if_true, if_false, Bool.false_eq_true, and_self, and_true, true_and, Int.reduceLT, Int.reduceLE, Nat.reduceLeDiff, Nat.reduceLT, decide_true, decide_false, Bool.not_true, Bool.not_false, addV_int, subV_int, negV_int, ltV_int, leV_int, gtV_int, geV_int, eqV_int, neV_int, eqV_str, neV_str, intV_int, intV_bl, lenV_fl, lenV_tup, listV_fl, tupleV_fl, ixS_fl, ixS_tup, enm_fl, tupV, lstV, szL, szl, addV_fl, W_ownIxM, W_appM, W_parVN, W_parNV, W_parNN, W_parVVN, minV_int, maxV_int, scI, W_selfM, WI_run, WI_end, WI_ok, Int.cast_ofNat_Int, Int.reduceBEq, Int.reduceBNe, beq_self_eq_true, Bool.not_eq_true, Bool.and_true, Bool.true_and, W_gtupM, W_opL, W_ownSet, parts_ok]
    refine ⟨by rw [List.length_map]; have := hok.len; omega, ?_, ?_⟩
    · intro x hx
      obtain ⟨p, hp, rfl⟩ := List.mem_map.mp hx
      apply of_W
      simp (config := { failIfUnchanged := false, decide := false }) only [W_bind, W_pure, W_no, W_opt, W_nox, W_op, W_un, W_C, W_varM, W_tst, W_boolM, W_ifB, W_notT, W_andT, W_orT, W_ifE, W_andV, W_orV, W_notV, W_chain, W_nil, W_cons, W_ap, W_apL, W_fl, W_nx, W_brk, W_cnt, W_seq, W_set, W_own, W_ret, W_retN, W_drop, W_if, W_call, W_make, W_fld, W_ix, W_part, W_noPart, W_sl, W_itL, W_itT, W_itS, W_for, W_forNil, W_while, W_gset, W_gcons, W_gnil, W_par2, W_fzM, W_rf, W_ownA, W_setIx, WF_run, WF_ok, WF_arM, eq_self, setE_mk, List.map_cons, List.map_nil, List.length_cons, List.length_nil, List.replicate, List.cons_append, List.nil_append, List.append_nil, List.set_cons_zero, List.set_cons_succ, List.getElem?_cons_zero, List.getElem?_cons_succ, Nat.reduceAdd, Nat.reduceSub, Nat.sub_zero, if_true, if_false, Bool.false_eq_true, and_self, and_true, true_and, Int.reduceLT, Int.reduceLE, Nat.reduceLeDiff, Nat.reduceLT, decide_true, decide_false, Bool.not_true, Bool.not_false, addV_int, subV_int, negV_int, ltV_int, leV_int, gtV_int, geV_int, eqV_int, neV_int, eqV_str, neV_str, intV_int, intV_bl, lenV_fl, lenV_tup, listV_fl, tupleV_fl, ixS_fl, ixS_tup, enm_fl, tupV, lstV, szL, szl, addV_fl, W_ownIxM, W_appM, W_parVN, W_parNV, W_parNN, W_parVVN, minV_int, maxV_int, scI, W_selfM, WI_run, WI_end, WI_ok, Int.cast_ofNat_Int, Int.reduceBEq, Int.reduceBNe, beq_self_eq_true, Bool.not_eq_true, Bool.and_true, Bool.true_and, W_gtupM, W_opL, W_ownSet, at_nats (show p < (vals (fC c) (rs.take k)).length by rw [hlen]; exact hok.lt p hp)]
      rfl
    · rw [atF_map]
      simp (config := { failIfUnchanged := false, decide := false }) only [W_bind, W_pure, W_no, W_opt, W_nox, W_op, W_un, W_C, W_varM, W_tst, W_boolM, W_ifB, W_notT, W_andT, W_orT, W_ifE, W_andV, W_orV, W_notV, W_chain, W_nil, W_cons, W_ap, W_apL, W_fl, W_nx, W_brk, W_cnt, W_seq, W_set, W_own, W_ret, W_retN, W_drop, W_if, W_call, W_make, W_fld, W_ix, W_part, W_noPart, W_sl, W_itL, W_itT, W_itS, W_for, W_forNil, W_while, W_gset, W_gcons, W_gnil, W_par2, W_fzM, W_rf, W_ownA, W_setIx, WF_run, WF_ok, WF_arM, eq_self, setE_mk, List.map_cons, List.map_nil, List.length_cons, List.length_nil, List.replicate, List.cons_append, List.nil_append, List.append_nil, List.set_cons_zero, List.set_cons_succ, List.getElem?_cons_zero, List.getElem?_cons_succ, Nat.reduceAdd, Nat.reduceSub, Nat.sub_zero, if_true, if_false, Bool.false_eq_true, and_self, and_true, true_and, Int.reduceLT, Int.reduceLE, Nat.reduceLeDiff, Nat.reduceLT, decide_true, decide_false, Bool.not_true, Bool.not_false, addV_int, subV_int, negV_int, ltV_int, leV_int, gtV_int, geV_int, eqV_int, neV_int, eqV_str, neV_str, intV_int, intV_bl, lenV_fl, lenV_tup, listV_fl, tupleV_fl, ixS_fl, ixS_tup, enm_fl, tupV, lstV, szL, szl, addV_fl, W_ownIxM, W_appM, W_parVN, W_parNV, W_parNN, W_parVVN, minV_int, maxV_int, scI, W_selfM, WI_run, WI_end, WI_ok, Int.cast_ofNat_Int, Int.reduceBEq, Int.reduceBNe, beq_self_eq_true, Bool.not_eq_true, Bool.and_true, Bool.true_and, W_gtupM, W_opL, W_ownSet, sumV_nats, List.length_map, hlen]
      rw [if_pos (by omega)]
      have hn : (if c k = true then (1 : Int) else 0) + (((r.parts.map fun p => (vals (fC c) (rs.take k)).getD p 0).sum : Nat) : Int) = ((fC c (vals (fC c) (rs.take k)) r : Nat) : Int) := by rw [fC_def, hlen, int_bl]; omega
      rw [hn, vals_take (fC c) hr, List.map_append]
      exact ⟨.inl trivial, _, _, _, rfl⟩
  · rintro s ⟨a, b, d, rfl⟩
    rw [show 0 + (enmL (rs.map Row.iv)).length = rs.length from by simp [enmL], List.take_length]
    simp (config := { failIfUnchanged := false, decide := false }) only [W_bind, W_pure, W_no, W_opt, W_nox, W_op, W_un, W_C, W_varM, W_tst, W_boolM, W_ifB, W_notT, W_andT, W_orT, W_ifE, W_andV, W_orV, W_notV, W_chain, W_nil, W_cons, W_ap, W_apL, W_fl, W_nx, W_brk, W_cnt, W_seq, W_set, W_own, W_ret, W_retN, W_drop, W_if, W_call, W_make, W_fld, W_ix, W_part, W_noPart, W_sl, W_itL, W_itT, W_itS, W_for, W_forNil, W_while, W_gset, W_gcons, W_gnil, W_par2, W_fzM, W_rf, W_ownA, W_setIx, WF_run, WF_ok, WF_arM, eq_self, setE_mk, List.map_cons, List.map_nil, List.length_cons, List.length_nil, List.replicate, List.cons_append, List.nil_append, List.append_nil, List.set_cons_zero, List.set_cons_succ, List.getElem?_cons_zero, List.getElem?_cons_succ, Nat.reduceAdd, Nat.reduceSub, Nat.sub_zero, if_true, if_false, Bool.false_eq_true, and_self, and_true, true_and, Int.reduceLT, Int.reduceLE, Nat.reduceLeDiff, Nat.reduceLT, decide_true, decide_false, Bool.not_true, Bool.not_false, addV_int, subV_int, negV_int, ltV_int, leV_int, gtV_int, geV_int, eqV_int, neV_int, eqV_str, neV_str, intV_int, intV_bl, lenV_fl, lenV_tup, listV_fl, tupleV_fl, ixS_fl, ixS_tup, enm_fl, tupV, lstV, szL, szl, addV_fl, W_ownIxM, W_appM, W_parVN, W_parNV, W_parNN, W_parVVN, minV_int, maxV_int, scI, W_selfM, WI_run, WI_end, WI_ok, Int.cast_ofNat_Int, Int.reduceBEq, Int.reduceBNe, beq_self_eq_true, Bool.not_eq_true, Bool.and_true, Bool.true_and, W_gtupM, W_opL, W_ownSet]
/-! ### ways to nodes -/
/-- from row a the path q leads to a node at row b, with k chosen ones ahead of it -/
inductive At (c : Nat → Bool) (rs : List Row) : Nat → List Nat → Nat → Nat → Prop where
  | here (a : Nat) : At c rs a [] 0 a
  | step {a s p j b : Nat} {q : List Nat} : (pa rs a)[s]? = some p → At c rs p q j b → At c rs a (s :: q) (w1 (c a) + (((pa rs a).take s).map (ct c rs)).sum + j) b
theorem sum_take {l : List Nat} {s p : Nat} (h : l[s]? = some p) (f : Nat → Nat) : ((l.take (s + 1)).map f).sum = ((l.take s).map f).sum + f p := by
  rw [List.take_add_one, h]; simp
theorem sum_take_le {l : List Nat} (s : Nat) (f : Nat → Nat) : ((l.take s).map f).sum ≤ (l.map f).sum := by
  conv => rhs; rw [← List.take_append_drop s l, List.map_append, List.sum_append]
  exact Nat.le_add_right _ _
theorem At.lt {c : Nat → Bool} {rs : List Row} (h : RowsOk rs) {a k b : Nat} {q : List Nat} (x : At c rs a q k b) : a < rs.length → k + w1 (c b) ≤ ct c rs a := by
  induction x with
  | here a => intro ha; rw [ct_eq c h ha]; omega
  | @step a s p j b q hs _ ih =>
    intro ha
    have hp := pa_lt h p (List.mem_of_getElem? hs)
    have := ih (by omega)
    rw [ct_eq c h ha]
    have e := sum_take hs (ct c rs)
    have e2 := sum_take_le (l := pa rs a) (s + 1) (ct c rs)
    omega
theorem At.len {c : Nat → Bool} {rs : List Row} (h : RowsOk rs) {a k b : Nat} {q : List Nat} (x : At c rs a q k b) : q.length ≤ a := by
  induction x with
  | here a => simp
  | @step a s p j b q hs _ ih =>
    have := pa_lt h p (List.mem_of_getElem? hs)
    rw [List.length_cons]
    omega
/-! ### all nodes -/
def nodes (rs : List Row) : Nat → Nat → List Nat → List (List Nat × Nat)
  | 0, _, _ => []
  | n + 1, a, q => (q, a) :: (pa rs a).zipIdx.flatMap fun p => nodes rs n p.1 (q ++ [p.2])
theorem flat_cnt {F : Nat × Nat → List (List Nat × Nat)} (P : List Nat × Nat → Bool) (T : Nat → Nat) : ∀ (ps : List Nat) (i : Nat), (∀ p s, p ∈ ps → (F (p, s)).countP P = T p) → ((ps.zipIdx i).flatMap F).countP P = (ps.map T).sum
  | [], i, _ => rfl
  | p :: ps, i, h => by
    rw [List.zipIdx_cons, List.flatMap_cons, List.countP_append, h p i (by simp), flat_cnt P T ps (i + 1) fun p s hp => h p s (by simp [hp])]
    simp
theorem nodes_cnt (c : Nat → Bool) {rs : List Row} (h : RowsOk rs) : ∀ (n a : Nat) (q : List Nat), a < n → a < rs.length → (nodes rs n a q).countP (fun y => c y.2) = ct c rs a
  | 0, a, q, hn, _ => by omega
  | n + 1, a, q, hn, ha => by
    rw [nodes, List.countP_cons, flat_cnt (fun y => c y.2) (ct c rs) _ 0 fun p s hp => nodes_cnt c h n p _ (by have := pa_lt h p hp; omega) (by have := pa_lt h p hp; omega), ct_eq c h ha]
    show _ + (if c a = true then 1 else 0) = _
    unfold w1
    omega
theorem fC_all : fC (fun _ => true) = fT := rfl
abbrev tt (rs : List Row) (a : Nat) : Nat := ct (fun _ => true) rs a
theorem nodes_len {rs : List Row} (h : RowsOk rs) (n a : Nat) (q : List Nat) (hn : a < n) (ha : a < rs.length) : (nodes rs n a q).length = tt rs a := by
  show _ = ct (fun _ => true) rs a
  rw [← nodes_cnt (fun _ => true) h n a q hn ha]
  simp
theorem flat_at {F : Nat × Nat → List (List Nat × Nat)} : ∀ (ps : List Nat) (i k : Nat) (y : List Nat × Nat), ((ps.zipIdx i).flatMap F)[k]? = some y →
    ∃ s p j, ps[s]? = some p ∧ (F (p, i + s))[j]? = some y ∧ ((ps.zipIdx i).flatMap F).take k = ((ps.take s).zipIdx i).flatMap F ++ (F (p, i + s)).take j
  | [], i, k, y, e => by simp at e
  | p :: ps, i, k, y, e => by
    rw [List.zipIdx_cons, List.flatMap_cons, List.getElem?_append] at e
    split at e
    · rename_i hk
      refine ⟨0, p, k, rfl, e, ?_⟩
      rw [List.zipIdx_cons, List.flatMap_cons, List.take_append_of_le_length (Nat.le_of_lt hk)]
      simp
    · rename_i hk
      obtain ⟨s, p', j, e1, e2, e3⟩ := flat_at ps (i + 1) (k - (F (p, i)).length) y e
      refine ⟨s + 1, p', j, by simpa using e1, by rw [show i + (s + 1) = i + 1 + s from by omega]; exact e2, ?_⟩
      rw [List.zipIdx_cons, List.flatMap_cons, List.take_append, List.take_of_length_le (by omega), e3, List.take_succ_cons, List.zipIdx_cons, List.flatMap_cons, show i + (s + 1) = i + 1 + s from by omega, List.append_assoc]
theorem nodes_at (c : Nat → Bool) {rs : List Row} (h : RowsOk rs) : ∀ (n a : Nat) (q : List Nat) (k : Nat) (y : List Nat × Nat), a < n → a < rs.length → (nodes rs n a q)[k]? = some y →
    ∃ q', y.1 = q ++ q' ∧ At c rs a q' (((nodes rs n a q).take k).countP fun y => c y.2) y.2
  | 0, a, q, k, y, hn, _, _ => by omega
  | n + 1, a, q, 0, y, hn, ha, e => by
    rw [nodes] at e
    cases e
    refine ⟨[], by simp, ?_⟩
    rw [List.take_zero, List.countP_nil]
    exact .here a
  | n + 1, a, q, k + 1, y, hn, ha, e => by
    rw [nodes, List.getElem?_cons_succ] at e
    obtain ⟨s, p, j, e1, e2, e3⟩ := flat_at _ 0 k y e
    have hp := pa_lt h p (List.mem_of_getElem? e1)
    obtain ⟨q', e4, e5⟩ := nodes_at c h n p _ j y (by omega) (by omega) e2
    refine ⟨s :: q', by rw [e4]; simp, ?_⟩
    have := At.step (c := c) e1 e5
    rw [nodes, List.take_succ_cons, List.countP_cons, e3, List.countP_append, flat_cnt (fun y => c y.2) (ct c rs) _ 0 fun p s hp => nodes_cnt c h n p _ (by have := pa_lt h p (List.mem_of_mem_take hp); omega) (by have := pa_lt h p (List.mem_of_mem_take hp); omega)]
    rw [show w1 (c a) = if c a = true then 1 else 0 from rfl] at this
    rw [show ∀ x y z : Nat, x + y + z = z + x + y from fun x y z => by omega]
    exact this
/-! ### the program's walks -/
abbrev pathV (q : List Nat) : IV := .tup (q.map nI)
theorem parts_at (Z : Ad) {rs : List Row} {a : Nat} {r : Row} (hr : rs[a]? = some r) (μ : List SO) : fn_parts_of Z [r.iv] μ = .ok (.fl ((pa rs a).map nI)) μ := by rw [pa_at hr]; exact parts_ok Z r μ
theorem rows_at {rs : List Row} {a : Nat} {r : Row} (hr : rs[a]? = some r) : atI (rs.map Row.iv) (a : Int) = some r.iv := by
  rw [Mi.atI_n (by simpa using (List.getElem?_eq_some_iff.mp hr).1), List.getElem?_map, hr]; rfl
theorem nat_at {l : List Nat} {s p : Nat} (h : l[s]? = some p) : atI (l.map nI) (s : Int) = some (nI p) := by
  rw [Mi.atI_n (by simpa using (List.getElem?_eq_some_iff.mp h).1), List.getElem?_map, h]; rfl
theorem ct_at {c : Nat → Bool} {rs : List Row} {a : Nat} (h : a < rs.length) : atI ((vals (fC c) rs).map nI) (a : Int) = some (nI (ct c rs a)) := at_nats (by rw [vals_len]; exact h)
theorem row_at_loop (Z : Ad) {c : Nat → Bool} {rs : List Row} (h : RowsOk rs) {a k b : Nat} {q : List Nat} (x : At c rs a q k b) : a < rs.length → ∀ (pv u v : Slot) (μ : List SO),
    W (forL (gSet 3) (mSeq (mSet 4 (mCall (fn_parts_of Z) (mCons (mIx (mFld Z.Doc "rows" (mVar 0)) (mVar 2)) (mNil)))) (mSeq (mIf (mNotT (mTst (mCall (fn_is_between Z) (mCons (mVar 3) (mCons (mC (.int 0)) (mCons (mOp subV (mAp lenV (mCons (mVar 4) (mNil))) (mC (.int 1))) (mNil))))))) (mNever) (mNx)) (mSet 2 (mIx (mVar 4) (mVar 3))))) (q.map nI))
      ⟨[.val (docV Z rs), pv, .val (nI a), u, v], μ⟩ fun f s => f = .nx ∧ ∃ u v, s = ⟨[.val (docV Z rs), pv, .val (nI b), u, v], μ⟩ := by
  induction x with
  | here a => intro ha pv u v μ; exact ⟨rfl, _, _, rfl⟩
  | @step a s p j b q hs _ ih =>
    intro ha pv u v μ
    obtain ⟨r, hr⟩ : ∃ r, rs[a]? = some r := ⟨_, List.getElem?_eq_getElem ha⟩
    have hp := pa_lt h p (List.mem_of_getElem? hs)
    have hsl := (List.getElem?_eq_some_iff.mp hs).1
    rw [List.map_cons, W_forCons]
    simp (config := { failIfUnchanged := false, decide := false }) only [W_bind, W_pure, W_no, W_opt, W_nox, W_op, W_un, W_C, W_varM, W_tst, W_boolM, W_ifB, W_notT, W_andT, W_orT, W_ifE, W_andV, W_orV, W_notV, W_chain, W_nil, W_cons, W_ap, W_apL, W_fl, W_nx, W_brk, W_cnt, W_seq, W_set, W_own, W_ret, W_retN, W_drop, W_if, W_call, W_make, W_fld, W_ix, W_part, W_noPart, W_sl, W_itL, W_itT, W_itS, W_for, W_forNil, W_while, W_gset, W_gcons, W_gnil, W_par2, W_fzM, W_rf, W_ownA, W_setIx, WF_run, WF_ok, WF_arM, eq_self, setE_mk, List.map_cons, List.map_nil, List.length_cons, List.length_nil, List.replicate, List.cons_append, List.nil_append, List.append_nil, List.set_cons_zero, List.set_cons_succ, List.getElem?_cons_zero, List.getElem?_cons_succ, Nat.reduceAdd, Nat.reduceSub, Nat.sub_zero, if_true, if_false, Bool.false_eq_true, and_self, and_true, true_and, Int.reduceLT, Int.reduceLE, Nat.reduceLeDiff, Nat.reduceLT, decide_true, decide_false, Bool.not_true, Bool.not_false, addV_int, subV_int, negV_int, ltV_int, leV_int, gtV_int, geV_int, eqV_int, neV_int, eqV_str, neV_str, intV_int, intV_bl, lenV_fl, lenV_tup, listV_fl, tupleV_fl, ixS_fl, ixS_tup, enm_fl, tupV, lstV, szL, szl, addV_fl, W_ownIxM, W_appM, W_parVN, W_parNV, W_parNN, W_parVVN, minV_int, maxV_int, scI, W_selfM, WI_run, WI_end, WI_ok, Int.cast_ofNat_Int, Int.reduceBEq, Int.reduceBNe, beq_self_eq_true, Bool.not_eq_true, Bool.and_true, Bool.true_and, W_gtupM, W_opL, W_ownSet, fld_rows, rows_at hr, parts_at Z hr, List.length_map, between_ok Z (s : Int) 0 (((pa rs a).length : Int) - 1) (by omega) (by omega), nat_at hs]
    exact ih (by omega) pv _ _ μ
theorem row_at_ok (Z : Ad) {c : Nat → Bool} {rs : List Row} (h : RowsOk rs) {k b : Nat} {q : List Nat} (hl : 0 < rs.length) (x : At c rs (rs.length - 1) q k b) (μ : List SO) : fn_row_at Z [docV Z rs, pathV q] μ = .ok (nI b) μ := by
  apply of_WF
  unfold fn_row_at m_row_at
  have z : isiV [pathV q, .ty "tuple"] = some (.bl true) := by kernel_rfl
  have e : ((rs.length : Int) - 1) = ((rs.length - 1 : Nat) : Int) := by omega
  simp (config := { failIfUnchanged := false, decide := false }) only [W_bind, W_pure, W_no, W_opt, W_nox, W_op, W_un, W_C, W_varM, W_tst, W_boolM, W_ifB, W_notT, W_andT, W_orT, W_ifE, W_andV, W_orV, W_notV, W_chain, W_nil, W_cons, W_ap, W_apL, W_fl, W_nx, W_brk, W_cnt, W_seq, W_set, W_own, W_ret, W_retN, W_drop, W_if, W_call, W_make, W_fld, W_ix, W_part, W_noPart, W_sl, W_itL, W_itT, W_itS, W_for, W_forNil, W_while, W_gset, W_gcons, W_gnil, W_par2, W_fzM, W_rf, W_ownA, W_setIx, WF_run, WF_ok, WF_arM, eq_self, setE_mk, List.map_cons, List.map_nil, List.length_cons, List.length_nil, List.replicate, List.cons_append, List.nil_append, List.append_nil, List.set_cons_zero, List.set_cons_succ, List.getElem?_cons_zero, List.getElem?_cons_succ, Nat.reduceAdd, Nat.reduceSub, Nat.sub_zero, if_true, if_false, Bool.false_eq_true, and_self, and_true, true_and, Int.reduceLT, Int.reduceLE, Nat.reduceLeDiff, Nat.reduceLT, decide_true, decide_false, Bool.not_true, Bool.not_false, addV_int, subV_int, negV_int, ltV_int, leV_int, gtV_int, geV_int, eqV_int, neV_int, eqV_str, neV_str, intV_int, intV_bl, lenV_fl, lenV_tup, listV_fl, tupleV_fl, ixS_fl, ixS_tup, enm_fl, tupV, lstV, szL, szl, addV_fl, W_ownIxM, W_appM, W_parVN, W_parNV, W_parNN, W_parVVN, minV_int, maxV_int, scI, W_selfM, WI_run, WI_end, WI_ok, Int.cast_ofNat_Int, Int.reduceBEq, Int.reduceBNe, beq_self_eq_true, Bool.not_eq_true, Bool.and_true, Bool.true_and, W_gtupM, W_opL, W_ownSet, check_ok, z, fld_rows, List.length_map, e]
  refine (row_at_loop Z h x (by omega) _ _ _ μ).mono fun f s ⟨hf, u, v, hs⟩ => ?_
  subst hf hs
  simp (config := { failIfUnchanged := false, decide := false }) only [W_bind, W_pure, W_no, W_opt, W_nox, W_op, W_un, W_C, W_varM, W_tst, W_boolM, W_ifB, W_notT, W_andT, W_orT, W_ifE, W_andV, W_orV, W_notV, W_chain, W_nil, W_cons, W_ap, W_apL, W_fl, W_nx, W_brk, W_cnt, W_seq, W_set, W_own, W_ret, W_retN, W_drop, W_if, W_call, W_make, W_fld, W_ix, W_part, W_noPart, W_sl, W_itL, W_itT, W_itS, W_for, W_forNil, W_while, W_gset, W_gcons, W_gnil, W_par2, W_fzM, W_rf, W_ownA, W_setIx, WF_run, WF_ok, WF_arM, eq_self, setE_mk, List.map_cons, List.map_nil, List.length_cons, List.length_nil, List.replicate, List.cons_append, List.nil_append, List.append_nil, List.set_cons_zero, List.set_cons_succ, List.getElem?_cons_zero, List.getElem?_cons_succ, Nat.reduceAdd, Nat.reduceSub, Nat.sub_zero, if_true, if_false, Bool.false_eq_true, and_self, and_true, true_and, Int.reduceLT, Int.reduceLE, Nat.reduceLeDiff, Nat.reduceLT, decide_true, decide_false, Bool.not_true, Bool.not_false, addV_int, subV_int, negV_int, ltV_int, leV_int, gtV_int, geV_int, eqV_int, neV_int, eqV_str, neV_str, intV_int, intV_bl, lenV_fl, lenV_tup, listV_fl, tupleV_fl, ixS_fl, ixS_tup, enm_fl, tupV, lstV, szL, szl, addV_fl, W_ownIxM, W_appM, W_parVN, W_parNV, W_parNN, W_parVVN, minV_int, maxV_int, scI, W_selfM, WI_run, WI_end, WI_ok, Int.cast_ofNat_Int, Int.reduceBEq, Int.reduceBNe, beq_self_eq_true, Bool.not_eq_true, Bool.and_true, Bool.true_and, W_gtupM, W_opL, W_ownSet]
theorem cut_takeI {l : List IV} {s : Nat} (hs : s ≤ l.length) : slV (.fl l) none (some (s : Int)) = some (.fl (l.take s)) := by
  have e1 : HT.sIx l.length l.length (some (s : Int)) = s := by
    unfold HT.sIx
    dsimp only
    rw [if_neg (by omega)]
    omega
  have e : cutL l none (some (s : Int)) = l.take s := by
    unfold cutL
    rw [e1]
    rfl
  show some (IV.fl (cutL l none (some (s : Int)))) = _
  rw [e]
theorem cut_take {l : List Nat} {s : Nat} (hs : s ≤ l.length) : slV (.fl (l.map nI)) none (some (s : Int)) = some (.fl ((l.take s).map nI)) := by
  rw [cut_takeI (by simpa using hs), List.map_take]
theorem ahead_loop (Z : Ad) {c : Nat → Bool} {rs : List Row} (h : RowsOk rs) {a k b : Nat} {q : List Nat} (x : At c rs a q k b) : a < rs.length → ∀ (pv t u v : Slot) (f0 : Nat) (μ : List SO),
    W (forL (gSet 6) (mSeq (mSet 7 (mCall (fn_parts_of Z) (mCons (mIx (mVar 0) (mVar 4)) (mNil)))) (mSeq (mSet 5 (mOp addV (mOp addV (mVar 5) (mAp intV (mCons (mIx (mVar 1) (mVar 4)) (mNil)))) (mAp sumV (mCons (mFl (mComp [8] (mItL (mSl (mVar 7) mNoPart (mPart (mVar 6)))) (gSet 8) (tYesM) (mIx (mVar 3) (mVar 8)))) (mNil))))) (mSet 4 (mIx (mVar 7) (mVar 6))))) (q.map nI))
      ⟨[.val (rowsV rs), .val (chV c rs.length), pv, .val (.fl ((vals (fC c) rs).map nI)), .val (nI a), .val (nI f0), t, u, v], μ⟩ fun f s => f = .nx ∧ ∃ a' t u v, s = ⟨[.val (rowsV rs), .val (chV c rs.length), pv, .val (.fl ((vals (fC c) rs).map nI)), a', .val (nI (f0 + k)), t, u, v], μ⟩ := by
  induction x with
  | here a => intro ha pv t u v f0 μ; exact ⟨rfl, _, _, _, _, rfl⟩
  | @step a s p j b q hs _ ih =>
    intro ha pv t u v f0 μ
    obtain ⟨r, hr⟩ : ∃ r, rs[a]? = some r := ⟨_, List.getElem?_eq_getElem ha⟩
    have hp := pa_lt h p (List.mem_of_getElem? hs)
    have hsl := (List.getElem?_eq_some_iff.mp hs).1
    have h8 : (pa rs a).length ≤ 8 := by rw [pa_at hr]; exact (h a r hr).len
    rw [List.map_cons, W_forCons]
    simp (config := { failIfUnchanged := false, decide := false }) only [W_bind, W_pure, W_no, W_opt, W_nox, W_op, W_un, W_C, W_varM, W_tst, W_boolM, W_ifB, W_notT, W_andT, W_orT, W_ifE, W_andV, W_orV, W_notV, W_chain, W_nil, W_cons, W_ap, W_apL, W_fl, W_nx, W_brk, W_cnt, W_seq, W_set, W_own, W_ret, W_retN, W_drop, W_if, W_call, W_make, W_fld, W_ix, W_part, W_noPart, W_sl, W_itL, W_itT, W_itS, W_for, W_forNil, W_while, W_gset, W_gcons, W_gnil, W_par2, W_fzM, W_rf, W_ownA, W_setIx, WF_run, WF_ok, WF_arM, eq_self, setE_mk, List.map_cons, List.map_nil, List.length_cons, List.length_nil, List.replicate, List.cons_append, List.nil_append, List.append_nil, List.set_cons_zero, List.set_cons_succ, List.getElem?_cons_zero, List.getElem?_cons_succ, Nat.reduceAdd, Nat.reduceSub, Nat.sub_zero, if_true, if_false, Bool.false_eq_true, and_self, and_true, true_and, Int.reduceLT, Int.reduceLE, Nat.reduceLeDiff, Nat.reduceLT, decide_true, decide_false, Bool.not_true, Bool.not_false, addV_int, subV_int, negV_int, ltV_int, leV_int, gtV_int, geV_int, eqV_int, neV_int, eqV_str, neV_str, intV_int, intV_bl, lenV_fl, lenV_tup, listV_fl, tupleV_fl, ixS_fl, ixS_tup, enm_fl, tupV, lstV, szL, szl, addV_fl, W_ownIxM, W_appM, W_parVN, W_parNV, W_parNN, W_parVVN, minV_int, maxV_int, scI, W_selfM, WI_run, WI_end, WI_ok, Int.cast_ofNat_Int, Int.reduceBEq, Int.reduceBNe, beq_self_eq_true, Bool.not_eq_true, Bool.and_true, Bool.true_and, W_gtupM, W_opL, W_ownSet, rows_at hr, parts_at Z hr, ch_at ha]
    refine W_compM (atF (vals (fC c) rs)) ?_
    simp (config := { failIfUnchanged := false, decide := false }) only [W_bind, W_pure, W_no, W_opt, W_nox, W_op, W_un, W_C, W_varM, W_tst, W_boolM, W_ifB, W_notT, W_andT, W_orT, W_ifE, W_andV, W_orV, W_notV, W_chain, W_nil, W_cons, W_ap, W_apL, W_fl, W_nx, W_brk, W_cnt, W_seq, W_set, W_own, W_ret, W_retN, W_drop, W_if, W_call, W_make, W_fld, W_ix, W_part, W_noPart, W_sl, W_itL, W_itT, W_itS, W_for, W_forNil, W_while, W_gset, W_gcons, W_gnil, W_par2, W_fzM, W_rf, W_ownA, W_setIx, WF_run, WF_ok, WF_arM, eq_self, setE_mk, List.map_cons, List.map_nil, List.length_cons, List.length_nil, List.replicate, List.cons_append, List.nil_append, List.append_nil, List.set_cons_zero, List.set_cons_succ, List.getElem?_cons_zero, List.getElem?_cons_succ, Nat.reduceAdd, Nat.reduceSub, Nat.sub_zero, if_true, if_false, Bool.false_eq_true, and_self, and_true, true_and, Int.reduceLT, Int.reduceLE, Nat.reduceLeDiff, Nat.reduceLT, decide_true, decide_false, Bool.not_true, Bool.not_false, addV_int, subV_int, negV_int, ltV_int, leV_int, gtV_int, geV_int, eqV_int, neV_int, eqV_str, neV_str, intV_int, intV_bl, lenV_fl, lenV_tup, listV_fl, tupleV_fl, ixS_fl, ixS_tup, enm_fl, tupV, lstV, szL, szl, addV_fl, W_ownIxM, W_appM, W_parVN, W_parNV, W_parNN, W_parVVN, minV_int, maxV_int, scI, W_selfM, WI_run, WI_end, WI_ok, Int.cast_ofNat_Int, Int.reduceBEq, Int.reduceBNe, beq_self_eq_true, Bool.not_eq_true, Bool.and_true, Bool.true_and, W_gtupM, W_opL, W_ownSet, cut_take (Nat.le_of_lt hsl)]
    refine ⟨by rw [List.length_map, List.length_take]; omega, ?_, ?_⟩
    · intro x hx
      obtain ⟨p', hp', rfl⟩ := List.mem_map.mp hx
      have := pa_lt h p' (List.mem_of_mem_take hp')
      apply of_W
      simp (config := { failIfUnchanged := false, decide := false }) only [W_bind, W_pure, W_no, W_opt, W_nox, W_op, W_un, W_C, W_varM, W_tst, W_boolM, W_ifB, W_notT, W_andT, W_orT, W_ifE, W_andV, W_orV, W_notV, W_chain, W_nil, W_cons, W_ap, W_apL, W_fl, W_nx, W_brk, W_cnt, W_seq, W_set, W_own, W_ret, W_retN, W_drop, W_if, W_call, W_make, W_fld, W_ix, W_part, W_noPart, W_sl, W_itL, W_itT, W_itS, W_for, W_forNil, W_while, W_gset, W_gcons, W_gnil, W_par2, W_fzM, W_rf, W_ownA, W_setIx, WF_run, WF_ok, WF_arM, eq_self, setE_mk, List.map_cons, List.map_nil, List.length_cons, List.length_nil, List.replicate, List.cons_append, List.nil_append, List.append_nil, List.set_cons_zero, List.set_cons_succ, List.getElem?_cons_zero, List.getElem?_cons_succ, Nat.reduceAdd, Nat.reduceSub, Nat.sub_zero, if_true, if_false, Bool.false_eq_true, and_self, and_true, true_and, Int.reduceLT, Int.reduceLE, Nat.reduceLeDiff, Nat.reduceLT, decide_true, decide_false, Bool.not_true, Bool.not_false, addV_int, subV_int, negV_int, ltV_int, leV_int, gtV_int, geV_int, eqV_int, neV_int, eqV_str, neV_str, intV_int, intV_bl, lenV_fl, lenV_tup, listV_fl, tupleV_fl, ixS_fl, ixS_tup, enm_fl, tupV, lstV, szL, szl, addV_fl, W_ownIxM, W_appM, W_parVN, W_parNV, W_parNN, W_parVVN, minV_int, maxV_int, scI, W_selfM, WI_run, WI_end, WI_ok, Int.cast_ofNat_Int, Int.reduceBEq, Int.reduceBNe, beq_self_eq_true, Bool.not_eq_true, Bool.and_true, Bool.true_and, W_gtupM, W_opL, W_ownSet, at_nats (show p' < (vals (fC c) rs).length by rw [vals_len]; omega)]
      rfl
    · rw [atF_map]
      simp (config := { failIfUnchanged := false, decide := false }) only [W_bind, W_pure, W_no, W_opt, W_nox, W_op, W_un, W_C, W_varM, W_tst, W_boolM, W_ifB, W_notT, W_andT, W_orT, W_ifE, W_andV, W_orV, W_notV, W_chain, W_nil, W_cons, W_ap, W_apL, W_fl, W_nx, W_brk, W_cnt, W_seq, W_set, W_own, W_ret, W_retN, W_drop, W_if, W_call, W_make, W_fld, W_ix, W_part, W_noPart, W_sl, W_itL, W_itT, W_itS, W_for, W_forNil, W_while, W_gset, W_gcons, W_gnil, W_par2, W_fzM, W_rf, W_ownA, W_setIx, WF_run, WF_ok, WF_arM, eq_self, setE_mk, List.map_cons, List.map_nil, List.length_cons, List.length_nil, List.replicate, List.cons_append, List.nil_append, List.append_nil, List.set_cons_zero, List.set_cons_succ, List.getElem?_cons_zero, List.getElem?_cons_succ, Nat.reduceAdd, Nat.reduceSub, Nat.sub_zero, if_true, if_false, Bool.false_eq_true, and_self, and_true, true_and, Int.reduceLT, Int.reduceLE, Nat.reduceLeDiff, Nat.reduceLT, decide_true, decide_false, Bool.not_true, Bool.not_false, addV_int, subV_int, negV_int, ltV_int, leV_int, gtV_int, geV_int, eqV_int, neV_int, eqV_str, neV_str, intV_int, intV_bl, lenV_fl, lenV_tup, listV_fl, tupleV_fl, ixS_fl, ixS_tup, enm_fl, tupV, lstV, szL, szl, addV_fl, W_ownIxM, W_appM, W_parVN, W_parNV, W_parNN, W_parVVN, minV_int, maxV_int, scI, W_selfM, WI_run, WI_end, WI_ok, Int.cast_ofNat_Int, Int.reduceBEq, Int.reduceBNe, beq_self_eq_true, Bool.not_eq_true, Bool.and_true, Bool.true_and, W_gtupM, W_opL, W_ownSet, sumV_nats, nat_at hs]
      have e : ((f0 : Int) + (if c a = true then (1 : Int) else 0) + ((((pa rs a).take s).map fun p => (vals (fC c) rs).getD p 0).sum : Nat)) = ((f0 + (w1 (c a) + (((pa rs a).take s).map (ct c rs)).sum) : Nat) : Int) := by
        rw [int_bl]
        show ((f0 : Int) + ((w1 (c a) : Nat) : Int) + ((((pa rs a).take s).map (ct c rs)).sum : Nat)) = _
        omega
      rw [e]
      have := ih (by omega) pv (.val (nI s)) (.val (.fl ((pa rs a).map nI))) .emp (f0 + (w1 (c a) + (((pa rs a).take s).map (ct c rs)).sum)) μ
      rw [show f0 + (w1 (c a) + (((pa rs a).take s).map (ct c rs)).sum) + j = f0 + (w1 (c a) + (((pa rs a).take s).map (ct c rs)).sum + j) from by omega] at this
      exact this
theorem ahead_ok (Z : Ad) {c : Nat → Bool} {rs : List Row} (h : RowsOk rs) (h2 : rs.length ≤ 1000) {k b : Nat} {q : List Nat} (hl : 0 < rs.length) (x : At c rs (rs.length - 1) q k b) (μ : List SO) : fn_chosen_ahead Z [rowsV rs, chV c rs.length, pathV q] μ = .ok (nI k) μ := by
  apply of_WF
  have e : ((rs.length : Int) - 1) = ((rs.length - 1 : Nat) : Int) := by omega
  unfold fn_chosen_ahead m_chosen_ahead
  simp (config := { failIfUnchanged := false, decide := false }) only [W_bind, W_pure, W_no, W_opt, W_nox, W_op, W_un, W_C, W_varM, W_tst, W_boolM, W_ifB, W_notT, W_andT, W_orT, W_ifE, W_andV, W_orV, W_notV, W_chain, W_nil, W_cons, W_ap, W_apL, W_fl, W_nx, W_brk, W_cnt, W_seq, W_set, W_own, W_ret, W_retN, W_drop, W_if, W_call, W_make, W_fld, W_ix, W_part, W_noPart, W_sl, W_itL, W_itT, W_itS, W_for, W_forNil, W_while, W_gset, W_gcons, W_gnil, W_par2, W_fzM, W_rf, W_ownA, W_setIx, WF_run, WF_ok, WF_arM, eq_self, setE_mk, List.map_cons, List.map_nil, List.length_cons, List.length_nil, List.replicate, List.cons_append, List.nil_append, List.append_nil, List.set_cons_zero, List.set_cons_succ, List.getElem?_cons_zero, List.getElem?_cons_succ, Nat.reduceAdd, Nat.reduceSub, Nat.sub_zero, if_true, if_false, Bool.false_eq_true, and_self, and_true, true_and, Int.reduceLT, Int.reduceLE, Nat.reduceLeDiff, Nat.reduceLT, decide_true, decide_false, Bool.not_true, Bool.not_false, addV_int, subV_int, negV_int, ltV_int, leV_int, gtV_int, geV_int, eqV_int, neV_int, eqV_str, neV_str, intV_int, intV_bl, lenV_fl, lenV_tup, listV_fl, tupleV_fl, ixS_fl, ixS_tup, enm_fl, tupV, lstV, szL, szl, addV_fl, W_ownIxM, W_appM, W_parVN, W_parNV, W_parNN, W_parVVN, minV_int, maxV_int, scI, W_selfM, WI_run, WI_end, WI_ok, Int.cast_ofNat_Int, Int.reduceBEq, Int.reduceBNe, beq_self_eq_true, Bool.not_eq_true, Bool.and_true, Bool.true_and, W_gtupM, W_opL, W_ownSet, chosen_ok Z c rs h h2, List.length_map, e]
  refine (ahead_loop Z h x (by omega) _ _ _ _ 0 μ).mono fun f s ⟨hf, a', t, u, v, hs⟩ => ?_
  subst hf hs
  simp (config := { failIfUnchanged := false, decide := false }) only [W_bind, W_pure, W_no, W_opt, W_nox, W_op, W_un, W_C, W_varM, W_tst, W_boolM, W_ifB, W_notT, W_andT, W_orT, W_ifE, W_andV, W_orV, W_notV, W_chain, W_nil, W_cons, W_ap, W_apL, W_fl, W_nx, W_brk, W_cnt, W_seq, W_set, W_own, W_ret, W_retN, W_drop, W_if, W_call, W_make, W_fld, W_ix, W_part, W_noPart, W_sl, W_itL, W_itT, W_itS, W_for, W_forNil, W_while, W_gset, W_gcons, W_gnil, W_par2, W_fzM, W_rf, W_ownA, W_setIx, WF_run, WF_ok, WF_arM, eq_self, setE_mk, List.map_cons, List.map_nil, List.length_cons, List.length_nil, List.replicate, List.cons_append, List.nil_append, List.append_nil, List.set_cons_zero, List.set_cons_succ, List.getElem?_cons_zero, List.getElem?_cons_succ, Nat.reduceAdd, Nat.reduceSub, Nat.sub_zero, if_true, if_false, Bool.false_eq_true, and_self, and_true, true_and, Int.reduceLT, Int.reduceLE, Nat.reduceLeDiff, Nat.reduceLT, decide_true, decide_false, Bool.not_true, Bool.not_false, addV_int, subV_int, negV_int, ltV_int, leV_int, gtV_int, geV_int, eqV_int, neV_int, eqV_str, neV_str, intV_int, intV_bl, lenV_fl, lenV_tup, listV_fl, tupleV_fl, ixS_fl, ixS_tup, enm_fl, tupV, lstV, szL, szl, addV_fl, W_ownIxM, W_appM, W_parVN, W_parNV, W_parNN, W_parVVN, minV_int, maxV_int, scI, W_selfM, WI_run, WI_end, WI_ok, Int.cast_ofNat_Int, Int.reduceBEq, Int.reduceBNe, beq_self_eq_true, Bool.not_eq_true, Bool.and_true, Bool.true_and, W_gtupM, W_opL, W_ownSet, Nat.zero_add]
/-! ### the k-th chosen node -/
theorem step_loop (Z : Ad) {c : Nat → Bool} {rs : List Row} (h : RowsOk rs) {a s p j : Nat} (ha : a < rs.length) (hs : (pa rs a)[s]? = some p) (hj : j < ct c rs p) (ch kv own : Slot) (μ : List SO) : ∀ (d i l n : Nat), d = s - i → i ≤ s → d < n → l + (((pa rs a).take i).map (ct c rs)).sum = (((pa rs a).take s).map (ct c rs)).sum + j →
    W (whileL (mTst (mOp geV (mVar 5) (mIx (mVar 3) (mIx (mCall (fn_parts_of Z) (mCons (mIx (mVar 0) (mVar 4)) (mNil))) (mVar 7))))) (mSeq (mSet 5 (mOp subV (mVar 5) (mIx (mVar 3) (mIx (mCall (fn_parts_of Z) (mCons (mIx (mVar 0) (mVar 4)) (mNil))) (mVar 7))))) (mSet 7 (mOp addV (mVar 7) (mC (.int 1))))) n)
      ⟨[.val (rowsV rs), ch, kv, .val (.fl ((vals (fC c) rs).map nI)), .val (nI a), .val (nI l), own, .val (nI i)], μ⟩
      fun f z => f = .nx ∧ z = ⟨[.val (rowsV rs), ch, kv, .val (.fl ((vals (fC c) rs).map nI)), .val (nI a), .val (nI j), own, .val (nI s)], μ⟩ := by
  intro d
  obtain ⟨r, hr⟩ : ∃ r, rs[a]? = some r := ⟨_, List.getElem?_eq_getElem ha⟩
  have hsl := (List.getElem?_eq_some_iff.mp hs).1
  induction d with
  | zero =>
    intro i l n hd hi hn hl
    obtain rfl : i = s := by omega
    obtain ⟨m, rfl⟩ : ∃ m, n = m + 1 := ⟨n - 1, by omega⟩
    have hp := pa_lt h p (List.mem_of_getElem? hs)
    have hlj : l = j := by omega
    subst hlj
    rw [W_whileS]
    simp (config := { failIfUnchanged := false, decide := false }) only [W_bind, W_pure, W_no, W_opt, W_nox, W_op, W_un, W_C, W_varM, W_tst, W_boolM, W_ifB, W_notT, W_andT, W_orT, W_ifE, W_andV, W_orV, W_notV, W_chain, W_nil, W_cons, W_ap, W_apL, W_fl, W_nx, W_brk, W_cnt, W_seq, W_set, W_own, W_ret, W_retN, W_drop, W_if, W_call, W_make, W_fld, W_ix, W_part, W_noPart, W_sl, W_itL, W_itT, W_itS, W_for, W_forNil, W_while, W_gset, W_gcons, W_gnil, W_par2, W_fzM, W_rf, W_ownA, W_setIx, WF_run, WF_ok, WF_arM, eq_self, setE_mk, List.map_cons, List.map_nil, List.length_cons, List.length_nil, List.replicate, List.cons_append, List.nil_append, List.append_nil, List.set_cons_zero, List.set_cons_succ, List.getElem?_cons_zero, List.getElem?_cons_succ, Nat.reduceAdd, Nat.reduceSub, Nat.sub_zero, if_true, if_false, Bool.false_eq_true, and_self, and_true, true_and, Int.reduceLT, Int.reduceLE, Nat.reduceLeDiff, Nat.reduceLT, decide_true, decide_false, Bool.not_true, Bool.not_false, addV_int, subV_int, negV_int, ltV_int, leV_int, gtV_int, geV_int, eqV_int, neV_int, eqV_str, neV_str, intV_int, intV_bl, lenV_fl, lenV_tup, listV_fl, tupleV_fl, ixS_fl, ixS_tup, enm_fl, tupV, lstV, szL, szl, addV_fl, W_ownIxM, W_appM, W_parVN, W_parNV, W_parNN, W_parVVN, minV_int, maxV_int, scI, W_selfM, WI_run, WI_end, WI_ok, Int.cast_ofNat_Int, Int.reduceBEq, Int.reduceBNe, beq_self_eq_true, Bool.not_eq_true, Bool.and_true, Bool.true_and, W_gtupM, W_opL, W_ownSet, rows_at hr, parts_at Z hr, nat_at hs, ct_at (c := c) (show p < rs.length by omega), decide_eq_false (show ¬ ((ct c rs p : Nat) : Int) ≤ (l : Int) by omega)]
  | succ d ih =>
    intro i l n hd hi hn hl
    obtain ⟨m, rfl⟩ : ∃ m, n = m + 1 := ⟨n - 1, by omega⟩
    obtain ⟨p', hp'⟩ : ∃ p', (pa rs a)[i]? = some p' := ⟨_, List.getElem?_eq_getElem (by omega)⟩
    have hp := pa_lt h p' (List.mem_of_getElem? hp')
    have e1 := sum_take hp' (ct c rs)
    have e2 : (((pa rs a).take (i + 1)).map (ct c rs)).sum ≤ (((pa rs a).take s).map (ct c rs)).sum := by
      have := sum_take_le (l := (pa rs a).take s) (i + 1) (ct c rs)
      rwa [List.take_take, Nat.min_eq_left (by omega)] at this
    rw [W_whileS]
    simp (config := { failIfUnchanged := false, decide := false }) only [W_bind, W_pure, W_no, W_opt, W_nox, W_op, W_un, W_C, W_varM, W_tst, W_boolM, W_ifB, W_notT, W_andT, W_orT, W_ifE, W_andV, W_orV, W_notV, W_chain, W_nil, W_cons, W_ap, W_apL, W_fl, W_nx, W_brk, W_cnt, W_seq, W_set, W_own, W_ret, W_retN, W_drop, W_if, W_call, W_make, W_fld, W_ix, W_part, W_noPart, W_sl, W_itL, W_itT, W_itS, W_for, W_forNil, W_while, W_gset, W_gcons, W_gnil, W_par2, W_fzM, W_rf, W_ownA, W_setIx, WF_run, WF_ok, WF_arM, eq_self, setE_mk, List.map_cons, List.map_nil, List.length_cons, List.length_nil, List.replicate, List.cons_append, List.nil_append, List.append_nil, List.set_cons_zero, List.set_cons_succ, List.getElem?_cons_zero, List.getElem?_cons_succ, Nat.reduceAdd, Nat.reduceSub, Nat.sub_zero, if_true, if_false, Bool.false_eq_true, and_self, and_true, true_and, Int.reduceLT, Int.reduceLE, Nat.reduceLeDiff, Nat.reduceLT, decide_true, decide_false, Bool.not_true, Bool.not_false, addV_int, subV_int, negV_int, ltV_int, leV_int, gtV_int, geV_int, eqV_int, neV_int, eqV_str, neV_str, intV_int, intV_bl, lenV_fl, lenV_tup, listV_fl, tupleV_fl, ixS_fl, ixS_tup, enm_fl, tupV, lstV, szL, szl, addV_fl, W_ownIxM, W_appM, W_parVN, W_parNV, W_parNN, W_parVVN, minV_int, maxV_int, scI, W_selfM, WI_run, WI_end, WI_ok, Int.cast_ofNat_Int, Int.reduceBEq, Int.reduceBNe, beq_self_eq_true, Bool.not_eq_true, Bool.and_true, Bool.true_and, W_gtupM, W_opL, W_ownSet, rows_at hr, parts_at Z hr, nat_at hp', ct_at (c := c) (show p' < rs.length by omega), decide_eq_true (show ((ct c rs p' : Nat) : Int) ≤ (l : Int) by omega)]
    have e3 : (l : Int) - ((ct c rs p' : Nat) : Int) = ((l - ct c rs p' : Nat) : Int) := by omega
    have e4 : (i : Int) + 1 = ((i + 1 : Nat) : Int) := by omega
    rw [e3, e4]
    exact ih (i + 1) (l - ct c rs p') m (by omega) (by omega) (by omega) (by omega)
theorem path_loop (Z : Ad) {c : Nat → Bool} {rs : List Row} (h : RowsOk rs) {a k b : Nat} {q : List Nat} (x : At c rs a q k b) : c b = true → a < rs.length → ∀ (kv st : Slot) (acc : List Nat) (μ : List SO) (n : Nat), q.length < n → acc.length + q.length ≤ 1000 →
    W (whileL (mOrT (mTst (mOp gtV (mVar 5) (mC (.int 0)))) (mNotT (mTst (mIx (mVar 1) (mVar 4))))) (mSeq (mSet 5 (mOp subV (mVar 5) (mAp intV (mCons (mIx (mVar 1) (mVar 4)) (mNil))))) (mSeq (mSet 7 (mC (.int 0))) (mSeq (mWhile fuel (mTst (mOp geV (mVar 5) (mIx (mVar 3) (mIx (mCall (fn_parts_of Z) (mCons (mIx (mVar 0) (mVar 4)) (mNil))) (mVar 7))))) (mSeq (mSet 5 (mOp subV (mVar 5) (mIx (mVar 3) (mIx (mCall (fn_parts_of Z) (mCons (mIx (mVar 0) (mVar 4)) (mNil))) (mVar 7))))) (mSet 7 (mOp addV (mVar 7) (mC (.int 1)))))) (mSeq (mApp 6 (mVar 7)) (mSet 4 (mIx (mCall (fn_parts_of Z) (mCons (mIx (mVar 0) (mVar 4)) (mNil))) (mVar 7))))))) n)
      ⟨[.val (rowsV rs), .val (chV c rs.length), kv, .val (.fl ((vals (fC c) rs).map nI)), .val (nI a), .val (nI k), .own (acc.map nI), st], μ⟩
      fun f z => f = .nx ∧ ∃ a' k' st, z = ⟨[.val (rowsV rs), .val (chV c rs.length), kv, .val (.fl ((vals (fC c) rs).map nI)), a', k', .own ((acc ++ q).map nI), st], μ⟩ := by
  induction x with
  | here a =>
    intro hb ha kv st acc μ n hn _
    obtain ⟨m, rfl⟩ : ∃ m, n = m + 1 := ⟨n - 1, by omega⟩
    rw [W_whileS]
    simp (config := { failIfUnchanged := false, decide := false }) only [W_bind, W_pure, W_no, W_opt, W_nox, W_op, W_un, W_C, W_varM, W_tst, W_boolM, W_ifB, W_notT, W_andT, W_orT, W_ifE, W_andV, W_orV, W_notV, W_chain, W_nil, W_cons, W_ap, W_apL, W_fl, W_nx, W_brk, W_cnt, W_seq, W_set, W_own, W_ret, W_retN, W_drop, W_if, W_call, W_make, W_fld, W_ix, W_part, W_noPart, W_sl, W_itL, W_itT, W_itS, W_for, W_forNil, W_while, W_gset, W_gcons, W_gnil, W_par2, W_fzM, W_rf, W_ownA, W_setIx, WF_run, WF_ok, WF_arM, eq_self, setE_mk, List.map_cons, List.map_nil, List.length_cons, List.length_nil, List.replicate, List.cons_append, List.nil_append, List.append_nil, List.set_cons_zero, List.set_cons_succ, List.getElem?_cons_zero, List.getElem?_cons_succ, Nat.reduceAdd, Nat.reduceSub, Nat.sub_zero, if_true, if_false, Bool.false_eq_true, and_self, and_true, true_and, Int.reduceLT, Int.reduceLE, Nat.reduceLeDiff, Nat.reduceLT, decide_true, decide_false, Bool.not_true, Bool.not_false, addV_int, subV_int, negV_int, ltV_int, leV_int, gtV_int, geV_int, eqV_int, neV_int, eqV_str, neV_str, intV_int, intV_bl, lenV_fl, lenV_tup, listV_fl, tupleV_fl, ixS_fl, ixS_tup, enm_fl, tupV, lstV, szL, szl, addV_fl, W_ownIxM, W_appM, W_parVN, W_parNV, W_parNN, W_parVVN, minV_int, maxV_int, scI, W_selfM, WI_run, WI_end, WI_ok, Int.cast_ofNat_Int, Int.reduceBEq, Int.reduceBNe, beq_self_eq_true, Bool.not_eq_true, Bool.and_true, Bool.true_and, W_gtupM, W_opL, W_ownSet, ch_at ha, hb]
    exact ⟨_, _, _, rfl⟩
  | @step a s p j b q hs x ih =>
    intro hb ha kv st acc μ n hn hz
    obtain ⟨m, rfl⟩ : ∃ m, n = m + 1 := ⟨n - 1, by omega⟩
    obtain ⟨r, hr⟩ : ∃ r, rs[a]? = some r := ⟨_, List.getElem?_eq_getElem ha⟩
    have hp := pa_lt h p (List.mem_of_getElem? hs)
    have hsl := (List.getElem?_eq_some_iff.mp hs).1
    have h8 : (pa rs a).length ≤ 8 := by rw [pa_at hr]; exact (h a r hr).len
    have hjl : j < ct c rs p := by have := x.lt h (by omega); rw [hb] at this; exact this
    have e : (((w1 (c a) + (((pa rs a).take s).map (ct c rs)).sum + j : Nat) : Int) - (if c a = true then 1 else 0)) = (((((pa rs a).take s).map (ct c rs)).sum + j : Nat) : Int) := by rw [int_bl]; omega
    have go : W (mSeq (mSet 5 (mOp subV (mVar 5) (mAp intV (mCons (mIx (mVar 1) (mVar 4)) (mNil))))) (mSeq (mSet 7 (mC (.int 0))) (mSeq (mWhile fuel (mTst (mOp geV (mVar 5) (mIx (mVar 3) (mIx (mCall (fn_parts_of Z) (mCons (mIx (mVar 0) (mVar 4)) (mNil))) (mVar 7))))) (mSeq (mSet 5 (mOp subV (mVar 5) (mIx (mVar 3) (mIx (mCall (fn_parts_of Z) (mCons (mIx (mVar 0) (mVar 4)) (mNil))) (mVar 7))))) (mSet 7 (mOp addV (mVar 7) (mC (.int 1)))))) (mSeq (mApp 6 (mVar 7)) (mSet 4 (mIx (mCall (fn_parts_of Z) (mCons (mIx (mVar 0) (mVar 4)) (mNil))) (mVar 7)))))))
        ⟨[.val (rowsV rs), .val (chV c rs.length), kv, .val (.fl ((vals (fC c) rs).map nI)), .val (nI a), .val (nI (w1 (c a) + (((pa rs a).take s).map (ct c rs)).sum + j)), .own (acc.map nI), st], μ⟩ fun f z => f = .nx ∧ z = ⟨[.val (rowsV rs), .val (chV c rs.length), kv, .val (.fl ((vals (fC c) rs).map nI)), .val (nI p), .val (nI j), .own ((acc ++ [s]).map nI), .val (nI s)], μ⟩ := by
      simp (config := { failIfUnchanged := false, decide := false }) only [W_bind, W_pure, W_no, W_opt, W_nox, W_op, W_un, W_C, W_varM, W_tst, W_boolM, W_ifB, W_notT, W_andT, W_orT, W_ifE, W_andV, W_orV, W_notV, W_chain, W_nil, W_cons, W_ap, W_apL, W_fl, W_nx, W_brk, W_cnt, W_seq, W_set, W_own, W_ret, W_retN, W_drop, W_if, W_call, W_make, W_fld, W_ix, W_part, W_noPart, W_sl, W_itL, W_itT, W_itS, W_for, W_forNil, W_while, W_gset, W_gcons, W_gnil, W_par2, W_fzM, W_rf, W_ownA, W_setIx, WF_run, WF_ok, WF_arM, eq_self, setE_mk, List.map_cons, List.map_nil, List.length_cons, List.length_nil, List.replicate, List.cons_append, List.nil_append, List.append_nil, List.set_cons_zero, List.set_cons_succ, List.getElem?_cons_zero, List.getElem?_cons_succ, Nat.reduceAdd, Nat.reduceSub, Nat.sub_zero, if_true, if_false, Bool.false_eq_true, and_self, and_true, true_and, Int.reduceLT, Int.reduceLE, Nat.reduceLeDiff, Nat.reduceLT, decide_true, decide_false, Bool.not_true, Bool.not_false, addV_int, subV_int, negV_int, ltV_int, leV_int, gtV_int, geV_int, eqV_int, neV_int, eqV_str, neV_str, intV_int, intV_bl, lenV_fl, lenV_tup, listV_fl, tupleV_fl, ixS_fl, ixS_tup, enm_fl, tupV, lstV, szL, szl, addV_fl, W_ownIxM, W_appM, W_parVN, W_parNV, W_parNN, W_parVVN, minV_int, maxV_int, scI, W_selfM, WI_run, WI_end, WI_ok, Int.cast_ofNat_Int, Int.reduceBEq, Int.reduceBNe, beq_self_eq_true, Bool.not_eq_true, Bool.and_true, Bool.true_and, W_gtupM, W_opL, W_ownSet, ch_at ha]
      rw [e]
      have lp := step_loop Z h ha hs hjl (.val (chV c rs.length)) kv (.own (acc.map nI)) μ s 0 ((((pa rs a).take s).map (ct c rs)).sum + j) fuel (by omega) (by omega) (by unfold fuel; omega) (by simp)
      refine lp.mono fun f z ⟨hf, hz2⟩ => ?_
      subst hf hz2
      simp (config := { failIfUnchanged := false, decide := false }) only [W_bind, W_pure, W_no, W_opt, W_nox, W_op, W_un, W_C, W_varM, W_tst, W_boolM, W_ifB, W_notT, W_andT, W_orT, W_ifE, W_andV, W_orV, W_notV, W_chain, W_nil, W_cons, W_ap, W_apL, W_fl, W_nx, W_brk, W_cnt, W_seq, W_set, W_own, W_ret, W_retN, W_drop, W_if, W_call, W_make, W_fld, W_ix, W_part, W_noPart, W_sl, W_itL, W_itT, W_itS, W_for, W_forNil, W_while, W_gset, W_gcons, W_gnil, W_par2, W_fzM, W_rf, W_ownA, W_setIx, WF_run, WF_ok, WF_arM, eq_self, setE_mk, List.map_cons, List.map_nil, List.length_cons, List.length_nil, List.replicate, List.cons_append, List.nil_append, List.append_nil, List.set_cons_zero, List.set_cons_succ, List.getElem?_cons_zero, List.getElem?_cons_succ, Nat.reduceAdd, Nat.reduceSub, Nat.sub_zero, if_true, if_false, Bool.false_eq_true, and_self, and_true, true_and, Int.reduceLT, Int.reduceLE, Nat.reduceLeDiff, Nat.reduceLT, decide_true, decide_false, Bool.not_true, Bool.not_false, addV_int, subV_int, negV_int, ltV_int, leV_int, gtV_int, geV_int, eqV_int, neV_int, eqV_str, neV_str, intV_int, intV_bl, lenV_fl, lenV_tup, listV_fl, tupleV_fl, ixS_fl, ixS_tup, enm_fl, tupV, lstV, szL, szl, addV_fl, W_ownIxM, W_appM, W_parVN, W_parNV, W_parNN, W_parVVN, minV_int, maxV_int, scI, W_selfM, WI_run, WI_end, WI_ok, Int.cast_ofNat_Int, Int.reduceBEq, Int.reduceBNe, beq_self_eq_true, Bool.not_eq_true, Bool.and_true, Bool.true_and, W_gtupM, W_opL, W_ownSet, List.length_map, rows_at hr, parts_at Z hr, nat_at hs]
      rw [List.length_cons] at hz hn
      rw [if_pos (by omega), List.map_append]
      rfl
    have fin := ih hb (by omega) kv (.val (nI s)) (acc ++ [s]) μ m (by rw [List.length_cons] at hn; omega) (by rw [List.length_cons] at hz; simp; omega)
    rw [show acc ++ [s] ++ q = acc ++ s :: q from by simp] at fin
    rw [W_whileS]
    generalize mSeq (mSet 5 (mOp subV (mVar 5) (mAp intV (mCons (mIx (mVar 1) (mVar 4)) (mNil))))) _ = BODY at go fin ⊢
    simp (config := { failIfUnchanged := false, decide := false }) only [W_bind, W_pure, W_no, W_opt, W_nox, W_op, W_un, W_C, W_varM, W_tst, W_boolM, W_ifB, W_notT, W_andT, W_orT, W_ifE, W_andV, W_orV, W_notV, W_chain, W_nil, W_cons, W_ap, W_apL, W_fl, W_nx, W_brk, W_cnt, W_seq, W_set, W_own, W_ret, W_retN, W_drop, W_if, W_call, W_make, W_fld, W_ix, W_part, W_noPart, W_sl, W_itL, W_itT, W_itS, W_for, W_forNil, W_while, W_gset, W_gcons, W_gnil, W_par2, W_fzM, W_rf, W_ownA, W_setIx, WF_run, WF_ok, WF_arM, eq_self, setE_mk, List.map_cons, List.map_nil, List.length_cons, List.length_nil, List.replicate, List.cons_append, List.nil_append, List.append_nil, List.set_cons_zero, List.set_cons_succ, List.getElem?_cons_zero, List.getElem?_cons_succ, Nat.reduceAdd, Nat.reduceSub, Nat.sub_zero, if_true, if_false, Bool.false_eq_true, and_self, and_true, true_and, Int.reduceLT, Int.reduceLE, Nat.reduceLeDiff, Nat.reduceLT, decide_true, decide_false, Bool.not_true, Bool.not_false, addV_int, subV_int, negV_int, ltV_int, leV_int, gtV_int, geV_int, eqV_int, neV_int, eqV_str, neV_str, intV_int, intV_bl, lenV_fl, lenV_tup, listV_fl, tupleV_fl, ixS_fl, ixS_tup, enm_fl, tupV, lstV, szL, szl, addV_fl, W_ownIxM, W_appM, W_parVN, W_parNV, W_parNN, W_parVVN, minV_int, maxV_int, scI, W_selfM, WI_run, WI_end, WI_ok, Int.cast_ofNat_Int, Int.reduceBEq, Int.reduceBNe, beq_self_eq_true, Bool.not_eq_true, Bool.and_true, Bool.true_and, W_gtupM, W_opL, W_ownSet, ch_at ha]
    cases hca : c a with
    | false =>
      rw [hca] at go
      by_cases h0 : (0 : Int) < ((w1 false + (((pa rs a).take s).map (ct c rs)).sum + j : Nat) : Int)
      · rw [decide_eq_true h0, if_pos rfl]
        exact go.mono fun f z ⟨hf, hz2⟩ => by subst hf hz2; exact fin
      · rw [decide_eq_false h0]
        simp (config := { failIfUnchanged := false, decide := false }) only [W_bind, W_pure, W_no, W_opt, W_nox, W_op, W_un, W_C, W_varM, W_tst, W_boolM, W_ifB, W_notT, W_andT, W_orT, W_ifE, W_andV, W_orV, W_notV, W_chain, W_nil, W_cons, W_ap, W_apL, W_fl, W_nx, W_brk, W_cnt, W_seq, W_set, W_own, W_ret, W_retN, W_drop, W_if, W_call, W_make, W_fld, W_ix, W_part, W_noPart, W_sl, W_itL, W_itT, W_itS, W_for, W_forNil, W_while, W_gset, W_gcons, W_gnil, W_par2, W_fzM, W_rf, W_ownA, W_setIx, WF_run, WF_ok, WF_arM, eq_self, setE_mk, List.map_cons, List.map_nil, List.length_cons, List.length_nil, List.replicate, List.cons_append, List.nil_append, List.append_nil, List.set_cons_zero, List.set_cons_succ, List.getElem?_cons_zero, List.getElem?_cons_succ, Nat.reduceAdd, Nat.reduceSub, Nat.sub_zero, if_true, if_false, Bool.false_eq_true, and_self, and_true, true_and, Int.reduceLT, Int.reduceLE, Nat.reduceLeDiff, Nat.reduceLT, decide_true, decide_false, Bool.not_true, Bool.not_false, addV_int, subV_int, negV_int, ltV_int, leV_int, gtV_int, geV_int, eqV_int, neV_int, eqV_str, neV_str, intV_int, intV_bl, lenV_fl, lenV_tup, listV_fl, tupleV_fl, ixS_fl, ixS_tup, enm_fl, tupV, lstV, szL, szl, addV_fl, W_ownIxM, W_appM, W_parVN, W_parNV, W_parNN, W_parVVN, minV_int, maxV_int, scI, W_selfM, WI_run, WI_end, WI_ok, Int.cast_ofNat_Int, Int.reduceBEq, Int.reduceBNe, beq_self_eq_true, Bool.not_eq_true, Bool.and_true, Bool.true_and, W_gtupM, W_opL, W_ownSet, ch_at ha, hca]
        exact go.mono fun f z ⟨hf, hz2⟩ => by subst hf hz2; exact fin
    | true =>
      rw [hca] at go
      rw [decide_eq_true (by unfold w1; rw [if_pos rfl]; omega), if_pos rfl]
      exact go.mono fun f z ⟨hf, hz2⟩ => by subst hf hz2; exact fin
theorem last_ct {c : Nat → Bool} {rs : List Row} (hl : 0 < rs.length) : atI ((vals (fC c) rs).map nI) (-1) = some (nI (ct c rs (rs.length - 1))) := by
  have := last_of (iv := nI) (d := 0) (t := vals (fC c) rs) (by rw [vals_len]; exact hl)
  rw [vals_len] at this
  exact this
theorem cpath_ok (Z : Ad) {c : Nat → Bool} {rs : List Row} (h : RowsOk rs) (h2 : rs.length ≤ 500) {k b : Nat} {q : List Nat} (hl : 0 < rs.length) (x : At c rs (rs.length - 1) q k b) (hb : c b = true) (μ : List SO) : fn_chosen_path Z [rowsV rs, chV c rs.length, nI k] μ = .ok (pathV q) μ := by
  apply of_WF
  have e : ((rs.length : Int) - 1) = ((rs.length - 1 : Nat) : Int) := by omega
  have hk := x.lt h (by omega)
  rw [hb] at hk
  have hk : k < ct c rs (rs.length - 1) := hk
  have hlen := x.len h
  have cb : fn_check_between Z [.str "k", nI k, .int 0, .int (((ct c rs (rs.length - 1) : Nat) : Int) - 1)] μ = .ok .non μ := by
    apply of_WF
    unfold fn_check_between m_check_between
    simp (config := { failIfUnchanged := false, decide := false }) only [W_bind, W_pure, W_no, W_opt, W_nox, W_op, W_un, W_C, W_varM, W_tst, W_boolM, W_ifB, W_notT, W_andT, W_orT, W_ifE, W_andV, W_orV, W_notV, W_chain, W_nil, W_cons, W_ap, W_apL, W_fl, W_nx, W_brk, W_cnt, W_seq, W_set, W_own, W_ret, W_retN, W_drop, W_if, W_call, W_make, W_fld, W_ix, W_part, W_noPart, W_sl, W_itL, W_itT, W_itS, W_for, W_forNil, W_while, W_gset, W_gcons, W_gnil, W_par2, W_fzM, W_rf, W_ownA, W_setIx, WF_run, WF_ok, WF_arM, eq_self, setE_mk, List.map_cons, List.map_nil, List.length_cons, List.length_nil, List.replicate, List.cons_append, List.nil_append, List.append_nil, List.set_cons_zero, List.set_cons_succ, List.getElem?_cons_zero, List.getElem?_cons_succ, Nat.reduceAdd, Nat.reduceSub, Nat.sub_zero, if_true, if_false, Bool.false_eq_true, and_self, and_true, true_and, Int.reduceLT, Int.reduceLE, Nat.reduceLeDiff, Nat.reduceLT, decide_true, decide_false, Bool.not_true, Bool.not_false, addV_int, subV_int, negV_int, ltV_int, leV_int, gtV_int, geV_int, eqV_int, neV_int, eqV_str, neV_str, intV_int, intV_bl, lenV_fl, lenV_tup, listV_fl, tupleV_fl, ixS_fl, ixS_tup, enm_fl, tupV, lstV, szL, szl, addV_fl, W_ownIxM, W_appM, W_parVN, W_parNV, W_parNN, W_parVVN, minV_int, maxV_int, scI, W_selfM, WI_run, WI_end, WI_ok, Int.cast_ofNat_Int, Int.reduceBEq, Int.reduceBNe, beq_self_eq_true, Bool.not_eq_true, Bool.and_true, Bool.true_and, W_gtupM, W_opL, W_ownSet, between_ok Z (k : Int) 0 (((ct c rs (rs.length - 1) : Nat) : Int) - 1) (by omega) (by omega)]
  unfold fn_chosen_path m_chosen_path
  simp (config := { failIfUnchanged := false, decide := false }) only [W_bind, W_pure, W_no, W_opt, W_nox, W_op, W_un, W_C, W_varM, W_tst, W_boolM, W_ifB, W_notT, W_andT, W_orT, W_ifE, W_andV, W_orV, W_notV, W_chain, W_nil, W_cons, W_ap, W_apL, W_fl, W_nx, W_brk, W_cnt, W_seq, W_set, W_own, W_ret, W_retN, W_drop, W_if, W_call, W_make, W_fld, W_ix, W_part, W_noPart, W_sl, W_itL, W_itT, W_itS, W_for, W_forNil, W_while, W_gset, W_gcons, W_gnil, W_par2, W_fzM, W_rf, W_ownA, W_setIx, WF_run, WF_ok, WF_arM, eq_self, setE_mk, List.map_cons, List.map_nil, List.length_cons, List.length_nil, List.replicate, List.cons_append, List.nil_append, List.append_nil, List.set_cons_zero, List.set_cons_succ, List.getElem?_cons_zero, List.getElem?_cons_succ, Nat.reduceAdd, Nat.reduceSub, Nat.sub_zero, if_true, if_false, Bool.false_eq_true, and_self, and_true, true_and, Int.reduceLT, Int.reduceLE, Nat.reduceLeDiff, Nat.reduceLT, decide_true, decide_false, Bool.not_true, Bool.not_false, addV_int, subV_int, negV_int, ltV_int, leV_int, gtV_int, geV_int, eqV_int, neV_int, eqV_str, neV_str, intV_int, intV_bl, lenV_fl, lenV_tup, listV_fl, tupleV_fl, ixS_fl, ixS_tup, enm_fl, tupV, lstV, szL, szl, addV_fl, W_ownIxM, W_appM, W_parVN, W_parNV, W_parNN, W_parVVN, minV_int, maxV_int, scI, W_selfM, WI_run, WI_end, WI_ok, Int.cast_ofNat_Int, Int.reduceBEq, Int.reduceBNe, beq_self_eq_true, Bool.not_eq_true, Bool.and_true, Bool.true_and, W_gtupM, W_opL, W_ownSet, chosen_ok Z c rs h (by omega), last_ct hl, cb, List.length_map, e]
  refine (path_loop Z h x hb (by omega) _ _ [] μ fuel (by unfold fuel; omega) (by simp; omega)).mono fun f s ⟨hf, a', k', st, hs⟩ => ?_
  subst hf hs
  simp (config := { failIfUnchanged := false, decide := false }) only [W_bind, W_pure, W_no, W_opt, W_nox, W_op, W_un, W_C, W_varM, W_tst, W_boolM, W_ifB, W_notT, W_andT, W_orT, W_ifE, W_andV, W_orV, W_notV, W_chain, W_nil, W_cons, W_ap, W_apL, W_fl, W_nx, W_brk, W_cnt, W_seq, W_set, W_own, W_ret, W_retN, W_drop, W_if, W_call, W_make, W_fld, W_ix, W_part, W_noPart, W_sl, W_itL, W_itT, W_itS, W_for, W_forNil, W_while, W_gset, W_gcons, W_gnil, W_par2, W_fzM, W_rf, W_ownA, W_setIx, WF_run, WF_ok, WF_arM, eq_self, setE_mk, List.map_cons, List.map_nil, List.length_cons, List.length_nil, List.replicate, List.cons_append, List.nil_append, List.append_nil, List.set_cons_zero, List.set_cons_succ, List.getElem?_cons_zero, List.getElem?_cons_succ, Nat.reduceAdd, Nat.reduceSub, Nat.sub_zero, if_true, if_false, Bool.false_eq_true, and_self, and_true, true_and, Int.reduceLT, Int.reduceLE, Nat.reduceLeDiff, Nat.reduceLT, decide_true, decide_false, Bool.not_true, Bool.not_false, addV_int, subV_int, negV_int, ltV_int, leV_int, gtV_int, geV_int, eqV_int, neV_int, eqV_str, neV_str, intV_int, intV_bl, lenV_fl, lenV_tup, listV_fl, tupleV_fl, ixS_fl, ixS_tup, enm_fl, tupV, lstV, szL, szl, addV_fl, W_ownIxM, W_appM, W_parVN, W_parNV, W_parNN, W_parVVN, minV_int, maxV_int, scI, W_selfM, WI_run, WI_end, WI_ok, Int.cast_ofNat_Int, Int.reduceBEq, Int.reduceBNe, beq_self_eq_true, Bool.not_eq_true, Bool.and_true, Bool.true_and, W_gtupM, W_opL, W_ownSet]
/-! ### .. and what is refused -/
theorem between_no (Z : Ad) (i a b : Int) (h1 : a ≤ i) (h2 : b < i) (μ : List SO) : fn_is_between Z [.int i, .int a, .int b] μ = .ok (.bl false) μ := by
  apply of_WF
  unfold fn_is_between m_is_between
  simp (config := { failIfUnchanged := false, decide := false }) only [W_bind, W_pure, W_no, W_opt, W_nox, W_op, W_un, W_C, W_varM, W_tst, W_boolM, W_ifB, W_notT, W_andT, W_orT, W_ifE, W_andV, W_orV, W_notV, W_chain, W_nil, W_cons, W_ap, W_apL, W_fl, W_nx, W_brk, W_cnt, W_seq, W_set, W_own, W_ret, W_retN, W_drop, W_if, W_call, W_make, W_fld, W_ix, W_part, W_noPart, W_sl, W_itL, W_itT, W_itS, W_for, W_forNil, W_while, W_gset, W_gcons, W_gnil, W_par2, W_fzM, W_rf, W_ownA, W_setIx, WF_run, WF_ok, WF_arM, eq_self, setE_mk, List.map_cons, List.map_nil, List.length_cons, List.length_nil, List.replicate, List.cons_append, List.nil_append, List.append_nil, List.set_cons_zero, List.set_cons_succ, List.getElem?_cons_zero, List.getElem?_cons_succ, Nat.reduceAdd, Nat.reduceSub, Nat.sub_zero, if_true, if_false, Bool.false_eq_true, and_self, and_true, true_and, Int.reduceLT, Int.reduceLE, Nat.reduceLeDiff, Nat.reduceLT, decide_true, decide_false, Bool.not_true, Bool.not_false, addV_int, subV_int, negV_int, ltV_int, leV_int, gtV_int, geV_int, eqV_int, neV_int, eqV_str, neV_str, intV_int, intV_bl, lenV_fl, lenV_tup, listV_fl, tupleV_fl, ixS_fl, ixS_tup, enm_fl, tupV, lstV, szL, szl, addV_fl, W_ownIxM, W_appM, W_parVN, W_parNV, W_parNN, W_parVVN, minV_int, maxV_int, scI, W_selfM, WI_run, WI_end, WI_ok, Int.cast_ofNat_Int, Int.reduceBEq, Int.reduceBNe, beq_self_eq_true, Bool.not_eq_true, Bool.and_true, Bool.true_and, W_gtupM, W_opL, W_ownSet, integer_ok, leV, cmpV, decide_eq_true h1, decide_eq_false (show ¬ i ≤ b by omega)]
theorem cpath_no (Z : Ad) (c : Nat → Bool) {rs : List Row} (h : RowsOk rs) (h2 : rs.length ≤ 500) (hl : 0 < rs.length) (μ : List SO) : fn_chosen_pathX Z [rowsV rs, chV c rs.length, nI (ct c rs (rs.length - 1))] μ = .ex Z.InvalidBound [("argument", .str "k")] μ := by
  have cb : fn_check_betweenX Z [.str "k", nI (ct c rs (rs.length - 1)), .int 0, .int (((ct c rs (rs.length - 1) : Nat) : Int) - 1)] μ = .ex Z.InvalidBound [("argument", .str "k")] μ := by
    have hn := between_no Z ((ct c rs (rs.length - 1) : Nat) : Int) 0 (((ct c rs (rs.length - 1) : Nat) : Int) - 1) (by omega) (by omega) μ
    unfold fn_check_betweenX
    refine ex_ar rfl (ex_run (s' := ⟨[.val (.str "k"), .val (nI (ct c rs (rs.length - 1))), .val (.int 0), .val (.int (((ct c rs (rs.length - 1) : Nat) : Int) - 1))], μ⟩) ?_)
    · unfold m_check_betweenX mIf mIfB
      have e1 : mNotT (mTst (mCall (fn_is_between Z) (mCons (mVar 1) (mCons (mVar 2) (mCons (mVar 3) (mNil)))))) ⟨[.val (.str "k"), .val (nI (ct c rs (rs.length - 1))), .val (.int 0), .val (.int (((ct c rs (rs.length - 1) : Nat) : Int) - 1))], μ⟩ = .ok true ⟨[.val (.str "k"), .val (nI (ct c rs (rs.length - 1))), .val (.int 0), .val (.int (((ct c rs (rs.length - 1) : Nat) : Int) - 1))], μ⟩ := by
        apply of_W
        simp (config := { failIfUnchanged := false, decide := false }) only [W_bind, W_pure, W_no, W_opt, W_nox, W_op, W_un, W_C, W_varM, W_tst, W_boolM, W_ifB, W_notT, W_andT, W_orT, W_ifE, W_andV, W_orV, W_notV, W_chain, W_nil, W_cons, W_ap, W_apL, W_fl, W_nx, W_brk, W_cnt, W_seq, W_set, W_own, W_ret, W_retN, W_drop, W_if, W_call, W_make, W_fld, W_ix, W_part, W_noPart, W_sl, W_itL, W_itT, W_itS, W_for, W_forNil, W_while, W_gset, W_gcons, W_gnil, W_par2, W_fzM, W_rf, W_ownA, W_setIx, WF_run, WF_ok, WF_arM, eq_self, setE_mk, List.map_cons, List.map_nil, List.length_cons, List.length_nil, List.replicate, List.cons_append, List.nil_append, List.append_nil, List.set_cons_zero, List.set_cons_succ, List.getElem?_cons_zero, List.getElem?_cons_succ, Nat.reduceAdd, Nat.reduceSub, Nat.sub_zero, if_true, if_false, Bool.false_eq_true, and_self, and_true, true_and, Int.reduceLT, Int.reduceLE, Nat.reduceLeDiff, Nat.reduceLT, decide_true, decide_false, Bool.not_true, Bool.not_false, addV_int, subV_int, negV_int, ltV_int, leV_int, gtV_int, geV_int, eqV_int, neV_int, eqV_str, neV_str, intV_int, intV_bl, lenV_fl, lenV_tup, listV_fl, tupleV_fl, ixS_fl, ixS_tup, enm_fl, tupV, lstV, szL, szl, addV_fl, W_ownIxM, W_appM, W_parVN, W_parNV, W_parNN, W_parVVN, minV_int, maxV_int, scI, W_selfM, WI_run, WI_end, WI_ok, Int.cast_ofNat_Int, Int.reduceBEq, Int.reduceBNe, beq_self_eq_true, Bool.not_eq_true, Bool.and_true, Bool.true_and, W_gtupM, W_opL, W_ownSet, hn]
      show M.bind _ _ ⟨[.val (.str "k"), .val (nI (ct c rs (rs.length - 1))), .val (.int 0), .val (.int (((ct c rs (rs.length - 1) : Nat) : Int) - 1))], μ⟩ = _
      unfold M.bind
      rw [e1]
      exact ex_raise (m := mCons (mVar 0) mNil) rfl
  unfold fn_chosen_pathX
  refine ex_ar rfl (ex_run (s' := ⟨[.val (rowsV rs), .val (chV c rs.length), .val (nI (ct c rs (rs.length - 1))), .val (.fl ((vals (fC c) rs).map nI)), .emp, .emp, .emp, .emp], μ⟩) ?_)
  unfold m_chosen_pathX
  refine ex_seq2 (s1 := ⟨[.val (rowsV rs), .val (chV c rs.length), .val (nI (ct c rs (rs.length - 1))), .val (.fl ((vals (fC c) rs).map nI)), .emp, .emp, .emp, .emp], μ⟩) ?_ (ex_seq1 (ex_bind1 (ex_call (xs := [.str "k", nI (ct c rs (rs.length - 1)), .int 0, .int (((ct c rs (rs.length - 1) : Nat) : Int) - 1)]) (s1 := ⟨[.val (rowsV rs), .val (chV c rs.length), .val (nI (ct c rs (rs.length - 1))), .val (.fl ((vals (fC c) rs).map nI)), .emp, .emp, .emp, .emp], μ⟩) ?_ cb)))
  · apply of_W
    show W _ ⟨[.val (rowsV rs), .val (chV c rs.length), .val (nI (ct c rs (rs.length - 1))), .emp, .emp, .emp, .emp, .emp], μ⟩ _
    simp (config := { failIfUnchanged := false, decide := false }) only [W_bind, W_pure, W_no, W_opt, W_nox, W_op, W_un, W_C, W_varM, W_tst, W_boolM, W_ifB, W_notT, W_andT, W_orT, W_ifE, W_andV, W_orV, W_notV, W_chain, W_nil, W_cons, W_ap, W_apL, W_fl, W_nx, W_brk, W_cnt, W_seq, W_set, W_own, W_ret, W_retN, W_drop, W_if, W_call, W_make, W_fld, W_ix, W_part, W_noPart, W_sl, W_itL, W_itT, W_itS, W_for, W_forNil, W_while, W_gset, W_gcons, W_gnil, W_par2, W_fzM, W_rf, W_ownA, W_setIx, WF_run, WF_ok, WF_arM, eq_self, setE_mk, List.map_cons, List.map_nil, List.length_cons, List.length_nil, List.replicate, List.cons_append, List.nil_append, List.append_nil, List.set_cons_zero, List.set_cons_succ, List.getElem?_cons_zero, List.getElem?_cons_succ, Nat.reduceAdd, Nat.reduceSub, Nat.sub_zero, if_true, if_false, Bool.false_eq_true, and_self, and_true, true_and, Int.reduceLT, Int.reduceLE, Nat.reduceLeDiff, Nat.reduceLT, decide_true, decide_false, Bool.not_true, Bool.not_false, addV_int, subV_int, negV_int, ltV_int, leV_int, gtV_int, geV_int, eqV_int, neV_int, eqV_str, neV_str, intV_int, intV_bl, lenV_fl, lenV_tup, listV_fl, tupleV_fl, ixS_fl, ixS_tup, enm_fl, tupV, lstV, szL, szl, addV_fl, W_ownIxM, W_appM, W_parVN, W_parNV, W_parNN, W_parVVN, minV_int, maxV_int, scI, W_selfM, WI_run, WI_end, WI_ok, Int.cast_ofNat_Int, Int.reduceBEq, Int.reduceBNe, beq_self_eq_true, Bool.not_eq_true, Bool.and_true, Bool.true_and, W_gtupM, W_opL, W_ownSet, chosen_ok Z c rs h (by omega)]
  · apply of_W
    simp (config := { failIfUnchanged := false, decide := false }) only [W_bind, W_pure, W_no, W_opt, W_nox, W_op, W_un, W_C, W_varM, W_tst, W_boolM, W_ifB, W_notT, W_andT, W_orT, W_ifE, W_andV, W_orV, W_notV, W_chain, W_nil, W_cons, W_ap, W_apL, W_fl, W_nx, W_brk, W_cnt, W_seq, W_set, W_own, W_ret, W_retN, W_drop, W_if, W_call, W_make, W_fld, W_ix, W_part, W_noPart, W_sl, W_itL, W_itT, W_itS, W_for, W_forNil, W_while, W_gset, W_gcons, W_gnil, W_par2, W_fzM, W_rf, W_ownA, W_setIx, WF_run, WF_ok, WF_arM, eq_self, setE_mk, List.map_cons, List.map_nil, List.length_cons, List.length_nil, List.replicate, List.cons_append, List.nil_append, List.append_nil, List.set_cons_zero, List.set_cons_succ, List.getElem?_cons_zero, List.getElem?_cons_succ, Nat.reduceAdd, Nat.reduceSub, Nat.sub_zero, if_true, if_false, Bool.false_eq_true, and_self, and_true, true_and, Int.reduceLT, Int.reduceLE, Nat.reduceLeDiff, Nat.reduceLT, decide_true, decide_false, Bool.not_true, Bool.not_false, addV_int, subV_int, negV_int, ltV_int, leV_int, gtV_int, geV_int, eqV_int, neV_int, eqV_str, neV_str, intV_int, intV_bl, lenV_fl, lenV_tup, listV_fl, tupleV_fl, ixS_fl, ixS_tup, enm_fl, tupV, lstV, szL, szl, addV_fl, W_ownIxM, W_appM, W_parVN, W_parNV, W_parNN, W_parVVN, minV_int, maxV_int, scI, W_selfM, WI_run, WI_end, WI_ok, Int.cast_ofNat_Int, Int.reduceBEq, Int.reduceBNe, beq_self_eq_true, Bool.not_eq_true, Bool.and_true, Bool.true_and, W_gtupM, W_opL, W_ownSet, last_ct hl]
end Lw
set_option Elab.async false
set_option linter.all false
set_option maxRecDepth 100000
set_option maxHeartbeats 2000000
namespace Lw
open PySem L2 Mi
/-! ### equal lists -/
theorem neV_nat (n : Nat) : neV (nI n) (nI n) = some (.bl false) := by rw [neV_int]; simp
theorem eqV_nat (n : Nat) : Mi.eqV (nI n) (nI n) = some (.bl true) := by rw [eqV_int]; simp
theorem ne_self (l : List IV) (ds : List PyData) (hp : pdL l = some ds) (hc : PyData.canLayAll0 ds = true) (hd : PyData.depthAll ds ≤ 3) : neV (.fl l) (.fl l) = some (.bl false) := by
  have hp' : IV.pd (.fl l) = some (.list ds) := by rw [IV.pd, hp]; rfl
  have hc' : PyData.canLay0 (.list ds) = true := by simp only [PyData.canLay0]; exact hc
  have hs : SeqAt.shaped (.list ds) = true := by
    unfold SeqAt.shaped
    rw [hc', Bool.true_and]
    apply decide_eq_true
    simp only [PyData.depth]
    omega
  have he : PyData.eqv (.list ds) (.list ds) = true := SeqAt.eqv_refl _ hc'
  unfold neV
  have : eqB (.fl l) (.fl l) = some true := by
    simp only [eqB, hp', hs, he, and_self, if_true]
  rw [this]
  rfl
theorem pd_ints : ∀ q : List Nat, pdL (q.map nI) = some (q.map fun (n : Nat) => PyData.int (n : Int))
  | [] => by rw [List.map_nil, pdL]; rfl
  | n :: q => by rw [List.map_cons, pdL, pd_ints q, IV.pd]; rfl
theorem ne_paths (l : List (List Nat)) : neV (.fl (l.map pathV)) (.fl (l.map pathV)) = some (.bl false) := by
  have c0 : ∀ q : List Nat, PyData.canLayAll0 (q.map fun (n : Nat) => PyData.int (n : Int)) = true := fun q => by
    have := PySem.W.canLayAll0_ints (q.map fun (n : Nat) => (n : Int))
    rwa [List.map_map] at this
  have d0 : ∀ q : List Nat, PyData.depthAll (q.map fun (n : Nat) => PyData.int (n : Int)) ≤ 1 := fun q => by
    have := PySem.W.depthAll_ints (q.map fun (n : Nat) => (n : Int))
    rwa [List.map_map] at this
  have c1 : ∀ q : List Nat, PyData.canLay0 (.tuple (q.map fun (n : Nat) => PyData.int (n : Int))) = true := fun q => by simp only [PyData.canLay0]; exact c0 q
  have d1 : ∀ q : List Nat, PyData.depth (.tuple (q.map fun (n : Nat) => PyData.int (n : Int))) ≤ 2 := fun q => by
    have := d0 q
    simp only [PyData.depth]
    omega
  refine ne_self _ (l.map fun q => .tuple (q.map fun (n : Nat) => PyData.int (n : Int))) ?_ ?_ ?_
  · induction l with
    | nil => rw [List.map_nil, pdL]; rfl
    | cons q l ih => rw [List.map_cons, pdL, ih, show IV.pd (pathV q) = some (.tuple (q.map fun (n : Nat) => PyData.int (n : Int))) from by rw [IV.pd, pd_ints]; rfl]; rfl
  · induction l with
    | nil => simp [PyData.canLayAll0]
    | cons q l ih => rw [List.map_cons]; simp only [PyData.canLayAll0, ih, c1]; rfl
  · induction l with
    | nil => simp [PyData.depthAll]
    | cons q l ih => rw [List.map_cons]; have := d1 q; simp only [PyData.depthAll]; omega
theorem rng_all {α : Type} (iv : α → IV) (d : α) (t : List α) (a n : Nat) (h : a + n = t.length) : (rngL a n).map (atG iv d t) = (t.drop a).map iv := by
  apply List.ext_getElem?
  intro j
  unfold rngL
  rw [List.map_map, List.getElem?_map, List.getElem?_map, List.getElem?_drop]
  by_cases hj : j < n
  · rw [List.getElem?_range hj, List.getElem?_eq_getElem (by omega : a + j < t.length)]
    show some (iv (t.getD ((a : Int) + (j : Int)).toNat d)) = _
    rw [show ((a : Int) + (j : Int)).toNat = a + j from by omega]
    simp [List.getD, List.getElem?_eq_getElem (by omega : a + j < t.length)]
  · rw [List.getElem?_eq_none (by simpa using hj), List.getElem?_eq_none (by omega)]
    rfl
theorem rng_mem {a : Nat} {n : Nat} {x : IV} (h : x ∈ rngL a n) : ∃ k : Nat, a ≤ k ∧ k < a + n ∧ x = nI k := by
  unfold rngL at h
  obtain ⟨i, hi, rfl⟩ := List.mem_map.mp h
  have := List.mem_range.mp hi
  exact ⟨a + i, by omega, by omega, by simp⟩
theorem filter_at {α : Type} (P : α → Bool) : ∀ (l : List α) (k : Nat) (y : α), (l.filter P)[k]? = some y → ∃ n, l[n]? = some y ∧ P y = true ∧ (l.take n).countP P = k
  | [], k, y, e => by simp at e
  | x :: l, k, y, e => by
    by_cases hx : P x = true
    · rw [List.filter_cons_of_pos hx] at e
      cases k with
      | zero => cases e; exact ⟨0, rfl, hx, by simp⟩
      | succ k =>
        rw [List.getElem?_cons_succ] at e
        obtain ⟨n, e1, e2, e3⟩ := filter_at P l k y e
        exact ⟨n + 1, by simpa using e1, e2, by rw [List.take_succ_cons, List.countP_cons, e3, if_pos hx]⟩
    · rw [List.filter_cons_of_neg hx] at e
      obtain ⟨n, e1, e2, e3⟩ := filter_at P l k y e
      exact ⟨n + 1, by simpa using e1, e2, by rw [List.take_succ_cons, List.countP_cons, e3, if_neg hx]; rfl⟩
/-! ### the law's own nodes -/
abbrev nodeV (y : List Nat × Nat) : IV := .tup [pathV y.1, nI y.2]
theorem take_flat {F : Nat × Nat → List (List Nat × Nat)} {ps : List Nat} {i p : Nat} (h : ps[i]? = some p) : ((ps.take (i + 1)).zipIdx.flatMap F) = (ps.take i).zipIdx.flatMap F ++ F (p, i) := by
  have hi := (List.getElem?_eq_some_iff.mp h).1
  rw [List.take_add_one, h]
  show ((ps.take i ++ [p]).zipIdx).flatMap F = _
  rw [List.zipIdx_append, List.flatMap_append]
  simp [List.length_take, Nat.min_eq_left (Nat.le_of_lt hi)]
theorem flat_len {F : Nat × Nat → List (List Nat × Nat)} (T : Nat → Nat) (ps : List Nat) (i : Nat) (h : ∀ p s, p ∈ ps → (F (p, s)).length = T p) : ((ps.zipIdx i).flatMap F).length = (ps.map T).sum := by
  rw [← flat_cnt (F := F) (fun _ => true) T ps i fun p s hp => by rw [← h p s hp, List.countP_true], List.countP_true]
theorem nodes_ok (Z : Ad) {rs : List Row} (h : RowsOk rs) (hb : ∀ t ∈ vals fT rs, t ≤ 150) (hr1 : rs.length ≤ 500) (μ : List SO) : ∀ (n a : Nat) (q : List Nat), a < n → a < rs.length → n ≤ 100 → q.length + n ≤ 1000 →
    fns__law_nodes Z n [rowsV rs, nI a, pathV q] μ = .ok (.fl ((nodes rs n a q).map nodeV)) μ
  | 0, a, q, hn, _, _, _ => by omega
  | n + 1, a, q, hn, ha, hz, hq => by
    have tb : ∀ a, a < rs.length → tt rs a ≤ 150 := fun a ha => hb _ (by
      have hl : a < (vals fT rs).length := by rw [vals_len]; exact ha
      show (vals fT rs).getD a 0 ∈ _
      simp only [List.getD, List.getElem?_eq_getElem hl, Option.getD_some]
      exact List.getElem_mem hl)
    obtain ⟨r, hr⟩ : ∃ r, rs[a]? = some r := ⟨_, List.getElem?_eq_getElem ha⟩
    have be : ∀ μ, fn__law_below Z [r.iv] μ = .ok (.fl ((pa rs a).map nI)) μ := fun μ => by rw [pa_at hr]; exact below_ok Z r μ
    have hF : ∀ p s, p ∈ pa rs a → (nodes rs n p (q ++ [s])).length = tt rs p := fun p s hp => by
      have := pa_lt h p hp
      exact nodes_len h n p _ (by omega) (by omega)
    apply of_WF
    rw [fns__law_nodes.eq_2]
    unfold m__law_nodes
    simp (config := { failIfUnchanged := false, decide := false }) only [W_bind, W_pure, W_no, W_opt, W_nox, W_op, W_un, W_C, W_varM, W_tst, W_boolM, W_ifB, W_notT, W_andT, W_orT, W_ifE, W_andV, W_orV, W_notV, W_chain, W_nil, W_cons, W_ap, W_apL, W_fl, W_nx, W_brk, W_cnt, W_seq, W_set, W_own, W_ret, W_retN, W_drop, W_if, W_call, W_make, W_fld, W_ix, W_part, W_noPart, W_sl, W_itL, W_itT, W_itS, W_for, W_forNil, W_while, W_gset, W_gcons, W_gnil, W_par2, W_fzM, W_rf, W_ownA, W_setIx, WF_run, WF_ok, WF_arM, eq_self, setE_mk, List.map_cons, List.map_nil, List.length_cons, List.length_nil, List.replicate, List.cons_append, List.nil_append, List.append_nil, List.set_cons_zero, List.set_cons_succ, List.getElem?_cons_zero, List.getElem?_cons_succ, Nat.reduceAdd, Nat.reduceSub, Nat.sub_zero, if_true, if_false, Bool.false_eq_true, and_self, and_true, true_and, Int.reduceLT, Int.reduceLE, Nat.reduceLeDiff, Nat.reduceLT, decide_true, decide_false, Bool.not_true, Bool.not_false, addV_int, subV_int, negV_int, ltV_int, leV_int, gtV_int, geV_int, eqV_int, neV_int, eqV_str, neV_str, intV_int, intV_bl, lenV_fl, lenV_tup, listV_fl, tupleV_fl, ixS_fl, ixS_tup, enm_fl, tupV, lstV, szL, szl, addV_fl, W_ownIxM, W_appM, W_parVN, W_parNV, W_parNN, W_parVVN, minV_int, maxV_int, scI, W_selfM, WI_run, WI_end, WI_ok, Int.cast_ofNat_Int, Int.reduceBEq, Int.reduceBNe, beq_self_eq_true, Bool.not_eq_true, Bool.and_true, Bool.true_and, W_gtupM, W_opL, W_ownSet, rows_at hr, be]
    refine W_forI (fun i s => ∃ u v, s = ⟨[.val (rowsV rs), .val (nI a), .val (pathV q), .val (.fl (((q, a) :: ((pa rs a).take i).zipIdx.flatMap fun p => nodes rs n p.1 (q ++ [p.2])).map nodeV)), u, v], μ⟩) _ 0 _ ⟨.emp, .emp, rfl⟩ ?_ ?_
    · rintro i x s hk ⟨u, v, rfl⟩
      obtain ⟨y, hy, rfl⟩ := enmL_at hk
      obtain ⟨p, hp, rfl⟩ := map_at hy
      rw [show 0 + i = i from by omega]
      have hpa := pa_lt h p (List.mem_of_getElem? hp)
      have hil := (List.getElem?_eq_some_iff.mp hp).1
      have hrc := nodes_ok Z h hb hr1 μ n p (q ++ [i]) (by omega) (by omega) (by omega) (by simp; omega)
      have e1 : addV (pathV q) (.tup [nI i]) = some (pathV (q ++ [i])) := by
        rw [addV_tup (by simp [szl]; omega)]
        simp
      have e2 : addV (.fl (((q, a) :: ((pa rs a).take i).zipIdx.flatMap fun p => nodes rs n p.1 (q ++ [p.2])).map nodeV)) (.fl ((nodes rs n p (q ++ [i])).map nodeV)) = some (.fl (((q, a) :: ((pa rs a).take (i + 1)).zipIdx.flatMap fun p => nodes rs n p.1 (q ++ [p.2])).map nodeV)) := by
        have l1 := flat_len (F := fun p => nodes rs n p.1 (q ++ [p.2])) (tt rs) ((pa rs a).take i) 0 fun p s hp => hF p s (List.mem_of_mem_take hp)
        have l2 := hF p i (List.mem_of_getElem? hp)
        have l3 := sum_take hp (tt rs)
        have l4 := sum_take_le (l := pa rs a) (i + 1) (tt rs)
        have l5 : tt rs a = 1 + ((pa rs a).map (tt rs)).sum := ct_eq (fun _ => true) h ha
        have l6 := tb a ha
        rw [addV_fl (by rw [List.length_map, List.length_map, List.length_cons, l1, l2]; unfold szl; omega)]
        rw [take_flat hp, ← List.map_append]
        rfl
      rw [List.map_cons, List.map_cons] at e2
      simp (config := { failIfUnchanged := false, decide := false }) only [W_bind, W_pure, W_no, W_opt, W_nox, W_op, W_un, W_C, W_varM, W_tst, W_boolM, W_ifB, W_notT, W_andT, W_orT, W_ifE, W_andV, W_orV, W_notV, W_chain, W_nil, W_cons, W_ap, W_apL, W_fl, W_nx, W_brk, W_cnt, W_seq, W_set, W_own, W_ret, W_retN, W_drop, W_if, W_call, W_make, W_fld, W_ix, W_part, W_noPart, W_sl, W_itL, W_itT, W_itS, W_for, W_forNil, W_while, W_gset, W_gcons, W_gnil, W_par2, W_fzM, W_rf, W_ownA, W_setIx, WF_run, WF_ok, WF_arM, eq_self, setE_mk, List.map_cons, List.map_nil, List.length_cons, List.length_nil, List.replicate, List.cons_append, List.nil_append, List.append_nil, List.set_cons_zero, List.set_cons_succ, List.getElem?_cons_zero, List.getElem?_cons_succ, Nat.reduceAdd, Nat.reduceSub, Nat.sub_zero, if_true, if_false, Bool.false_eq_true, and_self, and_true, true_and, Int.reduceLT, Int.reduceLE, Nat.reduceLeDiff, Nat.reduceLT, decide_true, decide_false, Bool.not_true, Bool.not_false, addV_int, subV_int, negV_int, ltV_int, leV_int, gtV_int, geV_int, eqV_int, neV_int, eqV_str, neV_str, intV_int, intV_bl, lenV_fl, lenV_tup, listV_fl, tupleV_fl, ixS_fl, ixS_tup, enm_fl, tupV, lstV, szL, szl, addV_fl, W_ownIxM, W_appM, W_parVN, W_parNV, W_parNN, W_parVVN, minV_int, maxV_int, scI, W_selfM, WI_run, WI_end, WI_ok, Int.cast_ofNat_Int, Int.reduceBEq, Int.reduceBNe, beq_self_eq_true, Bool.not_eq_true, Bool.and_true, Bool.true_and, W_gtupM, W_opL, W_ownSet, e1, hrc, e2]
      exact ⟨.inl trivial, _, _, rfl⟩
    · rintro s ⟨u, v, rfl⟩
      rw [show 0 + (enmL ((pa rs a).map nI)).length = (pa rs a).length from by simp [enmL], List.take_length]
      simp (config := { failIfUnchanged := false, decide := false }) only [W_bind, W_pure, W_no, W_opt, W_nox, W_op, W_un, W_C, W_varM, W_tst, W_boolM, W_ifB, W_notT, W_andT, W_orT, W_ifE, W_andV, W_orV, W_notV, W_chain, W_nil, W_cons, W_ap, W_apL, W_fl, W_nx, W_brk, W_cnt, W_seq, W_set, W_own, W_ret, W_retN, W_drop, W_if, W_call, W_make, W_fld, W_ix, W_part, W_noPart, W_sl, W_itL, W_itT, W_itS, W_for, W_forNil, W_while, W_gset, W_gcons, W_gnil, W_par2, W_fzM, W_rf, W_ownA, W_setIx, WF_run, WF_ok, WF_arM, eq_self, setE_mk, List.map_cons, List.map_nil, List.length_cons, List.length_nil, List.replicate, List.cons_append, List.nil_append, List.append_nil, List.set_cons_zero, List.set_cons_succ, List.getElem?_cons_zero, List.getElem?_cons_succ, Nat.reduceAdd, Nat.reduceSub, Nat.sub_zero, if_true, if_false, Bool.false_eq_true, and_self, and_true, true_and, Int.reduceLT, Int.reduceLE, Nat.reduceLeDiff, Nat.reduceLT, decide_true, decide_false, Bool.not_true, Bool.not_false, addV_int, subV_int, negV_int, ltV_int, leV_int, gtV_int, geV_int, eqV_int, neV_int, eqV_str, neV_str, intV_int, intV_bl, lenV_fl, lenV_tup, listV_fl, tupleV_fl, ixS_fl, ixS_tup, enm_fl, tupV, lstV, szL, szl, addV_fl, W_ownIxM, W_appM, W_parVN, W_parNV, W_parNN, W_parVVN, minV_int, maxV_int, scI, W_selfM, WI_run, WI_end, WI_ok, Int.cast_ofNat_Int, Int.reduceBEq, Int.reduceBNe, beq_self_eq_true, Bool.not_eq_true, Bool.and_true, Bool.true_and, W_gtupM, W_opL, W_ownSet, nodes]
end Lw
set_option Elab.async false
set_option linter.all false
set_option maxRecDepth 100000
set_option maxHeartbeats 2000000
namespace Lw
open PySem L2 Mi
theorem checkrow_ok (Z : Ad) (rs : List Row) (a : Nat) (ha : a < rs.length) (μ : List SO) : fn_check_row Z [docV Z rs, nI a] μ = .ok .non μ := by
  apply of_WF
  unfold fn_check_row m_check_row
  have cb : fn_check_between Z [.str "at", nI a, .int 0, .int ((rs.length : Int) - 1)] μ = .ok .non μ := by
    apply of_WF
    unfold fn_check_between m_check_between
    simp (config := { failIfUnchanged := false, decide := false }) only [W_bind, W_pure, W_no, W_opt, W_nox, W_op, W_un, W_C, W_varM, W_tst, W_boolM, W_ifB, W_notT, W_andT, W_orT, W_ifE, W_andV, W_orV, W_notV, W_chain, W_nil, W_cons, W_ap, W_apL, W_fl, W_nx, W_brk, W_cnt, W_seq, W_set, W_own, W_ret, W_retN, W_drop, W_if, W_call, W_make, W_fld, W_ix, W_part, W_noPart, W_sl, W_itL, W_itT, W_itS, W_for, W_forNil, W_while, W_gset, W_gcons, W_gnil, W_par2, W_fzM, W_rf, W_ownA, W_setIx, WF_run, WF_ok, WF_arM, eq_self, setE_mk, List.map_cons, List.map_nil, List.length_cons, List.length_nil, List.replicate, List.cons_append, List.nil_append, List.append_nil, List.set_cons_zero, List.set_cons_succ, List.getElem?_cons_zero, List.getElem?_cons_succ, Nat.reduceAdd, Nat.reduceSub, Nat.sub_zero, if_true, if_false, Bool.false_eq_true, and_self, and_true, true_and, Int.reduceLT, Int.reduceLE, Nat.reduceLeDiff, Nat.reduceLT, decide_true, decide_false, Bool.not_true, Bool.not_false, addV_int, subV_int, negV_int, ltV_int, leV_int, gtV_int, geV_int, eqV_int, neV_int, eqV_str, neV_str, intV_int, intV_bl, lenV_fl, lenV_tup, listV_fl, tupleV_fl, ixS_fl, ixS_tup, enm_fl, tupV, lstV, szL, szl, addV_fl, W_ownIxM, W_appM, W_parVN, W_parNV, W_parNN, W_parVVN, minV_int, maxV_int, scI, W_selfM, WI_run, WI_end, WI_ok, Int.cast_ofNat_Int, Int.reduceBEq, Int.reduceBNe, beq_self_eq_true, Bool.not_eq_true, Bool.and_true, Bool.true_and, W_gtupM, W_opL, W_ownSet, between_ok Z (a : Int) 0 ((rs.length : Int) - 1) (by omega) (by omega)]
  simp (config := { failIfUnchanged := false, decide := false }) only [W_bind, W_pure, W_no, W_opt, W_nox, W_op, W_un, W_C, W_varM, W_tst, W_boolM, W_ifB, W_notT, W_andT, W_orT, W_ifE, W_andV, W_orV, W_notV, W_chain, W_nil, W_cons, W_ap, W_apL, W_fl, W_nx, W_brk, W_cnt, W_seq, W_set, W_own, W_ret, W_retN, W_drop, W_if, W_call, W_make, W_fld, W_ix, W_part, W_noPart, W_sl, W_itL, W_itT, W_itS, W_for, W_forNil, W_while, W_gset, W_gcons, W_gnil, W_par2, W_fzM, W_rf, W_ownA, W_setIx, WF_run, WF_ok, WF_arM, eq_self, setE_mk, List.map_cons, List.map_nil, List.length_cons, List.length_nil, List.replicate, List.cons_append, List.nil_append, List.append_nil, List.set_cons_zero, List.set_cons_succ, List.getElem?_cons_zero, List.getElem?_cons_succ, Nat.reduceAdd, Nat.reduceSub, Nat.sub_zero, if_true, if_false, Bool.false_eq_true, and_self, and_true, true_and, Int.reduceLT, Int.reduceLE, Nat.reduceLeDiff, Nat.reduceLT, decide_true, decide_false, Bool.not_true, Bool.not_false, addV_int, subV_int, negV_int, ltV_int, leV_int, gtV_int, geV_int, eqV_int, neV_int, eqV_str, neV_str, intV_int, intV_bl, lenV_fl, lenV_tup, listV_fl, tupleV_fl, ixS_fl, ixS_tup, enm_fl, tupV, lstV, szL, szl, addV_fl, W_ownIxM, W_appM, W_parVN, W_parNV, W_parNN, W_parVVN, minV_int, maxV_int, scI, W_selfM, WI_run, WI_end, WI_ok, Int.cast_ofNat_Int, Int.reduceBEq, Int.reduceBNe, beq_self_eq_true, Bool.not_eq_true, Bool.and_true, Bool.true_and, W_gtupM, W_opL, W_ownSet, check_ok, fld_rows, List.length_map, cb]
/-! ### copies -/
def cstep (rs : List Row) (acc : List Nat) (a : Nat) : List Nat := (((rs[a]?).map Row.parts).getD []).foldl (fun acc p => acc.set p (acc.getD p 0 + acc.getD a 0)) acc
theorem cstep_len (rs : List Row) (acc : List Nat) (a : Nat) : (cstep rs acc a).length = acc.length := by
  unfold cstep
  have : ∀ (ps : List Nat) (acc : List Nat), (ps.foldl (fun acc p => acc.set p (acc.getD p 0 + acc.getD a 0)) acc).length = acc.length := by
    intro ps
    induction ps with
    | nil => intro acc; rfl
    | cons p ps ih => intro acc; rw [List.foldl_cons, ih]; simp
  exact this _ _
def copies (rs : List Row) : List Nat := ((List.range rs.length).map fun i => rs.length - 1 - i).foldl (cstep rs) ((List.replicate rs.length 0).set (rs.length - 1) 1)
theorem copies_ok (Z : Ad) (rs : List Row) (h : RowsOk rs) (h1 : rs ≠ []) (h2 : rs.length ≤ 1000) (μ : List SO) : fn_copy_totals Z [rowsV rs] μ = .ok (.fl ((copies rs).map nI)) μ := by
  apply of_WF
  unfold fn_copy_totals m_copy_totals
  have hl : 0 < rs.length := List.length_pos_iff.mpr h1
  have e1 : mulL (.fl [.int 0]) (.int (rs.length : Int)) = some ((List.replicate rs.length 0).map nI) := by
    have e2 : (List.replicate (rs.length : Int).toNat [IV.int 0]).flatten = (List.replicate rs.length 0).map nI := by simp [List.flatten_replicate_singleton]
    rw [← e2]
    exact if_pos ⟨by omega, by simp [szl]; omega⟩
  have e3 : ixN rs.length (-1) = some (rs.length - 1) := by
    unfold ixN
    rw [if_neg (by omega)]
    rw [if_pos (by omega)]
    congr 1
    omega
  have e5 : ((rs.length : Int) - 1 - (-1)).toNat = rs.length := by omega
  have e4 : rng3 [.int ((rs.length : Int) - 1), .int (-1), .int (-1)] = some (rngD ((rs.length : Int) - 1) rs.length) := by
    show (if ((rs.length : Int) - 1).natAbs ≤ 4611686018427387 ∧ (-1 : Int).natAbs ≤ 4611686018427387 then some (rngD ((rs.length : Int) - 1) ((rs.length : Int) - 1 - (-1)).toNat) else none) = _
    rw [if_pos (by omega), e5]
  simp (config := { failIfUnchanged := false, decide := false }) only [W_bind, W_pure, W_no, W_opt, W_nox, W_op, W_un, W_C, W_varM, W_tst, W_boolM, W_ifB, W_notT, W_andT, W_orT, W_ifE, W_andV, W_orV, W_notV, W_chain, W_nil, W_cons, W_ap, W_apL, W_fl, W_nx, W_brk, W_cnt, W_seq, W_set, W_own, W_ret, W_retN, W_drop, W_if, W_call, W_make, W_fld, W_ix, W_part, W_noPart, W_sl, W_itL, W_itT, W_itS, W_for, W_forNil, W_while, W_gset, W_gcons, W_gnil, W_par2, W_fzM, W_rf, W_ownA, W_setIx, WF_run, WF_ok, WF_arM, eq_self, setE_mk, List.map_cons, List.map_nil, List.length_cons, List.length_nil, List.replicate, List.cons_append, List.nil_append, List.append_nil, List.set_cons_zero, List.set_cons_succ, List.getElem?_cons_zero, List.getElem?_cons_succ, Nat.reduceAdd, Nat.reduceSub, Nat.sub_zero, if_true, if_false, Bool.false_eq_true, and_self, and_true, true_and, Int.reduceLT, Int.reduceLE, Nat.reduceLeDiff, Nat.reduceLT, decide_true, decide_false, Bool.not_true, Bool.not_false, addV_int, subV_int, negV_int, ltV_int, leV_int, gtV_int, geV_int, eqV_int, neV_int, eqV_str, neV_str, intV_int, intV_bl, lenV_fl, lenV_tup, listV_fl, tupleV_fl, ixS_fl, ixS_tup, enm_fl, tupV, lstV, szL, szl, addV_fl, W_ownIxM, W_appM, W_parVN, W_parNV, W_parNN, W_parVVN, minV_int, maxV_int, scI, W_selfM, WI_run, WI_end, WI_ok, Int.cast_ofNat_Int, Int.reduceBEq, Int.reduceBNe, beq_self_eq_true, Bool.not_eq_true, Bool.and_true, Bool.true_and, W_gtupM, W_opL, W_ownSet, List.length_map, e1, List.length_replicate, e3, e4]
  have flen : ∀ (l : List Nat) (acc : List Nat), (l.foldl (cstep rs) acc).length = acc.length := by
    intro l
    induction l with
    | nil => intro acc; rfl
    | cons a l ih => intro acc; rw [List.foldl_cons, ih, cstep_len]
  have hini : (List.map nI (List.replicate rs.length 0)).set (rs.length - 1) (IV.int 1) = ((List.replicate rs.length 0).set (rs.length - 1) 1).map nI := by rw [List.map_set]; rfl
  rw [hini]
  refine W_forI (fun k s => ∃ a b, s = ⟨[.val (rowsV rs), .own (((((List.range rs.length).map fun i => rs.length - 1 - i).take k).foldl (cstep rs) ((List.replicate rs.length 0).set (rs.length - 1) 1)).map nI), a, b], μ⟩) _ 0 _ ⟨_, _, rfl⟩ ?_ ?_
  · rintro k x s hk ⟨a, b, rfl⟩
    have hkn : k < rs.length := by
      have := (List.getElem?_eq_some_iff.mp hk).1
      simpa [rngD] using this
    obtain rfl : x = nI (rs.length - 1 - k) := by
      unfold rngD at hk
      rw [List.getElem?_map, List.getElem?_range hkn] at hk
      have := Option.some.inj hk
      rw [← this]
      show IV.int _ = IV.int _
      congr 1
      omega
    rw [show 0 + k = k from by omega]
    have hat : ((List.range rs.length).map fun i => rs.length - 1 - i)[k]? = some (rs.length - 1 - k) := by rw [List.getElem?_map, List.getElem?_range hkn]; rfl
    rw [List.take_add_one, hat, Option.toList_some, List.foldl_append, List.foldl_cons, List.foldl_nil]
    have hlen : ((((List.range rs.length).map fun i => rs.length - 1 - i).take k).foldl (cstep rs) ((List.replicate rs.length 0).set (rs.length - 1) 1)).length = rs.length := by rw [flen]; simp
    generalize (((List.range rs.length).map fun i => rs.length - 1 - i).take k).foldl (cstep rs) ((List.replicate rs.length 0).set (rs.length - 1) 1) = acc at hlen ⊢
    obtain ⟨r, hr⟩ : ∃ r, rs[rs.length - 1 - k]? = some r := ⟨_, List.getElem?_eq_getElem (by omega)⟩
    have hok := h _ r hr
    have hra : atI (rs.map Row.iv) ((rs.length - 1 - k : Nat) : Int) = some r.iv := by
      rw [Mi.atI_n (by rw [List.length_map]; omega), List.getElem?_map, hr]; rfl
    simp (config := { failIfUnchanged := false, decide := false }) only [W_bind, W_pure, W_no, W_opt, W_nox, W_op, W_un, W_C, W_varM, W_tst, W_boolM, W_ifB, W_notT, W_andT, W_orT, W_ifE, W_andV, W_orV, W_notV, W_chain, W_nil, W_cons, W_ap, W_apL, W_fl, W_nx, W_brk, W_cnt, W_seq, W_set, W_own, W_ret, W_retN, W_drop, W_if, W_call, W_make, W_fld, W_ix, W_part, W_noPart, W_sl, W_itL, W_itT, W_itS, W_for, W_forNil, W_while, W_gset, W_gcons, W_gnil, W_par2, W_fzM, W_rf, W_ownA, W_setIx, WF_run, WF_ok, WF_arM, eq_self, setE_mk, List.map_cons, List.map_nil, List.length_cons, List.length_nil, List.replicate, List.cons_append, List.nil_append, List.append_nil, List.set_cons_zero, List.set_cons_succ, List.getElem?_cons_zero, List.getElem?_cons_succ, Nat.reduceAdd, Nat.reduceSub, Nat.sub_zero, if_true, if_false, Bool.false_eq_true, and_self, and_true, true_and, Int.reduceLT, Int.reduceLE, Nat.reduceLeDiff, Nat.reduceLT, decide_true, decide_false, Bool.not_true, Bool.not_false, addV_int, subV_int, negV_int, ltV_int, leV_int, gtV_int, geV_int, eqV_int, neV_int, eqV_str, neV_str, intV_int, intV_bl, lenV_fl, lenV_tup, listV_fl, tupleV_fl, ixS_fl, ixS_tup, enm_fl, tupV, lstV, szL, szl, addV_fl, W_ownIxM, W_appM, W_parVN, W_parNV, W_parNN, W_parVVN, minV_int, maxV_int, scI, W_selfM, WI_run, WI_end, WI_ok, Int.cast_ofNat_Int, Int.reduceBEq, Int.reduceBNe, beq_self_eq_true, Bool.not_eq_true, Bool.and_true, Bool.true_and, W_gtupM, W_opL, W_ownSet, hra, parts_ok]
    have hcs : cstep rs acc (rs.length - 1 - k) = r.parts.foldl (fun acc p => acc.set p (acc.getD p 0 + acc.getD (rs.length - 1 - k) 0)) acc := by unfold cstep; rw [hr]; rfl
    rw [hcs]
    have plen : ∀ (ps : List Nat) (acc : List Nat), (ps.foldl (fun acc p => acc.set p (acc.getD p 0 + acc.getD (rs.length - 1 - k) 0)) acc).length = acc.length := by
      intro ps
      induction ps with
      | nil => intro acc; rfl
      | cons p ps ih => intro acc; rw [List.foldl_cons, ih]; simp
    refine W_forI (fun j s => ∃ b, s = ⟨[.val (rowsV rs), .own (((r.parts.take j).foldl (fun acc p => acc.set p (acc.getD p 0 + acc.getD (rs.length - 1 - k) 0)) acc).map nI), .val (nI (rs.length - 1 - k)), b], μ⟩) _ 0 _ ⟨_, rfl⟩ ?_ ?_
    · rintro j x s hj ⟨b, rfl⟩
      obtain ⟨p, hp, rfl⟩ := map_at hj
      have hpl := hok.lt p (List.mem_of_getElem? hp)
      rw [show 0 + j = j from by omega, List.take_add_one, hp, Option.toList_some, List.foldl_append, List.foldl_cons, List.foldl_nil]
      have hl2 := plen (r.parts.take j) acc
      generalize (r.parts.take j).foldl (fun acc p => acc.set p (acc.getD p 0 + acc.getD (rs.length - 1 - k) 0)) acc = c at hl2 ⊢
      have i1 : ixN c.length (p : Int) = some p := by
        unfold ixN
        rw [if_pos (by omega), if_pos (by omega)]
        simp
      simp (config := { failIfUnchanged := false, decide := false }) only [W_bind, W_pure, W_no, W_opt, W_nox, W_op, W_un, W_C, W_varM, W_tst, W_boolM, W_ifB, W_notT, W_andT, W_orT, W_ifE, W_andV, W_orV, W_notV, W_chain, W_nil, W_cons, W_ap, W_apL, W_fl, W_nx, W_brk, W_cnt, W_seq, W_set, W_own, W_ret, W_retN, W_drop, W_if, W_call, W_make, W_fld, W_ix, W_part, W_noPart, W_sl, W_itL, W_itT, W_itS, W_for, W_forNil, W_while, W_gset, W_gcons, W_gnil, W_par2, W_fzM, W_rf, W_ownA, W_setIx, WF_run, WF_ok, WF_arM, eq_self, setE_mk, List.map_cons, List.map_nil, List.length_cons, List.length_nil, List.replicate, List.cons_append, List.nil_append, List.append_nil, List.set_cons_zero, List.set_cons_succ, List.getElem?_cons_zero, List.getElem?_cons_succ, Nat.reduceAdd, Nat.reduceSub, Nat.sub_zero, if_true, if_false, Bool.false_eq_true, and_self, and_true, true_and, Int.reduceLT, Int.reduceLE, Nat.reduceLeDiff, Nat.reduceLT, decide_true, decide_false, Bool.not_true, Bool.not_false, addV_int, subV_int, negV_int, ltV_int, leV_int, gtV_int, geV_int, eqV_int, neV_int, eqV_str, neV_str, intV_int, intV_bl, lenV_fl, lenV_tup, listV_fl, tupleV_fl, ixS_fl, ixS_tup, enm_fl, tupV, lstV, szL, szl, addV_fl, W_ownIxM, W_appM, W_parVN, W_parNV, W_parNN, W_parVVN, minV_int, maxV_int, scI, W_selfM, WI_run, WI_end, WI_ok, Int.cast_ofNat_Int, Int.reduceBEq, Int.reduceBNe, beq_self_eq_true, Bool.not_eq_true, Bool.and_true, Bool.true_and, W_gtupM, W_opL, W_ownSet, at_of (iv := nI) (d := 0) (show p < c.length by omega), at_of (iv := nI) (d := 0) (show rs.length - 1 - k < c.length by omega), List.length_map, i1]
      have e6 : (c.map nI).set p (IV.int (((c.getD p 0 : Nat) : Int) + ((c.getD (rs.length - 1 - k) 0 : Nat) : Int))) = (c.set p (c.getD p 0 + c.getD (rs.length - 1 - k) 0)).map nI := by
        rw [List.map_set]
        rfl
      rw [e6]
      exact ⟨.inl trivial, _, rfl⟩
    · rintro s ⟨b, rfl⟩
      rw [show 0 + (r.parts.map nI).length = r.parts.length from by simp, List.take_length]
      exact ⟨.inl rfl, _, _, rfl⟩
  · rintro s ⟨a, b, rfl⟩
    rw [show 0 + (rngD ((rs.length : Int) - 1) rs.length).length = ((List.range rs.length).map fun i => rs.length - 1 - i).length from by simp [rngD], List.take_length]
    simp (config := { failIfUnchanged := false, decide := false }) only [W_bind, W_pure, W_no, W_opt, W_nox, W_op, W_un, W_C, W_varM, W_tst, W_boolM, W_ifB, W_notT, W_andT, W_orT, W_ifE, W_andV, W_orV, W_notV, W_chain, W_nil, W_cons, W_ap, W_apL, W_fl, W_nx, W_brk, W_cnt, W_seq, W_set, W_own, W_ret, W_retN, W_drop, W_if, W_call, W_make, W_fld, W_ix, W_part, W_noPart, W_sl, W_itL, W_itT, W_itS, W_for, W_forNil, W_while, W_gset, W_gcons, W_gnil, W_par2, W_fzM, W_rf, W_ownA, W_setIx, WF_run, WF_ok, WF_arM, eq_self, setE_mk, List.map_cons, List.map_nil, List.length_cons, List.length_nil, List.replicate, List.cons_append, List.nil_append, List.append_nil, List.set_cons_zero, List.set_cons_succ, List.getElem?_cons_zero, List.getElem?_cons_succ, Nat.reduceAdd, Nat.reduceSub, Nat.sub_zero, if_true, if_false, Bool.false_eq_true, and_self, and_true, true_and, Int.reduceLT, Int.reduceLE, Nat.reduceLeDiff, Nat.reduceLT, decide_true, decide_false, Bool.not_true, Bool.not_false, addV_int, subV_int, negV_int, ltV_int, leV_int, gtV_int, geV_int, eqV_int, neV_int, eqV_str, neV_str, intV_int, intV_bl, lenV_fl, lenV_tup, listV_fl, tupleV_fl, ixS_fl, ixS_tup, enm_fl, tupV, lstV, szL, szl, addV_fl, W_ownIxM, W_appM, W_parVN, W_parNV, W_parNN, W_parVVN, minV_int, maxV_int, scI, W_selfM, WI_run, WI_end, WI_ok, Int.cast_ofNat_Int, Int.reduceBEq, Int.reduceBNe, beq_self_eq_true, Bool.not_eq_true, Bool.and_true, Bool.true_and, W_gtupM, W_opL, W_ownSet]
    rfl
theorem rowcopies_ok (Z : Ad) (rs : List Row) (h : RowsOk rs) (h1 : rs ≠ []) (h2 : rs.length ≤ 1000) (a : Nat) (ha : a < rs.length) (hc : (copies rs).length = rs.length) (μ : List SO) : fn_row_copies Z [docV Z rs, nI a] μ = .ok (nI ((copies rs).getD a 0)) μ := by
  apply of_WF
  unfold fn_row_copies m_row_copies
  simp (config := { failIfUnchanged := false, decide := false }) only [W_bind, W_pure, W_no, W_opt, W_nox, W_op, W_un, W_C, W_varM, W_tst, W_boolM, W_ifB, W_notT, W_andT, W_orT, W_ifE, W_andV, W_orV, W_notV, W_chain, W_nil, W_cons, W_ap, W_apL, W_fl, W_nx, W_brk, W_cnt, W_seq, W_set, W_own, W_ret, W_retN, W_drop, W_if, W_call, W_make, W_fld, W_ix, W_part, W_noPart, W_sl, W_itL, W_itT, W_itS, W_for, W_forNil, W_while, W_gset, W_gcons, W_gnil, W_par2, W_fzM, W_rf, W_ownA, W_setIx, WF_run, WF_ok, WF_arM, eq_self, setE_mk, List.map_cons, List.map_nil, List.length_cons, List.length_nil, List.replicate, List.cons_append, List.nil_append, List.append_nil, List.set_cons_zero, List.set_cons_succ, List.getElem?_cons_zero, List.getElem?_cons_succ, Nat.reduceAdd, Nat.reduceSub, Nat.sub_zero, if_true, if_false, Bool.false_eq_true, and_self, and_true, true_and, Int.reduceLT, Int.reduceLE, Nat.reduceLeDiff, Nat.reduceLT, decide_true, decide_false, Bool.not_true, Bool.not_false, addV_int, subV_int, negV_int, ltV_int, leV_int, gtV_int, geV_int, eqV_int, neV_int, eqV_str, neV_str, intV_int, intV_bl, lenV_fl, lenV_tup, listV_fl, tupleV_fl, ixS_fl, ixS_tup, enm_fl, tupV, lstV, szL, szl, addV_fl, W_ownIxM, W_appM, W_parVN, W_parNV, W_parNN, W_parVVN, minV_int, maxV_int, scI, W_selfM, WI_run, WI_end, WI_ok, Int.cast_ofNat_Int, Int.reduceBEq, Int.reduceBNe, beq_self_eq_true, Bool.not_eq_true, Bool.and_true, Bool.true_and, W_gtupM, W_opL, W_ownSet, checkrow_ok Z rs a ha, fld_rows, copies_ok Z rs h h1 h2, at_of (iv := nI) (d := 0) (show a < (copies rs).length by rw [hc]; exact ha)]
/-! ### copies are nodes -/
def sT (T : Nat → Nat) (acc : List Nat) (n : Nat) : Nat := ((List.range n).map fun x => acc.getD x 0 * T x).sum
theorem sT_succ (T : Nat → Nat) (acc : List Nat) (n : Nat) : sT T acc (n + 1) = sT T acc n + acc.getD n 0 * T n := by
  unfold sT
  rw [List.range_succ, List.map_append, List.sum_append]
  simp
theorem getD_set2 {l : List Nat} {i j x : Nat} (h : i < l.length) : (l.set i x).getD j 0 = if i = j then x else l.getD j 0 := by
  simp only [List.getD, List.getElem?_set]
  by_cases e : i = j
  · subst e; simp [h]
  · simp [e]
theorem sT_set (T : Nat → Nat) {acc : List Nat} {p v : Nat} (hp : p < acc.length) : ∀ n, sT T (acc.set p (acc.getD p 0 + v)) n = sT T acc n + (if p < n then v * T p else 0)
  | 0 => by simp [sT]
  | n + 1 => by
    rw [sT_succ, sT_succ, sT_set T hp n, getD_set2 hp]
    by_cases e : p = n
    · subst e
      rw [if_pos rfl, if_neg (by omega), if_pos (by omega), Nat.add_mul]
      omega
    · rw [if_neg e]
      by_cases h : p < n
      · rw [if_pos h, if_pos (by omega)]; omega
      · rw [if_neg h, if_neg (by omega)]; omega
theorem fold_parts (T : Nat → Nat) (a : Nat) : ∀ (ps acc : List Nat), (∀ p ∈ ps, p < a) → a < acc.length →
    let r := ps.foldl (fun acc p => acc.set p (acc.getD p 0 + acc.getD a 0)) acc
    sT T r a = sT T acc a + acc.getD a 0 * (ps.map T).sum ∧ (∀ x, a ≤ x → r.getD x 0 = acc.getD x 0) ∧ r.length = acc.length
  | [], acc, _, _ => by simp
  | p :: ps, acc, hp, ha => by
    have hpa : p < a := hp p (by simp)
    have hpl : p < acc.length := by omega
    obtain ⟨e1, e2, e3⟩ := fold_parts T a ps (acc.set p (acc.getD p 0 + acc.getD a 0)) (fun q hq => hp q (by simp [hq])) (by simpa using ha)
    have e4 : (acc.set p (acc.getD p 0 + acc.getD a 0)).getD a 0 = acc.getD a 0 := by rw [getD_set2 hpl, if_neg (by omega)]
    rw [List.foldl_cons]
    refine ⟨?_, fun x hx => ?_, by rw [e3]; simp⟩
    · rw [e1, e4, sT_set T hpl, if_pos hpa, List.map_cons, List.sum_cons, Nat.mul_add]
      omega
    · rw [e2 x hx, getD_set2 hpl, if_neg (by omega)]
theorem ct_zero (b : Nat) {rs : List Row} (h : RowsOk rs) : ∀ (n x : Nat), x < n → x < b → x < rs.length → ct (fun a => a == b) rs x = 0
  | 0, x, hn, _, _ => by omega
  | n + 1, x, hn, hx, hl => by
    rw [ct_eq _ h hl]
    have e : ((pa rs x).map (ct (fun a => a == b) rs)).sum = 0 := by
      have : (pa rs x).map (ct (fun a => a == b) rs) = (pa rs x).map fun _ => 0 := by
        apply List.map_congr_left
        intro p hp
        have := pa_lt h p hp
        exact ct_zero b h n p (by omega) (by omega) (by omega)
      rw [this]
      induction pa rs x with
      | nil => rfl
      | cons y l ih => simpa using ih
    rw [e]
    have : (x == b) = false := by simpa using (show x ≠ b by omega)
    rw [this]
    rfl
theorem sT_zero (T : Nat → Nat) (acc : List Nat) : ∀ n, (∀ x, x < n → T x = 0) → sT T acc n = 0
  | 0, _ => rfl
  | n + 1, h => by rw [sT_succ, sT_zero T acc n fun x hx => h x (by omega), h n (by omega)]; simp
theorem copies_eq {rs : List Row} (h : RowsOk rs) (hl : 0 < rs.length) (b : Nat) (hb : b < rs.length) : (copies rs).length = rs.length ∧ (copies rs).getD b 0 = ct (fun a => a == b) rs (rs.length - 1) := by
  have hpl : ∀ a, ∀ p ∈ ((rs[a]?).map Row.parts).getD [], p < a := fun a p hp => pa_lt h p hp
  generalize hT : ct (fun a => a == b) rs = T
  have tE : ∀ a, a < rs.length → T a = w1 (a == b) + ((pa rs a).map T).sum := fun a ha => by rw [← hT]; exact ct_eq _ h ha
  have t0 : ∀ x, x < b → T x = 0 := fun x hx => by rw [← hT]; exact ct_zero b h (x + 1) x (by omega) hx (by omega)
  have main : ∀ k, k ≤ rs.length → ∃ acc, (((List.range rs.length).map fun i => rs.length - 1 - i).take k).foldl (cstep rs) ((List.replicate rs.length 0).set (rs.length - 1) 1) = acc ∧ acc.length = rs.length ∧ (b < rs.length - k → sT T acc (rs.length - k) = T (rs.length - 1)) ∧ (rs.length - k ≤ b → acc.getD b 0 = T (rs.length - 1)) := by
    intro k
    induction k with
    | zero =>
      intro _
      refine ⟨_, rfl, by simp, fun _ => ?_, fun hh => by omega⟩
      rw [List.take_zero, List.foldl_nil, Nat.sub_zero]
      have e0 : (List.replicate rs.length 0).getD (rs.length - 1) 0 + 1 = 1 := by
        simp only [List.getD, List.getElem?_replicate]
        split <;> rfl
      have := sT_set T (acc := List.replicate rs.length 0) (p := rs.length - 1) (v := 1) (by simpa using (show rs.length - 1 < rs.length by omega)) rs.length
      rw [e0, if_pos (by omega), Nat.one_mul] at this
      rw [this]
      have z : ∀ n, sT T (List.replicate rs.length 0) n = 0 := by
        intro n
        induction n with
        | zero => rfl
        | succ n ih =>
          rw [sT_succ, ih]
          have : (List.replicate rs.length 0).getD n 0 = 0 := by
            simp only [List.getD, List.getElem?_replicate]
            split <;> rfl
          rw [this]; simp
      rw [z]; simp
    | succ k ih =>
      intro hk
      obtain ⟨acc, e, hlen, i1, i2⟩ := ih (by omega)
      have hat : ((List.range rs.length).map fun i => rs.length - 1 - i)[k]? = some (rs.length - (k + 1)) := by
        rw [List.getElem?_map, List.getElem?_range (by omega)]
        show some (rs.length - 1 - k) = _
        congr 1; omega
      rw [List.take_add_one, hat, Option.toList_some, List.foldl_append, e, List.foldl_cons, List.foldl_nil]
      generalize ha : rs.length - (k + 1) = a at *
      have hk2 : rs.length - k = a + 1 := by omega
      rw [hk2] at i1 i2
      obtain ⟨f1, f2, f3⟩ := fold_parts T a (pa rs a) acc (fun p hp => pa_lt h p hp) (by omega)
      refine ⟨_, rfl, f3.trans hlen, fun hb1 => ?_, fun hb1 => ?_⟩
      · have := i1 (by omega)
        rw [sT_succ, tE a (by omega)] at this
        have hne : (a == b) = false := by simpa using (show a ≠ b by omega)
        rw [hne] at this
        show sT T ((pa rs a).foldl _ acc) a = _
        rw [f1, ← this]
        unfold w1
        simp
      · show ((pa rs a).foldl _ acc).getD b 0 = _
        rw [f2 b hb1]
        by_cases hba : b = a
        · have := i1 (by omega)
          rw [sT_succ, sT_zero T acc a fun x hx => t0 x (by omega), tE a (by omega)] at this
          have hz : ((pa rs a).map T).sum = 0 := by
            have : (pa rs a).map T = (pa rs a).map fun _ => 0 := List.map_congr_left fun p hp => t0 p (by have := pa_lt h p hp; omega)
            rw [this]
            induction pa rs a with
            | nil => rfl
            | cons y l ih => simpa using ih
          rw [hz] at this
          subst hba
          rw [← this]
          unfold w1
          simp
        · exact i2 (by omega)
  obtain ⟨acc, e, hlen, _, i2⟩ := main rs.length (Nat.le_refl _)
  rw [List.take_of_length_le (by simp)] at e
  have ec : copies rs = acc := e
  rw [ec]
  exact ⟨hlen, i2 (by omega)⟩
end Lw
set_option Elab.async false
set_option linter.all false
set_option maxRecDepth 100000
set_option maxHeartbeats 2000000
namespace Lw
open PySem L2 Mi
def isF (b : Nat) : IV → IV := fun x => match x with
  | .int k => .bl (k == (b : Int))
  | _ => .non
theorem int_eq (a b : Nat) : ((a : Int) == (b : Int)) = (a == b) := by
  by_cases h : a = b
  · subst h; simp
  · have : (a == b) = false := by simpa using h
    rw [this]
    have : (a : Int) ≠ (b : Int) := by omega
    simpa using this
abbrev cb (b : Nat) : Nat → Bool := fun a => a == b
theorem only_ok (Z : Ad) (rs : List Row) (h2 : rs.length ≤ 1000) (b : Nat) (μ : List SO) : fn_only_row Z [docV Z rs, nI b] μ = .ok (chV (cb b) rs.length) μ := by
  apply of_WF
  unfold fn_only_row m_only_row
  simp (config := { failIfUnchanged := false, decide := false }) only [W_bind, W_pure, W_no, W_opt, W_nox, W_op, W_un, W_C, W_varM, W_tst, W_boolM, W_ifB, W_notT, W_andT, W_orT, W_ifE, W_andV, W_orV, W_notV, W_chain, W_nil, W_cons, W_ap, W_apL, W_fl, W_nx, W_brk, W_cnt, W_seq, W_set, W_own, W_ret, W_retN, W_drop, W_if, W_call, W_make, W_fld, W_ix, W_part, W_noPart, W_sl, W_itL, W_itT, W_itS, W_for, W_forNil, W_while, W_gset, W_gcons, W_gnil, W_par2, W_fzM, W_rf, W_ownA, W_setIx, WF_run, WF_ok, WF_arM, eq_self, setE_mk, List.map_cons, List.map_nil, List.length_cons, List.length_nil, List.replicate, List.cons_append, List.nil_append, List.append_nil, List.set_cons_zero, List.set_cons_succ, List.getElem?_cons_zero, List.getElem?_cons_succ, Nat.reduceAdd, Nat.reduceSub, Nat.sub_zero, if_true, if_false, Bool.false_eq_true, and_self, and_true, true_and, Int.reduceLT, Int.reduceLE, Nat.reduceLeDiff, Nat.reduceLT, decide_true, decide_false, Bool.not_true, Bool.not_false, addV_int, subV_int, negV_int, ltV_int, leV_int, gtV_int, geV_int, eqV_int, neV_int, eqV_str, neV_str, intV_int, intV_bl, lenV_fl, lenV_tup, listV_fl, tupleV_fl, ixS_fl, ixS_tup, enm_fl, tupV, lstV, szL, szl, addV_fl, W_ownIxM, W_appM, W_parVN, W_parNV, W_parNN, W_parVVN, minV_int, maxV_int, scI, W_selfM, WI_run, WI_end, WI_ok, Int.cast_ofNat_Int, Int.reduceBEq, Int.reduceBNe, beq_self_eq_true, Bool.not_eq_true, Bool.and_true, Bool.true_and, W_gtupM, W_opL, W_ownSet]
  refine W_compM (isF b) ?_
  simp (config := { failIfUnchanged := false, decide := false }) only [W_bind, W_pure, W_no, W_opt, W_nox, W_op, W_un, W_C, W_varM, W_tst, W_boolM, W_ifB, W_notT, W_andT, W_orT, W_ifE, W_andV, W_orV, W_notV, W_chain, W_nil, W_cons, W_ap, W_apL, W_fl, W_nx, W_brk, W_cnt, W_seq, W_set, W_own, W_ret, W_retN, W_drop, W_if, W_call, W_make, W_fld, W_ix, W_part, W_noPart, W_sl, W_itL, W_itT, W_itS, W_for, W_forNil, W_while, W_gset, W_gcons, W_gnil, W_par2, W_fzM, W_rf, W_ownA, W_setIx, WF_run, WF_ok, WF_arM, eq_self, setE_mk, List.map_cons, List.map_nil, List.length_cons, List.length_nil, List.replicate, List.cons_append, List.nil_append, List.append_nil, List.set_cons_zero, List.set_cons_succ, List.getElem?_cons_zero, List.getElem?_cons_succ, Nat.reduceAdd, Nat.reduceSub, Nat.sub_zero, if_true, if_false, Bool.false_eq_true, and_self, and_true, true_and, Int.reduceLT, Int.reduceLE, Nat.reduceLeDiff, Nat.reduceLT, decide_true, decide_false, Bool.not_true, Bool.not_false, addV_int, subV_int, negV_int, ltV_int, leV_int, gtV_int, geV_int, eqV_int, neV_int, eqV_str, neV_str, intV_int, intV_bl, lenV_fl, lenV_tup, listV_fl, tupleV_fl, ixS_fl, ixS_tup, enm_fl, tupV, lstV, szL, szl, addV_fl, W_ownIxM, W_appM, W_parVN, W_parNV, W_parNN, W_parVVN, minV_int, maxV_int, scI, W_selfM, WI_run, WI_end, WI_ok, Int.cast_ofNat_Int, Int.reduceBEq, Int.reduceBNe, beq_self_eq_true, Bool.not_eq_true, Bool.and_true, Bool.true_and, W_gtupM, W_opL, W_ownSet, fld_rows, List.length_map]
  rw [rng1_of (by omega) (by omega)]
  have e1 : ((rs.length : Nat) : Int).toNat = rs.length := by omega
  rw [e1]
  refine ⟨by simp [rngL, szl]; omega, ?_, ?_⟩
  · intro x hx
    unfold rngL at hx
    obtain ⟨i, _, rfl⟩ := List.mem_map.mp hx
    apply of_W
    simp (config := { failIfUnchanged := false, decide := false }) only [W_bind, W_pure, W_no, W_opt, W_nox, W_op, W_un, W_C, W_varM, W_tst, W_boolM, W_ifB, W_notT, W_andT, W_orT, W_ifE, W_andV, W_orV, W_notV, W_chain, W_nil, W_cons, W_ap, W_apL, W_fl, W_nx, W_brk, W_cnt, W_seq, W_set, W_own, W_ret, W_retN, W_drop, W_if, W_call, W_make, W_fld, W_ix, W_part, W_noPart, W_sl, W_itL, W_itT, W_itS, W_for, W_forNil, W_while, W_gset, W_gcons, W_gnil, W_par2, W_fzM, W_rf, W_ownA, W_setIx, WF_run, WF_ok, WF_arM, eq_self, setE_mk, List.map_cons, List.map_nil, List.length_cons, List.length_nil, List.replicate, List.cons_append, List.nil_append, List.append_nil, List.set_cons_zero, List.set_cons_succ, List.getElem?_cons_zero, List.getElem?_cons_succ, Nat.reduceAdd, Nat.reduceSub, Nat.sub_zero, if_true, if_false, Bool.false_eq_true, and_self, and_true, true_and, Int.reduceLT, Int.reduceLE, Nat.reduceLeDiff, Nat.reduceLT, decide_true, decide_false, Bool.not_true, Bool.not_false, addV_int, subV_int, negV_int, ltV_int, leV_int, gtV_int, geV_int, eqV_int, neV_int, eqV_str, neV_str, intV_int, intV_bl, lenV_fl, lenV_tup, listV_fl, tupleV_fl, ixS_fl, ixS_tup, enm_fl, tupV, lstV, szL, szl, addV_fl, W_ownIxM, W_appM, W_parVN, W_parNV, W_parNN, W_parVVN, minV_int, maxV_int, scI, W_selfM, WI_run, WI_end, WI_ok, Int.cast_ofNat_Int, Int.reduceBEq, Int.reduceBNe, beq_self_eq_true, Bool.not_eq_true, Bool.and_true, Bool.true_and, W_gtupM, W_opL, W_ownSet]
    rfl
  · congr 1
    unfold rngL
    rw [List.map_map]
    apply List.map_congr_left
    intro i _
    show IV.bl ((0 + (i : Int)) == (b : Int)) = .bl (i == b)
    rw [Int.zero_add, int_eq]
section
variable (Z : Ad) {rs : List Row} (h : RowsOk rs) (h2 : rs.length ≤ 500) (hl : 0 < rs.length) (b : Nat) (hb : b < rs.length) (μ : List SO)
include h h2 hl hb
theorem rpath_ok {k : Nat} {q : List Nat} (x : At (cb b) rs (rs.length - 1) q k b) : fn_path_at_row Z [docV Z rs, nI b, nI k] μ = .ok (pathV q) μ := by
  apply of_WF
  unfold fn_path_at_row m_path_at_row
  simp (config := { failIfUnchanged := false, decide := false }) only [W_bind, W_pure, W_no, W_opt, W_nox, W_op, W_un, W_C, W_varM, W_tst, W_boolM, W_ifB, W_notT, W_andT, W_orT, W_ifE, W_andV, W_orV, W_notV, W_chain, W_nil, W_cons, W_ap, W_apL, W_fl, W_nx, W_brk, W_cnt, W_seq, W_set, W_own, W_ret, W_retN, W_drop, W_if, W_call, W_make, W_fld, W_ix, W_part, W_noPart, W_sl, W_itL, W_itT, W_itS, W_for, W_forNil, W_while, W_gset, W_gcons, W_gnil, W_par2, W_fzM, W_rf, W_ownA, W_setIx, WF_run, WF_ok, WF_arM, eq_self, setE_mk, List.map_cons, List.map_nil, List.length_cons, List.length_nil, List.replicate, List.cons_append, List.nil_append, List.append_nil, List.set_cons_zero, List.set_cons_succ, List.getElem?_cons_zero, List.getElem?_cons_succ, Nat.reduceAdd, Nat.reduceSub, Nat.sub_zero, if_true, if_false, Bool.false_eq_true, and_self, and_true, true_and, Int.reduceLT, Int.reduceLE, Nat.reduceLeDiff, Nat.reduceLT, decide_true, decide_false, Bool.not_true, Bool.not_false, addV_int, subV_int, negV_int, ltV_int, leV_int, gtV_int, geV_int, eqV_int, neV_int, eqV_str, neV_str, intV_int, intV_bl, lenV_fl, lenV_tup, listV_fl, tupleV_fl, ixS_fl, ixS_tup, enm_fl, tupV, lstV, szL, szl, addV_fl, W_ownIxM, W_appM, W_parVN, W_parNV, W_parNN, W_parVVN, minV_int, maxV_int, scI, W_selfM, WI_run, WI_end, WI_ok, Int.cast_ofNat_Int, Int.reduceBEq, Int.reduceBNe, beq_self_eq_true, Bool.not_eq_true, Bool.and_true, Bool.true_and, W_gtupM, W_opL, W_ownSet, checkrow_ok Z rs b hb, only_ok Z rs (by omega) b, fld_rows, cpath_ok Z h h2 hl x (by simp)]
theorem rnum_ok {k : Nat} {q : List Nat} (x : At (cb b) rs (rs.length - 1) q k b) : fn_number_at_row Z [docV Z rs, pathV q] μ = .ok (nI k) μ := by
  apply of_WF
  unfold fn_number_at_row m_number_at_row
  simp (config := { failIfUnchanged := false, decide := false }) only [W_bind, W_pure, W_no, W_opt, W_nox, W_op, W_un, W_C, W_varM, W_tst, W_boolM, W_ifB, W_notT, W_andT, W_orT, W_ifE, W_andV, W_orV, W_notV, W_chain, W_nil, W_cons, W_ap, W_apL, W_fl, W_nx, W_brk, W_cnt, W_seq, W_set, W_own, W_ret, W_retN, W_drop, W_if, W_call, W_make, W_fld, W_ix, W_part, W_noPart, W_sl, W_itL, W_itT, W_itS, W_for, W_forNil, W_while, W_gset, W_gcons, W_gnil, W_par2, W_fzM, W_rf, W_ownA, W_setIx, WF_run, WF_ok, WF_arM, eq_self, setE_mk, List.map_cons, List.map_nil, List.length_cons, List.length_nil, List.replicate, List.cons_append, List.nil_append, List.append_nil, List.set_cons_zero, List.set_cons_succ, List.getElem?_cons_zero, List.getElem?_cons_succ, Nat.reduceAdd, Nat.reduceSub, Nat.sub_zero, if_true, if_false, Bool.false_eq_true, and_self, and_true, true_and, Int.reduceLT, Int.reduceLE, Nat.reduceLeDiff, Nat.reduceLT, decide_true, decide_false, Bool.not_true, Bool.not_false, addV_int, subV_int, negV_int, ltV_int, leV_int, gtV_int, geV_int, eqV_int, neV_int, eqV_str, neV_str, intV_int, intV_bl, lenV_fl, lenV_tup, listV_fl, tupleV_fl, ixS_fl, ixS_tup, enm_fl, tupV, lstV, szL, szl, addV_fl, W_ownIxM, W_appM, W_parVN, W_parNV, W_parNN, W_parVVN, minV_int, maxV_int, scI, W_selfM, WI_run, WI_end, WI_ok, Int.cast_ofNat_Int, Int.reduceBEq, Int.reduceBNe, beq_self_eq_true, Bool.not_eq_true, Bool.and_true, Bool.true_and, W_gtupM, W_opL, W_ownSet, row_at_ok Z h hl x, only_ok Z rs (by omega) b, fld_rows, ahead_ok Z h (by omega) hl x]
theorem rpath_no : fn_path_at_rowX Z [docV Z rs, nI b, nI (ct (cb b) rs (rs.length - 1))] μ = .ex Z.InvalidBound [("argument", .str "k")] μ := by
  unfold fn_path_at_rowX
  refine ex_ar rfl (ex_run (s' := ⟨[.val (docV Z rs), .val (nI b), .val (nI (ct (cb b) rs (rs.length - 1)))], μ⟩) ?_)
  unfold m_path_at_rowX
  refine ex_seq2 (s1 := ⟨[.val (docV Z rs), .val (nI b), .val (nI (ct (cb b) rs (rs.length - 1)))], μ⟩) ?_ (ex_bind1 (ex_call (xs := [rowsV rs, chV (cb b) rs.length, nI (ct (cb b) rs (rs.length - 1))]) (s1 := ⟨[.val (docV Z rs), .val (nI b), .val (nI (ct (cb b) rs (rs.length - 1)))], μ⟩) ?_ (cpath_no Z (cb b) h h2 hl μ)))
  · apply of_W
    show W _ ⟨[.val (docV Z rs), .val (nI b), .val (nI (ct (cb b) rs (rs.length - 1)))], μ⟩ _
    simp (config := { failIfUnchanged := false, decide := false }) only [W_bind, W_pure, W_no, W_opt, W_nox, W_op, W_un, W_C, W_varM, W_tst, W_boolM, W_ifB, W_notT, W_andT, W_orT, W_ifE, W_andV, W_orV, W_notV, W_chain, W_nil, W_cons, W_ap, W_apL, W_fl, W_nx, W_brk, W_cnt, W_seq, W_set, W_own, W_ret, W_retN, W_drop, W_if, W_call, W_make, W_fld, W_ix, W_part, W_noPart, W_sl, W_itL, W_itT, W_itS, W_for, W_forNil, W_while, W_gset, W_gcons, W_gnil, W_par2, W_fzM, W_rf, W_ownA, W_setIx, WF_run, WF_ok, WF_arM, eq_self, setE_mk, List.map_cons, List.map_nil, List.length_cons, List.length_nil, List.replicate, List.cons_append, List.nil_append, List.append_nil, List.set_cons_zero, List.set_cons_succ, List.getElem?_cons_zero, List.getElem?_cons_succ, Nat.reduceAdd, Nat.reduceSub, Nat.sub_zero, if_true, if_false, Bool.false_eq_true, and_self, and_true, true_and, Int.reduceLT, Int.reduceLE, Nat.reduceLeDiff, Nat.reduceLT, decide_true, decide_false, Bool.not_true, Bool.not_false, addV_int, subV_int, negV_int, ltV_int, leV_int, gtV_int, geV_int, eqV_int, neV_int, eqV_str, neV_str, intV_int, intV_bl, lenV_fl, lenV_tup, listV_fl, tupleV_fl, ixS_fl, ixS_tup, enm_fl, tupV, lstV, szL, szl, addV_fl, W_ownIxM, W_appM, W_parVN, W_parNV, W_parNN, W_parVVN, minV_int, maxV_int, scI, W_selfM, WI_run, WI_end, WI_ok, Int.cast_ofNat_Int, Int.reduceBEq, Int.reduceBNe, beq_self_eq_true, Bool.not_eq_true, Bool.and_true, Bool.true_and, W_gtupM, W_opL, W_ownSet, checkrow_ok Z rs b hb]
  · apply of_W
    simp (config := { failIfUnchanged := false, decide := false }) only [W_bind, W_pure, W_no, W_opt, W_nox, W_op, W_un, W_C, W_varM, W_tst, W_boolM, W_ifB, W_notT, W_andT, W_orT, W_ifE, W_andV, W_orV, W_notV, W_chain, W_nil, W_cons, W_ap, W_apL, W_fl, W_nx, W_brk, W_cnt, W_seq, W_set, W_own, W_ret, W_retN, W_drop, W_if, W_call, W_make, W_fld, W_ix, W_part, W_noPart, W_sl, W_itL, W_itT, W_itS, W_for, W_forNil, W_while, W_gset, W_gcons, W_gnil, W_par2, W_fzM, W_rf, W_ownA, W_setIx, WF_run, WF_ok, WF_arM, eq_self, setE_mk, List.map_cons, List.map_nil, List.length_cons, List.length_nil, List.replicate, List.cons_append, List.nil_append, List.append_nil, List.set_cons_zero, List.set_cons_succ, List.getElem?_cons_zero, List.getElem?_cons_succ, Nat.reduceAdd, Nat.reduceSub, Nat.sub_zero, if_true, if_false, Bool.false_eq_true, and_self, and_true, true_and, Int.reduceLT, Int.reduceLE, Nat.reduceLeDiff, Nat.reduceLT, decide_true, decide_false, Bool.not_true, Bool.not_false, addV_int, subV_int, negV_int, ltV_int, leV_int, gtV_int, geV_int, eqV_int, neV_int, eqV_str, neV_str, intV_int, intV_bl, lenV_fl, lenV_tup, listV_fl, tupleV_fl, ixS_fl, ixS_tup, enm_fl, tupV, lstV, szL, szl, addV_fl, W_ownIxM, W_appM, W_parVN, W_parNV, W_parNN, W_parVVN, minV_int, maxV_int, scI, W_selfM, WI_run, WI_end, WI_ok, Int.cast_ofNat_Int, Int.reduceBEq, Int.reduceBNe, beq_self_eq_true, Bool.not_eq_true, Bool.and_true, Bool.true_and, W_gtupM, W_opL, W_ownSet, fld_rows, only_ok Z rs (by omega) b]
theorem rrefused_ok : fn__law_is_refused Z [docV Z rs, nI b, nI (ct (cb b) rs (rs.length - 1))] μ = .ok (.bl true) μ := by
  apply of_WF
  unfold fn__law_is_refused m__law_is_refused
  have e1 : List.lookup (Str.ofString "argument") ([(Str.ofString "argument", IV.str (Str.ofString "k"))] : List (Str × IV)) = some (IV.str (Str.ofString "k")) := by kernel_rfl
  have e2 : (Str.ofString "k" == Str.ofString "k") = true := by kernel_rfl
  simp (config := { failIfUnchanged := false, decide := false }) only [W_bind, W_pure, W_no, W_opt, W_nox, W_op, W_un, W_C, W_varM, W_tst, W_boolM, W_ifB, W_notT, W_andT, W_orT, W_ifE, W_andV, W_orV, W_notV, W_chain, W_nil, W_cons, W_ap, W_apL, W_fl, W_nx, W_brk, W_cnt, W_seq, W_set, W_own, W_ret, W_retN, W_drop, W_if, W_call, W_make, W_fld, W_ix, W_part, W_noPart, W_sl, W_itL, W_itT, W_itS, W_for, W_forNil, W_while, W_gset, W_gcons, W_gnil, W_par2, W_fzM, W_rf, W_ownA, W_setIx, WF_run, WF_ok, WF_arM, eq_self, setE_mk, List.map_cons, List.map_nil, List.length_cons, List.length_nil, List.replicate, List.cons_append, List.nil_append, List.append_nil, List.set_cons_zero, List.set_cons_succ, List.getElem?_cons_zero, List.getElem?_cons_succ, Nat.reduceAdd, Nat.reduceSub, Nat.sub_zero, if_true, if_false, Bool.false_eq_true, and_self, and_true, true_and, Int.reduceLT, Int.reduceLE, Nat.reduceLeDiff, Nat.reduceLT, decide_true, decide_false, Bool.not_true, Bool.not_false, addV_int, subV_int, negV_int, ltV_int, leV_int, gtV_int, geV_int, eqV_int, neV_int, eqV_str, neV_str, intV_int, intV_bl, lenV_fl, lenV_tup, listV_fl, tupleV_fl, ixS_fl, ixS_tup, enm_fl, tupV, lstV, szL, szl, addV_fl, W_ownIxM, W_appM, W_parVN, W_parNV, W_parNN, W_parVVN, minV_int, maxV_int, scI, W_selfM, WI_run, WI_end, WI_ok, Int.cast_ofNat_Int, Int.reduceBEq, Int.reduceBNe, beq_self_eq_true, Bool.not_eq_true, Bool.and_true, Bool.true_and, W_gtupM, W_opL, W_ownSet, W_tryEq, rpath_no Z h h2 hl b hb μ, e1, e2]
end
/-! ### the nodes at a row -/
abbrev ev (rs : List Row) : List (List Nat × Nat) := nodes rs 24 (rs.length - 1) []
abbrev du (b : Nat) (rs : List Row) : List (List Nat) := ((ev rs).filter fun y => cb b y.2).map (·.1)
def pW (b : Nat) : IV → Bool := fun x => match x with
  | .tup [_, .int k] => k == (b : Int)
  | _ => false
def fW : IV → IV := fun x => match x with
  | .tup (p :: _) => p
  | _ => .non
theorem pW_at (b : Nat) (y : List Nat × Nat) : pW b (nodeV y) = cb b y.2 := int_eq y.2 b
theorem du_map (b : Nat) (l : List (List Nat × Nat)) : ((l.map nodeV).filter (pW b)).map fW = ((l.filter fun y => cb b y.2).map (·.1)).map pathV := by
  induction l with
  | nil => rfl
  | cons y l ih =>
    rw [List.map_cons]
    have e := pW_at b y
    by_cases h : cb b y.2 = true
    · rw [List.filter_cons_of_pos (by rw [e]; exact h), List.filter_cons_of_pos (by exact h), List.map_cons, ih]
      rfl
    · rw [List.filter_cons_of_neg (by rw [e]; exact h), List.filter_cons_of_neg (by exact h), ih]
section
variable (Z : Ad) (rs : List Row) (h : RowsOk rs) (h2 : rs.length ≤ 20) (hl : 0 < rs.length) (hb : ∀ t ∈ vals fT rs, t ≤ 150) (b : Nat)
include h h2 hl
theorem du_cnt : (du b rs).length = ct (cb b) rs (rs.length - 1) := by
  rw [List.length_map, ← List.countP_eq_length_filter, nodes_cnt (cb b) h 24 (rs.length - 1) [] (by omega) (by omega)]
include hb
theorem ev_len : (ev rs).length ≤ 150 := by
  rw [nodes_len h 24 (rs.length - 1) [] (by omega) (by omega)]
  have hl2 : rs.length - 1 < (vals fT rs).length := by rw [vals_len]; omega
  refine hb _ ?_
  show (vals fT rs).getD (rs.length - 1) 0 ∈ _
  simp only [List.getD, List.getElem?_eq_getElem hl2, Option.getD_some]
  exact List.getElem_mem hl2
theorem du_len : (du b rs).length ≤ 150 := by
  have l1 := ev_len rs h h2 hl hb
  have l2 : (du b rs).length ≤ (ev rs).length := by rw [List.length_map]; exact List.length_filter_le ..
  omega
omit hb
theorem du_at {k : Nat} {q : List Nat} (e : (du b rs)[k]? = some q) : At (cb b) rs (rs.length - 1) q k b := by
  rw [List.getElem?_map] at e
  cases ey : ((ev rs).filter fun y => cb b y.2)[k]? with
  | none => rw [ey] at e; cases e
  | some y =>
    rw [ey] at e
    cases e
    obtain ⟨m, e2, e3, e4⟩ := filter_at _ _ k y ey
    obtain ⟨q', e1, e5⟩ := nodes_at (cb b) h 24 (rs.length - 1) [] m y (by omega) (by omega) e2
    rw [List.nil_append] at e1
    rw [e4, ← e1] at e5
    have : y.2 = b := by simpa using e3
    rw [this] at e5
    exact e5
end
def npF (D : List (List Nat)) : IV → IV := fun x => x
theorem cut_ints {ns : List Int} {lo hi : Option Int} : ∀ x ∈ cutL (ns.map IV.int) lo hi, ∃ c : Int, x = .int c := by
  intro x hx
  obtain ⟨c, _, rfl⟩ := List.mem_map.mp (cutL_sub x hx)
  exact ⟨c, rfl⟩
theorem ne_nats (q : List Nat) : neV (.fl (q.map nI)) (.fl (q.map nI)) = some (.bl false) := by
  have h0 := PySem.W.canLayAll0_ints (q.map fun (n : Nat) => (n : Int))
  have h1 := PySem.W.depthAll_ints (q.map fun (n : Nat) => (n : Int))
  rw [List.map_map] at h0 h1
  exact ne_self _ _ (pd_ints q) h0 (Nat.le_trans h1 (by decide))
/-- [number_at_row(doc, path) for path in due]: each path its number -/
theorem compL_ix {i : Nat} {e : M IV} {s0 : S} (f : Nat → IV) : ∀ (l acc : List IV) (n : Nat), acc.length + l.length ≤ szl → (∀ k x, l[k]? = some x → e (setE i (.val x) s0) = .ok (f (n + k)) (setE i (.val x) s0)) → (∀ x, setE i .emp (setE i (.val x) s0) = s0) →
    compL [i] (gSet i) tYesM e l acc s0 = .ok (acc ++ (List.range l.length).map fun k => f (n + k)) s0
  | [], acc, n, _, _, _ => by rw [compL.eq_1]; simp [M.pure]
  | x :: r, acc, n, hz, h, hs => by
    have hx := h 0 x rfl
    have n3 : nox e (setE i (.val x) s0) = .ok (f n) (setE i (.val x) s0) := by unfold nox; rw [hx]; rfl
    rw [List.length_cons] at hz
    rw [compL.eq_2]
    show M.bind (nox e) _ (setE i (.val x) s0) = _
    simp only [M.bind, n3]
    rw [if_pos (by omega)]
    show compL [i] (gSet i) tYesM e r (acc ++ [f n]) (setE i .emp (setE i (.val x) s0)) = _
    rw [hs, compL_ix f r (acc ++ [f n]) (n + 1) (by simp; omega) (fun k y hk => by
      have := h (k + 1) y (by simpa using hk)
      rwa [show n + (k + 1) = n + 1 + k from by omega] at this) hs, List.length_cons, List.range_succ_eq_map, List.map_cons, List.map_map, List.append_assoc]
    congr 1
    simp only [List.cons_append, List.nil_append, Nat.add_zero]
    congr 2
    apply List.map_congr_left
    intro k _
    show f (n + 1 + k) = f (n + (k + 1))
    congr 1
    omega
end Lw
set_option Elab.async false
set_option linter.all false
set_option maxRecDepth 100000
set_option maxHeartbeats 2000000
namespace Lw
open PySem L2 Mi
section
variable (Z : Ad) (rs : List Row) (h : RowsOk rs) (h2 : rs.length ≤ 20) (hl : 0 < rs.length) (hb : ∀ t ∈ vals fT rs, t ≤ 150) (b : Nat) (hbl : b < rs.length) (μ : List SO) (s0 s1 s2 s3 s4 : Slot)
include h h2 hl hb
/-- the nodes at a row are chosen -/
theorem k_due (e8 e9 e10 e11 : Slot) (R : Flw → S → Prop) (hR : R .nx ⟨[s0, s1, s2, s3, s4, .val (docV Z rs), .val (.fl ((ev rs).map nodeV)), .val (nI b), .val (.fl ((du b rs).map pathV)), .emp, .emp, e11], μ⟩) :
    W (mSet 8 (mFl (mComp [9, 10] (mItL (mVar 6)) (gTp 2 (gCs (gSet 9) (gCs (gSet 10) (gNl)))) (mTst (mOp eqV (mVar 10) (mVar 7))) (mVar 9)))) ⟨[s0, s1, s2, s3, s4, .val (docV Z rs), .val (.fl ((ev rs).map nodeV)), .val (nI b), e8, e9, e10, e11], μ⟩ R := by
  rw [W_set, W_fl]
  refine W_compP (pW b) fW ?_
  simp (config := { failIfUnchanged := false, decide := false }) only [W_bind, W_pure, W_no, W_opt, W_nox, W_op, W_un, W_C, W_varM, W_tst, W_boolM, W_ifB, W_notT, W_andT, W_orT, W_ifE, W_andV, W_orV, W_notV, W_chain, W_nil, W_cons, W_ap, W_apL, W_fl, W_nx, W_brk, W_cnt, W_seq, W_set, W_own, W_ret, W_retN, W_drop, W_if, W_call, W_make, W_fld, W_ix, W_part, W_noPart, W_sl, W_itL, W_itT, W_itS, W_for, W_forNil, W_while, W_gset, W_gcons, W_gnil, W_par2, W_fzM, W_rf, W_ownA, W_setIx, WF_run, WF_ok, WF_arM, eq_self, setE_mk, List.map_cons, List.map_nil, List.length_cons, List.length_nil, List.replicate, List.cons_append, List.nil_append, List.append_nil, List.set_cons_zero, List.set_cons_succ, List.getElem?_cons_zero, List.getElem?_cons_succ, Nat.reduceAdd, Nat.reduceSub, Nat.sub_zero, if_true, if_false, Bool.false_eq_true, and_self, and_true, true_and, Int.reduceLT, Int.reduceLE, Nat.reduceLeDiff, Nat.reduceLT, decide_true, decide_false, Bool.not_true, Bool.not_false, addV_int, subV_int, negV_int, ltV_int, leV_int, gtV_int, geV_int, eqV_int, neV_int, eqV_str, neV_str, intV_int, intV_bl, lenV_fl, lenV_tup, listV_fl, tupleV_fl, ixS_fl, ixS_tup, enm_fl, tupV, lstV, szL, szl, addV_fl, W_ownIxM, W_appM, W_parVN, W_parNV, W_parNN, W_parVVN, minV_int, maxV_int, scI, W_selfM, WI_run, WI_end, WI_ok, Int.cast_ofNat_Int, Int.reduceBEq, Int.reduceBNe, beq_self_eq_true, Bool.not_eq_true, Bool.and_true, Bool.true_and, W_gtupM, W_opL, W_ownSet]
  refine ⟨by rw [List.length_map]; have := ev_len rs h h2 hl hb; omega, ?_, ?_⟩
  · intro x hx
    obtain ⟨y, hy, rfl⟩ := List.mem_map.mp hx
    rw [pW_at]
    simp (config := { failIfUnchanged := false, decide := false }) only [W_bind, W_pure, W_no, W_opt, W_nox, W_op, W_un, W_C, W_varM, W_tst, W_boolM, W_ifB, W_notT, W_andT, W_orT, W_ifE, W_andV, W_orV, W_notV, W_chain, W_nil, W_cons, W_ap, W_apL, W_fl, W_nx, W_brk, W_cnt, W_seq, W_set, W_own, W_ret, W_retN, W_drop, W_if, W_call, W_make, W_fld, W_ix, W_part, W_noPart, W_sl, W_itL, W_itT, W_itS, W_for, W_forNil, W_while, W_gset, W_gcons, W_gnil, W_par2, W_fzM, W_rf, W_ownA, W_setIx, WF_run, WF_ok, WF_arM, eq_self, setE_mk, List.map_cons, List.map_nil, List.length_cons, List.length_nil, List.replicate, List.cons_append, List.nil_append, List.append_nil, List.set_cons_zero, List.set_cons_succ, List.getElem?_cons_zero, List.getElem?_cons_succ, Nat.reduceAdd, Nat.reduceSub, Nat.sub_zero, if_true, if_false, Bool.false_eq_true, and_self, and_true, true_and, Int.reduceLT, Int.reduceLE, Nat.reduceLeDiff, Nat.reduceLT, decide_true, decide_false, Bool.not_true, Bool.not_false, addV_int, subV_int, negV_int, ltV_int, leV_int, gtV_int, geV_int, eqV_int, neV_int, eqV_str, neV_str, intV_int, intV_bl, lenV_fl, lenV_tup, listV_fl, tupleV_fl, ixS_fl, ixS_tup, enm_fl, tupV, lstV, szL, szl, addV_fl, W_ownIxM, W_appM, W_parVN, W_parNV, W_parNN, W_parVVN, minV_int, maxV_int, scI, W_selfM, WI_run, WI_end, WI_ok, Int.cast_ofNat_Int, Int.reduceBEq, Int.reduceBNe, beq_self_eq_true, Bool.not_eq_true, Bool.and_true, Bool.true_and, W_gtupM, W_opL, W_ownSet, wipeS_two, int_eq]
    cases cb b y.2 <;> simp (config := { failIfUnchanged := false, decide := false }) only [W_bind, W_pure, W_no, W_opt, W_nox, W_op, W_un, W_C, W_varM, W_tst, W_boolM, W_ifB, W_notT, W_andT, W_orT, W_ifE, W_andV, W_orV, W_notV, W_chain, W_nil, W_cons, W_ap, W_apL, W_fl, W_nx, W_brk, W_cnt, W_seq, W_set, W_own, W_ret, W_retN, W_drop, W_if, W_call, W_make, W_fld, W_ix, W_part, W_noPart, W_sl, W_itL, W_itT, W_itS, W_for, W_forNil, W_while, W_gset, W_gcons, W_gnil, W_par2, W_fzM, W_rf, W_ownA, W_setIx, WF_run, WF_ok, WF_arM, eq_self, setE_mk, List.map_cons, List.map_nil, List.length_cons, List.length_nil, List.replicate, List.cons_append, List.nil_append, List.append_nil, List.set_cons_zero, List.set_cons_succ, List.getElem?_cons_zero, List.getElem?_cons_succ, Nat.reduceAdd, Nat.reduceSub, Nat.sub_zero, if_true, if_false, Bool.false_eq_true, and_self, and_true, true_and, Int.reduceLT, Int.reduceLE, Nat.reduceLeDiff, Nat.reduceLT, decide_true, decide_false, Bool.not_true, Bool.not_false, addV_int, subV_int, negV_int, ltV_int, leV_int, gtV_int, geV_int, eqV_int, neV_int, eqV_str, neV_str, intV_int, intV_bl, lenV_fl, lenV_tup, listV_fl, tupleV_fl, ixS_fl, ixS_tup, enm_fl, tupV, lstV, szL, szl, addV_fl, W_ownIxM, W_appM, W_parVN, W_parNV, W_parNN, W_parVVN, minV_int, maxV_int, scI, W_selfM, WI_run, WI_end, WI_ok, Int.cast_ofNat_Int, Int.reduceBEq, Int.reduceBNe, beq_self_eq_true, Bool.not_eq_true, Bool.and_true, Bool.true_and, W_gtupM, W_opL, W_ownSet, wipeS_two]
    rfl
  · rw [du_map, wipeS_two]
    exact hR
include hbl
theorem k_three (D : List (List Nat)) (hD : D = du b rs) (e9 e10 e11 : Slot) (R : Flw → S → Prop) (hR : R .nx ⟨[s0, s1, s2, s3, s4, .val (docV Z rs), .val (.fl ((ev rs).map nodeV)), .val (nI b), .val (.fl (D.map pathV)), e9, e10, e11], μ⟩) :
    W (mIf (mOrT (mTst (mOp neV (mCall (fn_row_copies Z) (mCons (mVar 5) (mCons (mVar 7) (mNil)))) (mAp lenV (mCons (mVar 8) (mNil))))) (mNotT (mTst (mCall (fn__law_is_refused Z) (mCons (mVar 5) (mCons (mVar 7) (mCons (mAp lenV (mCons (mVar 8) (mNil))) (mNil)))))))) (mRet (mC (.bl false))) (mNx))
      ⟨[s0, s1, s2, s3, s4, .val (docV Z rs), .val (.fl ((ev rs).map nodeV)), .val (nI b), .val (.fl (D.map pathV)), e9, e10, e11], μ⟩ R := by
  have hne : rs ≠ [] := List.length_pos_iff.mp hl
  obtain ⟨c1, c2⟩ := copies_eq h hl b hbl
  have k1 := rowcopies_ok Z rs h hne (by omega) b hbl c1 μ
  have k2 := rrefused_ok Z h (by omega) hl b hbl μ
  have hc := du_cnt rs h h2 hl b
  rw [c2, show (fun a => a == b) = cb b from rfl, ← hc, ← hD] at k1
  rw [← hc, ← hD] at k2
  simp (config := { failIfUnchanged := false, decide := false }) only [W_bind, W_pure, W_no, W_opt, W_nox, W_op, W_un, W_C, W_varM, W_tst, W_boolM, W_ifB, W_notT, W_andT, W_orT, W_ifE, W_andV, W_orV, W_notV, W_chain, W_nil, W_cons, W_ap, W_apL, W_fl, W_nx, W_brk, W_cnt, W_seq, W_set, W_own, W_ret, W_retN, W_drop, W_if, W_call, W_make, W_fld, W_ix, W_part, W_noPart, W_sl, W_itL, W_itT, W_itS, W_for, W_forNil, W_while, W_gset, W_gcons, W_gnil, W_par2, W_fzM, W_rf, W_ownA, W_setIx, WF_run, WF_ok, WF_arM, eq_self, setE_mk, List.map_cons, List.map_nil, List.length_cons, List.length_nil, List.replicate, List.cons_append, List.nil_append, List.append_nil, List.set_cons_zero, List.set_cons_succ, List.getElem?_cons_zero, List.getElem?_cons_succ, Nat.reduceAdd, Nat.reduceSub, Nat.sub_zero, if_true, if_false, Bool.false_eq_true, and_self, and_true, true_and, Int.reduceLT, Int.reduceLE, Nat.reduceLeDiff, Nat.reduceLT, decide_true, decide_false, Bool.not_true, Bool.not_false, addV_int, subV_int, negV_int, ltV_int, leV_int, gtV_int, geV_int, eqV_int, neV_int, eqV_str, neV_str, intV_int, intV_bl, lenV_fl, lenV_tup, listV_fl, tupleV_fl, ixS_fl, ixS_tup, enm_fl, tupV, lstV, szL, szl, addV_fl, W_ownIxM, W_appM, W_parVN, W_parNV, W_parNN, W_parVVN, minV_int, maxV_int, scI, W_selfM, WI_run, WI_end, WI_ok, Int.cast_ofNat_Int, Int.reduceBEq, Int.reduceBNe, beq_self_eq_true, Bool.not_eq_true, Bool.and_true, Bool.true_and, W_gtupM, W_opL, W_ownSet, k1, List.length_map, neV_nat, k2]
  exact hR
theorem k_four (e9 e10 e11 : Slot) (R : Flw → S → Prop) (hR : R .nx ⟨[s0, s1, s2, s3, s4, .val (docV Z rs), .val (.fl ((ev rs).map nodeV)), .val (nI b), .val (.fl ((du b rs).map pathV)), e9, e10, .emp], μ⟩) :
    W (mIf (mTst (mOp neV (mFl (mComp [11] (mApL rng1 (mCons (mAp lenV (mCons (mVar 8) (mNil))) (mNil))) (gSet 11) (tYesM) (mCall (fn_path_at_row Z) (mCons (mVar 5) (mCons (mVar 7) (mCons (mVar 11) (mNil))))))) (mVar 8))) (mRet (mC (.bl false))) (mNx))
      ⟨[s0, s1, s2, s3, s4, .val (docV Z rs), .val (.fl ((ev rs).map nodeV)), .val (nI b), .val (.fl ((du b rs).map pathV)), e9, e10, e11], μ⟩ R := by
  obtain ⟨n, hdn⟩ : ∃ n, (du b rs).length = n := ⟨_, rfl⟩
  have hnb := du_len rs h h2 hl hb b
  rw [hdn] at hnb
  simp (config := { failIfUnchanged := false, decide := false }) only [W_bind, W_pure, W_no, W_opt, W_nox, W_op, W_un, W_C, W_varM, W_tst, W_boolM, W_ifB, W_notT, W_andT, W_orT, W_ifE, W_andV, W_orV, W_notV, W_chain, W_nil, W_cons, W_ap, W_apL, W_fl, W_nx, W_brk, W_cnt, W_seq, W_set, W_own, W_ret, W_retN, W_drop, W_if, W_call, W_make, W_fld, W_ix, W_part, W_noPart, W_sl, W_itL, W_itT, W_itS, W_for, W_forNil, W_while, W_gset, W_gcons, W_gnil, W_par2, W_fzM, W_rf, W_ownA, W_setIx, WF_run, WF_ok, WF_arM, eq_self, setE_mk, List.map_cons, List.map_nil, List.length_cons, List.length_nil, List.replicate, List.cons_append, List.nil_append, List.append_nil, List.set_cons_zero, List.set_cons_succ, List.getElem?_cons_zero, List.getElem?_cons_succ, Nat.reduceAdd, Nat.reduceSub, Nat.sub_zero, if_true, if_false, Bool.false_eq_true, and_self, and_true, true_and, Int.reduceLT, Int.reduceLE, Nat.reduceLeDiff, Nat.reduceLT, decide_true, decide_false, Bool.not_true, Bool.not_false, addV_int, subV_int, negV_int, ltV_int, leV_int, gtV_int, geV_int, eqV_int, neV_int, eqV_str, neV_str, intV_int, intV_bl, lenV_fl, lenV_tup, listV_fl, tupleV_fl, ixS_fl, ixS_tup, enm_fl, tupV, lstV, szL, szl, addV_fl, W_ownIxM, W_appM, W_parVN, W_parNV, W_parNN, W_parVVN, minV_int, maxV_int, scI, W_selfM, WI_run, WI_end, WI_ok, Int.cast_ofNat_Int, Int.reduceBEq, Int.reduceBNe, beq_self_eq_true, Bool.not_eq_true, Bool.and_true, Bool.true_and, W_gtupM, W_opL, W_ownSet]
  refine W_compM (atG pathV [] (du b rs)) ?_
  simp (config := { failIfUnchanged := false, decide := false }) only [W_bind, W_pure, W_no, W_opt, W_nox, W_op, W_un, W_C, W_varM, W_tst, W_boolM, W_ifB, W_notT, W_andT, W_orT, W_ifE, W_andV, W_orV, W_notV, W_chain, W_nil, W_cons, W_ap, W_apL, W_fl, W_nx, W_brk, W_cnt, W_seq, W_set, W_own, W_ret, W_retN, W_drop, W_if, W_call, W_make, W_fld, W_ix, W_part, W_noPart, W_sl, W_itL, W_itT, W_itS, W_for, W_forNil, W_while, W_gset, W_gcons, W_gnil, W_par2, W_fzM, W_rf, W_ownA, W_setIx, WF_run, WF_ok, WF_arM, eq_self, setE_mk, List.map_cons, List.map_nil, List.length_cons, List.length_nil, List.replicate, List.cons_append, List.nil_append, List.append_nil, List.set_cons_zero, List.set_cons_succ, List.getElem?_cons_zero, List.getElem?_cons_succ, Nat.reduceAdd, Nat.reduceSub, Nat.sub_zero, if_true, if_false, Bool.false_eq_true, and_self, and_true, true_and, Int.reduceLT, Int.reduceLE, Nat.reduceLeDiff, Nat.reduceLT, decide_true, decide_false, Bool.not_true, Bool.not_false, addV_int, subV_int, negV_int, ltV_int, leV_int, gtV_int, geV_int, eqV_int, neV_int, eqV_str, neV_str, intV_int, intV_bl, lenV_fl, lenV_tup, listV_fl, tupleV_fl, ixS_fl, ixS_tup, enm_fl, tupV, lstV, szL, szl, addV_fl, W_ownIxM, W_appM, W_parVN, W_parNV, W_parNN, W_parVVN, minV_int, maxV_int, scI, W_selfM, WI_run, WI_end, WI_ok, Int.cast_ofNat_Int, Int.reduceBEq, Int.reduceBNe, beq_self_eq_true, Bool.not_eq_true, Bool.and_true, Bool.true_and, W_gtupM, W_opL, W_ownSet, List.length_map, hdn]
  rw [rng1_of (by omega) (by omega)]
  have e1 : ((n : Nat) : Int).toNat = n := by omega
  rw [e1]
  refine ⟨by simp [rngL, szl]; omega, ?_, ?_⟩
  · intro x hx
    obtain ⟨k, _, hk, rfl⟩ := rng_mem (a := 0) hx
    rw [Nat.zero_add] at hk
    obtain ⟨q, hq⟩ : ∃ q, (du b rs)[k]? = some q := ⟨_, List.getElem?_eq_getElem (by omega)⟩
    apply of_W
    simp (config := { failIfUnchanged := false, decide := false }) only [W_bind, W_pure, W_no, W_opt, W_nox, W_op, W_un, W_C, W_varM, W_tst, W_boolM, W_ifB, W_notT, W_andT, W_orT, W_ifE, W_andV, W_orV, W_notV, W_chain, W_nil, W_cons, W_ap, W_apL, W_fl, W_nx, W_brk, W_cnt, W_seq, W_set, W_own, W_ret, W_retN, W_drop, W_if, W_call, W_make, W_fld, W_ix, W_part, W_noPart, W_sl, W_itL, W_itT, W_itS, W_for, W_forNil, W_while, W_gset, W_gcons, W_gnil, W_par2, W_fzM, W_rf, W_ownA, W_setIx, WF_run, WF_ok, WF_arM, eq_self, setE_mk, List.map_cons, List.map_nil, List.length_cons, List.length_nil, List.replicate, List.cons_append, List.nil_append, List.append_nil, List.set_cons_zero, List.set_cons_succ, List.getElem?_cons_zero, List.getElem?_cons_succ, Nat.reduceAdd, Nat.reduceSub, Nat.sub_zero, if_true, if_false, Bool.false_eq_true, and_self, and_true, true_and, Int.reduceLT, Int.reduceLE, Nat.reduceLeDiff, Nat.reduceLT, decide_true, decide_false, Bool.not_true, Bool.not_false, addV_int, subV_int, negV_int, ltV_int, leV_int, gtV_int, geV_int, eqV_int, neV_int, eqV_str, neV_str, intV_int, intV_bl, lenV_fl, lenV_tup, listV_fl, tupleV_fl, ixS_fl, ixS_tup, enm_fl, tupV, lstV, szL, szl, addV_fl, W_ownIxM, W_appM, W_parVN, W_parNV, W_parNN, W_parVVN, minV_int, maxV_int, scI, W_selfM, WI_run, WI_end, WI_ok, Int.cast_ofNat_Int, Int.reduceBEq, Int.reduceBNe, beq_self_eq_true, Bool.not_eq_true, Bool.and_true, Bool.true_and, W_gtupM, W_opL, W_ownSet, rpath_ok Z h (by omega) hl b hbl μ (du_at rs h h2 hl b hq)]
    show pathV q = pathV ((du b rs).getD ((k : Int)).toNat [])
    rw [Int.toNat_natCast]
    simp only [List.getD, hq, Option.getD_some]
  · have hr := rng_all pathV [] (du b rs) 0 n (by omega)
    rw [List.drop_zero] at hr
    have hr : (rngL 0 n).map (atG pathV [] (du b rs)) = (du b rs).map pathV := hr
    rw [hr]
    simp (config := { failIfUnchanged := false, decide := false }) only [W_bind, W_pure, W_no, W_opt, W_nox, W_op, W_un, W_C, W_varM, W_tst, W_boolM, W_ifB, W_notT, W_andT, W_orT, W_ifE, W_andV, W_orV, W_notV, W_chain, W_nil, W_cons, W_ap, W_apL, W_fl, W_nx, W_brk, W_cnt, W_seq, W_set, W_own, W_ret, W_retN, W_drop, W_if, W_call, W_make, W_fld, W_ix, W_part, W_noPart, W_sl, W_itL, W_itT, W_itS, W_for, W_forNil, W_while, W_gset, W_gcons, W_gnil, W_par2, W_fzM, W_rf, W_ownA, W_setIx, WF_run, WF_ok, WF_arM, eq_self, setE_mk, List.map_cons, List.map_nil, List.length_cons, List.length_nil, List.replicate, List.cons_append, List.nil_append, List.append_nil, List.set_cons_zero, List.set_cons_succ, List.getElem?_cons_zero, List.getElem?_cons_succ, Nat.reduceAdd, Nat.reduceSub, Nat.sub_zero, if_true, if_false, Bool.false_eq_true, and_self, and_true, true_and, Int.reduceLT, Int.reduceLE, Nat.reduceLeDiff, Nat.reduceLT, decide_true, decide_false, Bool.not_true, Bool.not_false, addV_int, subV_int, negV_int, ltV_int, leV_int, gtV_int, geV_int, eqV_int, neV_int, eqV_str, neV_str, intV_int, intV_bl, lenV_fl, lenV_tup, listV_fl, tupleV_fl, ixS_fl, ixS_tup, enm_fl, tupV, lstV, szL, szl, addV_fl, W_ownIxM, W_appM, W_parVN, W_parNV, W_parNN, W_parVVN, minV_int, maxV_int, scI, W_selfM, WI_run, WI_end, WI_ok, Int.cast_ofNat_Int, Int.reduceBEq, Int.reduceBNe, beq_self_eq_true, Bool.not_eq_true, Bool.and_true, Bool.true_and, W_gtupM, W_opL, W_ownSet, ne_paths]
    exact hR
theorem k_five (e9 e10 e11 : Slot) (R : Flw → S → Prop) (hR : R .nx ⟨[s0, s1, s2, s3, s4, .val (docV Z rs), .val (.fl ((ev rs).map nodeV)), .val (nI b), .val (.fl ((du b rs).map pathV)), .emp, e10, e11], μ⟩) :
    W (mIf (mTst (mOp neV (mFl (mComp [9] (mItL (mVar 8)) (gSet 9) (tYesM) (mCall (fn_number_at_row Z) (mCons (mVar 5) (mCons (mVar 9) (mNil)))))) (mFl (mLrg (mAp lenV (mCons (mVar 8) (mNil))))))) (mRet (mC (.bl false))) (mNx))
      ⟨[s0, s1, s2, s3, s4, .val (docV Z rs), .val (.fl ((ev rs).map nodeV)), .val (nI b), .val (.fl ((du b rs).map pathV)), e9, e10, e11], μ⟩ R := by
  obtain ⟨n, hdn⟩ : ∃ n, (du b rs).length = n := ⟨_, rfl⟩
  have hnb := du_len rs h h2 hl hb b
  rw [hdn] at hnb
  have comp : mComp [9] (mItL (mVar 8)) (gSet 9) tYesM (mCall (fn_number_at_row Z) (mCons (mVar 5) (mCons (mVar 9) (mNil)))) ⟨[s0, s1, s2, s3, s4, .val (docV Z rs), .val (.fl ((ev rs).map nodeV)), .val (nI b), .val (.fl ((du b rs).map pathV)), e9, e10, e11], μ⟩ = .ok ((List.range n).map nI) ⟨[s0, s1, s2, s3, s4, .val (docV Z rs), .val (.fl ((ev rs).map nodeV)), .val (nI b), .val (.fl ((du b rs).map pathV)), .emp, e10, e11], μ⟩ := by
    have := compL_ix (i := 9) (e := mCall (fn_number_at_row Z) (mCons (mVar 5) (mCons (mVar 9) (mNil)))) (s0 := ⟨[s0, s1, s2, s3, s4, .val (docV Z rs), .val (.fl ((ev rs).map nodeV)), .val (nI b), .val (.fl ((du b rs).map pathV)), .emp, e10, e11], μ⟩) nI ((du b rs).map pathV) [] 0 (by rw [List.length_map, hdn]; unfold szl; simp; omega) (fun k x hk => by
      obtain ⟨q, hq, rfl⟩ := map_at hk
      apply of_W
      show W _ ⟨[s0, s1, s2, s3, s4, .val (docV Z rs), .val (.fl ((ev rs).map nodeV)), .val (nI b), .val (.fl ((du b rs).map pathV)), .val (pathV q), e10, e11], μ⟩ _
      simp (config := { failIfUnchanged := false, decide := false }) only [W_bind, W_pure, W_no, W_opt, W_nox, W_op, W_un, W_C, W_varM, W_tst, W_boolM, W_ifB, W_notT, W_andT, W_orT, W_ifE, W_andV, W_orV, W_notV, W_chain, W_nil, W_cons, W_ap, W_apL, W_fl, W_nx, W_brk, W_cnt, W_seq, W_set, W_own, W_ret, W_retN, W_drop, W_if, W_call, W_make, W_fld, W_ix, W_part, W_noPart, W_sl, W_itL, W_itT, W_itS, W_for, W_forNil, W_while, W_gset, W_gcons, W_gnil, W_par2, W_fzM, W_rf, W_ownA, W_setIx, WF_run, WF_ok, WF_arM, eq_self, setE_mk, List.map_cons, List.map_nil, List.length_cons, List.length_nil, List.replicate, List.cons_append, List.nil_append, List.append_nil, List.set_cons_zero, List.set_cons_succ, List.getElem?_cons_zero, List.getElem?_cons_succ, Nat.reduceAdd, Nat.reduceSub, Nat.sub_zero, if_true, if_false, Bool.false_eq_true, and_self, and_true, true_and, Int.reduceLT, Int.reduceLE, Nat.reduceLeDiff, Nat.reduceLT, decide_true, decide_false, Bool.not_true, Bool.not_false, addV_int, subV_int, negV_int, ltV_int, leV_int, gtV_int, geV_int, eqV_int, neV_int, eqV_str, neV_str, intV_int, intV_bl, lenV_fl, lenV_tup, listV_fl, tupleV_fl, ixS_fl, ixS_tup, enm_fl, tupV, lstV, szL, szl, addV_fl, W_ownIxM, W_appM, W_parVN, W_parNV, W_parNN, W_parVVN, minV_int, maxV_int, scI, W_selfM, WI_run, WI_end, WI_ok, Int.cast_ofNat_Int, Int.reduceBEq, Int.reduceBNe, beq_self_eq_true, Bool.not_eq_true, Bool.and_true, Bool.true_and, W_gtupM, W_opL, W_ownSet, rnum_ok Z h (by omega) hl b hbl μ (du_at rs h h2 hl b hq)]
      rw [Nat.zero_add]) (fun x => rfl)
    rw [List.length_map, hdn] at this
    simp only [Nat.zero_add, List.nil_append] at this
    exact this
  have el : lrng (.int (n : Int)) = some ((List.range n).map nI) := by
    unfold lrng
    dsimp only
    rw [if_pos (by omega)]
    unfold rngL
    rw [Int.toNat_natCast]
    congr 1
    apply List.map_congr_left
    intro i _
    rw [Int.zero_add]
  unfold mLrg
  rw [W_if, W_tst, W_op, W_fl, W_of comp]
  simp (config := { failIfUnchanged := false, decide := false }) only [W_bind, W_pure, W_no, W_opt, W_nox, W_op, W_un, W_C, W_varM, W_tst, W_boolM, W_ifB, W_notT, W_andT, W_orT, W_ifE, W_andV, W_orV, W_notV, W_chain, W_nil, W_cons, W_ap, W_apL, W_fl, W_nx, W_brk, W_cnt, W_seq, W_set, W_own, W_ret, W_retN, W_drop, W_if, W_call, W_make, W_fld, W_ix, W_part, W_noPart, W_sl, W_itL, W_itT, W_itS, W_for, W_forNil, W_while, W_gset, W_gcons, W_gnil, W_par2, W_fzM, W_rf, W_ownA, W_setIx, WF_run, WF_ok, WF_arM, eq_self, setE_mk, List.map_cons, List.map_nil, List.length_cons, List.length_nil, List.replicate, List.cons_append, List.nil_append, List.append_nil, List.set_cons_zero, List.set_cons_succ, List.getElem?_cons_zero, List.getElem?_cons_succ, Nat.reduceAdd, Nat.reduceSub, Nat.sub_zero, if_true, if_false, Bool.false_eq_true, and_self, and_true, true_and, Int.reduceLT, Int.reduceLE, Nat.reduceLeDiff, Nat.reduceLT, decide_true, decide_false, Bool.not_true, Bool.not_false, addV_int, subV_int, negV_int, ltV_int, leV_int, gtV_int, geV_int, eqV_int, neV_int, eqV_str, neV_str, intV_int, intV_bl, lenV_fl, lenV_tup, listV_fl, tupleV_fl, ixS_fl, ixS_tup, enm_fl, tupV, lstV, szL, szl, addV_fl, W_ownIxM, W_appM, W_parVN, W_parNV, W_parNN, W_parVVN, minV_int, maxV_int, scI, W_selfM, WI_run, WI_end, WI_ok, Int.cast_ofNat_Int, Int.reduceBEq, Int.reduceBNe, beq_self_eq_true, Bool.not_eq_true, Bool.and_true, Bool.true_and, W_gtupM, W_opL, W_ownSet, List.length_map, hdn, el, ne_nats]
  exact hR
end
theorem law_true (Z : Ad) (ns : List Int) (hns : ns.length ≤ 63) : ∃ μ, fn_law Z [.fl (ns.map .int)] [] = .ok (.bl true) μ := by
  suffices hs : WF (fn_law Z [.fl (ns.map .int)] []) fun v _ => v = .bl true by
    obtain ⟨v, μ, e, rfl⟩ := hs.run
    exact ⟨μ, e⟩
  unfold fn_law m_law
  have ea : addV (.fl (ns.map .int)) (.fl [.int 0]) = some (.fl ((ns ++ [0]).map .int)) := by
    rw [addV_fl (by simp [szl]; omega), List.map_append]
    rfl
  have es : slV (.fl ((ns ++ [0]).map IV.int)) none (some 5) = some (.fl (cutL ((ns ++ [0]).map IV.int) none (some 5))) := rfl
  simp (config := { failIfUnchanged := false, decide := false }) only [W_bind, W_pure, W_no, W_opt, W_nox, W_op, W_un, W_C, W_varM, W_tst, W_boolM, W_ifB, W_notT, W_andT, W_orT, W_ifE, W_andV, W_orV, W_notV, W_chain, W_nil, W_cons, W_ap, W_apL, W_fl, W_nx, W_brk, W_cnt, W_seq, W_set, W_own, W_ret, W_retN, W_drop, W_if, W_call, W_make, W_fld, W_ix, W_part, W_noPart, W_sl, W_itL, W_itT, W_itS, W_for, W_forNil, W_while, W_gset, W_gcons, W_gnil, W_par2, W_fzM, W_rf, W_ownA, W_setIx, WF_run, WF_ok, WF_arM, eq_self, setE_mk, List.map_cons, List.map_nil, List.length_cons, List.length_nil, List.replicate, List.cons_append, List.nil_append, List.append_nil, List.set_cons_zero, List.set_cons_succ, List.getElem?_cons_zero, List.getElem?_cons_succ, Nat.reduceAdd, Nat.reduceSub, Nat.sub_zero, if_true, if_false, Bool.false_eq_true, and_self, and_true, true_and, Int.reduceLT, Int.reduceLE, Nat.reduceLeDiff, Nat.reduceLT, decide_true, decide_false, Bool.not_true, Bool.not_false, addV_int, subV_int, negV_int, ltV_int, leV_int, gtV_int, geV_int, eqV_int, neV_int, eqV_str, neV_str, intV_int, intV_bl, lenV_fl, lenV_tup, listV_fl, tupleV_fl, ixS_fl, ixS_tup, enm_fl, tupV, lstV, szL, szl, addV_fl, W_ownIxM, W_appM, W_parVN, W_parNV, W_parNN, W_parVVN, minV_int, maxV_int, scI, W_selfM, WI_run, WI_end, WI_ok, Int.cast_ofNat_Int, Int.reduceBEq, Int.reduceBNe, beq_self_eq_true, Bool.not_eq_true, Bool.and_true, Bool.true_and, W_gtupM, W_opL, W_ownSet, ea, es]
  refine W_forI (fun _ s => ∃ (b c d e f g h i j k l : Slot) (μ : List SO), s = ⟨[.val (.fl (ns.map .int)), b, c, d, e, f, g, h, i, j, k, l], μ⟩) _ 0 _ ⟨_, _, _, _, _, _, _, _, _, _, _, _, rfl⟩ ?_ ?_
  · rintro k x s hk ⟨b, c, d, e, f, g, h, i, j, k', l, μ, rfl⟩
    obtain ⟨cell, rfl⟩ := cut_ints x (List.mem_of_getElem? hk)
    obtain ⟨wa, wb, ew⟩ := well_at Z cell μ
    have r3 : rng1 [.int 3] = some (rngL 0 3) := rfl
    simp (config := { failIfUnchanged := false, decide := false }) only [W_bind, W_pure, W_no, W_opt, W_nox, W_op, W_un, W_C, W_varM, W_tst, W_boolM, W_ifB, W_notT, W_andT, W_orT, W_ifE, W_andV, W_orV, W_notV, W_chain, W_nil, W_cons, W_ap, W_apL, W_fl, W_nx, W_brk, W_cnt, W_seq, W_set, W_own, W_ret, W_retN, W_drop, W_if, W_call, W_make, W_fld, W_ix, W_part, W_noPart, W_sl, W_itL, W_itT, W_itS, W_for, W_forNil, W_while, W_gset, W_gcons, W_gnil, W_par2, W_fzM, W_rf, W_ownA, W_setIx, WF_run, WF_ok, WF_arM, eq_self, setE_mk, List.map_cons, List.map_nil, List.length_cons, List.length_nil, List.replicate, List.cons_append, List.nil_append, List.append_nil, List.set_cons_zero, List.set_cons_succ, List.getElem?_cons_zero, List.getElem?_cons_succ, Nat.reduceAdd, Nat.reduceSub, Nat.sub_zero, if_true, if_false, Bool.false_eq_true, and_self, and_true, true_and, Int.reduceLT, Int.reduceLE, Nat.reduceLeDiff, Nat.reduceLT, decide_true, decide_false, Bool.not_true, Bool.not_false, addV_int, subV_int, negV_int, ltV_int, leV_int, gtV_int, geV_int, eqV_int, neV_int, eqV_str, neV_str, intV_int, intV_bl, lenV_fl, lenV_tup, listV_fl, tupleV_fl, ixS_fl, ixS_tup, enm_fl, tupV, lstV, szL, szl, addV_fl, W_ownIxM, W_appM, W_parVN, W_parNV, W_parNN, W_parVVN, minV_int, maxV_int, scI, W_selfM, WI_run, WI_end, WI_ok, Int.cast_ofNat_Int, Int.reduceBEq, Int.reduceBNe, beq_self_eq_true, Bool.not_eq_true, Bool.and_true, Bool.true_and, W_gtupM, W_opL, W_ownSet, ew, r3]
    refine W_forI (fun _ s => ∃ (d e f g h i j k l : Slot) (μ' : List SO), s = ⟨[.val (.fl (ns.map .int)), .val (.int cell), .val (.ref μ.length), d, e, f, g, h, i, j, k, l], μ'⟩ ∧ Well μ' μ.length) _ 0 _ ⟨_, _, _, _, _, _, _, _, _, _, rfl, ⟨wa, wb, 0, by simp⟩⟩ ?_ ?_
    · rintro k x s hk ⟨d, e, f, g, h, i, j, k', l, μ', rfl, hw⟩
      simp (config := { failIfUnchanged := false, decide := false }) only [W_bind, W_pure, W_no, W_opt, W_nox, W_op, W_un, W_C, W_varM, W_tst, W_boolM, W_ifB, W_notT, W_andT, W_orT, W_ifE, W_andV, W_orV, W_notV, W_chain, W_nil, W_cons, W_ap, W_apL, W_fl, W_nx, W_brk, W_cnt, W_seq, W_set, W_own, W_ret, W_retN, W_drop, W_if, W_call, W_make, W_fld, W_ix, W_part, W_noPart, W_sl, W_itL, W_itT, W_itS, W_for, W_forNil, W_while, W_gset, W_gcons, W_gnil, W_par2, W_fzM, W_rf, W_ownA, W_setIx, WF_run, WF_ok, WF_arM, eq_self, setE_mk, List.map_cons, List.map_nil, List.length_cons, List.length_nil, List.replicate, List.cons_append, List.nil_append, List.append_nil, List.set_cons_zero, List.set_cons_succ, List.getElem?_cons_zero, List.getElem?_cons_succ, Nat.reduceAdd, Nat.reduceSub, Nat.sub_zero, if_true, if_false, Bool.false_eq_true, and_self, and_true, true_and, Int.reduceLT, Int.reduceLE, Nat.reduceLeDiff, Nat.reduceLT, decide_true, decide_false, Bool.not_true, Bool.not_false, addV_int, subV_int, negV_int, ltV_int, leV_int, gtV_int, geV_int, eqV_int, neV_int, eqV_str, neV_str, intV_int, intV_bl, lenV_fl, lenV_tup, listV_fl, tupleV_fl, ixS_fl, ixS_tup, enm_fl, tupV, lstV, szL, szl, addV_fl, W_ownIxM, W_appM, W_parVN, W_parNV, W_parNN, W_parVVN, minV_int, maxV_int, scI, W_selfM, WI_run, WI_end, WI_ok, Int.cast_ofNat_Int, Int.reduceBEq, Int.reduceBNe, beq_self_eq_true, Bool.not_eq_true, Bool.and_true, Bool.true_and, W_gtupM, W_opL, W_ownSet]
      refine rows_ok Z μ.length μ' _ hw fun rs μ2 hne hlen hok hb hw2 _ => ?_
      have hl : 0 < rs.length := List.length_pos_iff.mpr hne
      have e1 : ((rs.length : Int) - 1) = ((rs.length - 1 : Nat) : Int) := by omega
      have en : fn__law_nodes Z [rowsV rs, nI (rs.length - 1), .tup []] μ2 = .ok (.fl ((ev rs).map nodeV)) μ2 := nodes_ok Z hok hb (by omega) μ2 24 (rs.length - 1) [] (by omega) (by omega) (by omega) (by simp)
      simp (config := { failIfUnchanged := false, decide := false }) only [W_bind, W_pure, W_no, W_opt, W_nox, W_op, W_un, W_C, W_varM, W_tst, W_boolM, W_ifB, W_notT, W_andT, W_orT, W_ifE, W_andV, W_orV, W_notV, W_chain, W_nil, W_cons, W_ap, W_apL, W_fl, W_nx, W_brk, W_cnt, W_seq, W_set, W_own, W_ret, W_retN, W_drop, W_if, W_call, W_make, W_fld, W_ix, W_part, W_noPart, W_sl, W_itL, W_itT, W_itS, W_for, W_forNil, W_while, W_gset, W_gcons, W_gnil, W_par2, W_fzM, W_rf, W_ownA, W_setIx, WF_run, WF_ok, WF_arM, eq_self, setE_mk, List.map_cons, List.map_nil, List.length_cons, List.length_nil, List.replicate, List.cons_append, List.nil_append, List.append_nil, List.set_cons_zero, List.set_cons_succ, List.getElem?_cons_zero, List.getElem?_cons_succ, Nat.reduceAdd, Nat.reduceSub, Nat.sub_zero, if_true, if_false, Bool.false_eq_true, and_self, and_true, true_and, Int.reduceLT, Int.reduceLE, Nat.reduceLeDiff, Nat.reduceLT, decide_true, decide_false, Bool.not_true, Bool.not_false, addV_int, subV_int, negV_int, ltV_int, leV_int, gtV_int, geV_int, eqV_int, neV_int, eqV_str, neV_str, intV_int, intV_bl, lenV_fl, lenV_tup, listV_fl, tupleV_fl, ixS_fl, ixS_tup, enm_fl, tupV, lstV, szL, szl, addV_fl, W_ownIxM, W_appM, W_parVN, W_parNV, W_parNN, W_parVVN, minV_int, maxV_int, scI, W_selfM, WI_run, WI_end, WI_ok, Int.cast_ofNat_Int, Int.reduceBEq, Int.reduceBNe, beq_self_eq_true, Bool.not_eq_true, Bool.and_true, Bool.true_and, W_gtupM, W_opL, W_ownSet, W_asg, doc_ok Z rs hne (by omega) hok, List.length_map, e1, en]
      rw [rng1_of (by omega) (by omega)]
      refine W_forI (fun _ s => ∃ (h i j k l : Slot), s = ⟨[.val (.fl (ns.map .int)), .val (.int cell), .val (.ref μ.length), .val x, .val (rowsV rs), .val (docV Z rs), .val (.fl ((ev rs).map nodeV)), h, i, j, k, l], μ2⟩) _ 0 _ ⟨_, _, _, _, _, rfl⟩ ?_ ?_
      · rintro b y s hk ⟨h, i, j, k, l, rfl⟩
        have hkb : b < rs.length := by
          have := (List.getElem?_eq_some_iff.mp hk).1
          simpa [rngL] using this
        obtain rfl : y = nI b := by
          unfold rngL at hk
          rw [List.getElem?_map, List.getElem?_range (by omega)] at hk
          have := Option.some.inj hk
          rw [← this]; simp
        rw [W_gset]
        refine W_step (fun R hR => k_due Z rs hok (by omega) hl hb b μ2 _ _ _ _ _ _ _ _ _ R hR) ?_
        refine W_step (fun R hR => k_three Z rs hok (by omega) hl hb b hkb μ2 _ _ _ _ _ _ rfl _ _ _ R hR) ?_
        refine W_step (fun R hR => k_four Z rs hok (by omega) hl hb b hkb μ2 _ _ _ _ _ _ _ _ R hR) ?_
        exact k_five Z rs hok (by omega) hl hb b hkb μ2 _ _ _ _ _ _ _ _ _ ⟨.inl rfl, _, _, _, _, _, rfl⟩
      · rintro s ⟨h, i, j, k, l, rfl⟩
        exact ⟨.inl rfl, _, _, _, _, _, _, _, _, _, _, rfl, hw2⟩
    · rintro s ⟨d, e, f, g, h, i, j, k, l, μ', rfl, hw⟩
      exact ⟨.inl rfl, _, _, _, _, _, _, _, _, _, _, _, _, rfl⟩
  · rintro s ⟨b, c, d, e, f, g, h, i, j, k, l, μ, rfl⟩
    simp (config := { failIfUnchanged := false, decide := false }) only [W_bind, W_pure, W_no, W_opt, W_nox, W_op, W_un, W_C, W_varM, W_tst, W_boolM, W_ifB, W_notT, W_andT, W_orT, W_ifE, W_andV, W_orV, W_notV, W_chain, W_nil, W_cons, W_ap, W_apL, W_fl, W_nx, W_brk, W_cnt, W_seq, W_set, W_own, W_ret, W_retN, W_drop, W_if, W_call, W_make, W_fld, W_ix, W_part, W_noPart, W_sl, W_itL, W_itT, W_itS, W_for, W_forNil, W_while, W_gset, W_gcons, W_gnil, W_par2, W_fzM, W_rf, W_ownA, W_setIx, WF_run, WF_ok, WF_arM, eq_self, setE_mk, List.map_cons, List.map_nil, List.length_cons, List.length_nil, List.replicate, List.cons_append, List.nil_append, List.append_nil, List.set_cons_zero, List.set_cons_succ, List.getElem?_cons_zero, List.getElem?_cons_succ, Nat.reduceAdd, Nat.reduceSub, Nat.sub_zero, if_true, if_false, Bool.false_eq_true, and_self, and_true, true_and, Int.reduceLT, Int.reduceLE, Nat.reduceLeDiff, Nat.reduceLT, decide_true, decide_false, Bool.not_true, Bool.not_false, addV_int, subV_int, negV_int, ltV_int, leV_int, gtV_int, geV_int, eqV_int, neV_int, eqV_str, neV_str, intV_int, intV_bl, lenV_fl, lenV_tup, listV_fl, tupleV_fl, ixS_fl, ixS_tup, enm_fl, tupV, lstV, szL, szl, addV_fl, W_ownIxM, W_appM, W_parVN, W_parNV, W_parNN, W_parVVN, minV_int, maxV_int, scI, W_selfM, WI_run, WI_end, WI_ok, Int.cast_ofNat_Int, Int.reduceBEq, Int.reduceBNe, beq_self_eq_true, Bool.not_eq_true, Bool.and_true, Bool.true_and, W_gtupM, W_opL, W_ownSet]
end Lw
set_option Elab.async false
set_option linter.all false
set_option maxRecDepth 100000
set_option maxHeartbeats 4000000
open PySem L2 Mi PyProof.Rows
namespace Lw
theorem all_mk {l : PySem.W.OpenLaw} {w : World} {K : PySem.W.Frag} {h : Heap} {mg : Str → Option Value} {fa : Addr} (X : K.In h) (G : h.Ns mainGlobals mg) (hfa : mg "law" = some (.ref fa)) {a_Doc a_InvalidBound a_LayoutError a_MOST_SIGNS a_SIZES : Addr} {o_Doc : Obj} {es_MOST_SIGNS : Array DictEntry} {en_MOST_SIGNS : Nat} {es_SIZES : Array DictEntry} {en_SIZES : Nat} {t_MOST_NEST : Tok} {t_MOST_PARTS : Tok} {t_MOST_ROWS : Tok} {f_is_integer f_is_between f_check_between f_check_doc f_check_row f_InvalidBound___init__ f_check_betweenX f_parts_of f_chosen_totals f_chosen_pathX f_only_row f_path_at_rowX f__law_is_refused f__law_below f__law_nodes f__law_draw f__law_pick f__law_row f__law_rows f__law_well f_chosen_ahead f_row_at f_number_at_row f_chosen_path f_path_at_row f_copy_totals f_row_copies f_copied_row f_is_signs f_is_row f_Doc___init__ f_law : Addr} {oc_is_integer kV_is_integer dc_is_integer pm_is_integer cd_is_integer ct_is_integer : Value} {od_is_integer an_is_integer : Option Addr} {sl_is_integer : Array (Option Value)} {oc_is_between kV_is_between dc_is_between pm_is_between cd_is_between ct_is_between : Value} {od_is_between an_is_between : Option Addr} {sl_is_between : Array (Option Value)} {oc_check_between kV_check_between dc_check_between pm_check_between cd_check_between ct_check_between : Value} {od_check_between an_check_between : Option Addr} {sl_check_between : Array (Option Value)} {oc_check_doc kV_check_doc dc_check_doc pm_check_doc cd_check_doc ct_check_doc : Value} {od_check_doc an_check_doc : Option Addr} {sl_check_doc : Array (Option Value)} {oc_check_row kV_check_row dc_check_row pm_check_row cd_check_row ct_check_row : Value} {od_check_row an_check_row : Option Addr} {sl_check_row : Array (Option Value)} {oc_InvalidBound___init__ kV_InvalidBound___init__ dc_InvalidBound___init__ pm_InvalidBound___init__ cd_InvalidBound___init__ ct_InvalidBound___init__ : Value} {od_InvalidBound___init__ an_InvalidBound___init__ : Option Addr} {sl_InvalidBound___init__ : Array (Option Value)} {oc_check_betweenX kV_check_betweenX dc_check_betweenX pm_check_betweenX cd_check_betweenX ct_check_betweenX : Value} {od_check_betweenX an_check_betweenX : Option Addr} {sl_check_betweenX : Array (Option Value)} {oc_parts_of kV_parts_of dc_parts_of pm_parts_of cd_parts_of ct_parts_of : Value} {od_parts_of an_parts_of : Option Addr} {sl_parts_of : Array (Option Value)} {oc_chosen_totals kV_chosen_totals dc_chosen_totals pm_chosen_totals cd_chosen_totals ct_chosen_totals : Value} {od_chosen_totals an_chosen_totals : Option Addr} {sl_chosen_totals : Array (Option Value)} {oc_chosen_pathX kV_chosen_pathX dc_chosen_pathX pm_chosen_pathX cd_chosen_pathX ct_chosen_pathX : Value} {od_chosen_pathX an_chosen_pathX : Option Addr} {sl_chosen_pathX : Array (Option Value)} {oc_only_row kV_only_row dc_only_row pm_only_row cd_only_row ct_only_row : Value} {od_only_row an_only_row : Option Addr} {sl_only_row : Array (Option Value)} {oc_path_at_rowX kV_path_at_rowX dc_path_at_rowX pm_path_at_rowX cd_path_at_rowX ct_path_at_rowX : Value} {od_path_at_rowX an_path_at_rowX : Option Addr} {sl_path_at_rowX : Array (Option Value)} {oc__law_is_refused kV__law_is_refused dc__law_is_refused pm__law_is_refused cd__law_is_refused ct__law_is_refused : Value} {od__law_is_refused an__law_is_refused : Option Addr} {sl__law_is_refused : Array (Option Value)} {oc__law_below kV__law_below dc__law_below pm__law_below cd__law_below ct__law_below : Value} {od__law_below an__law_below : Option Addr} {sl__law_below : Array (Option Value)} {oc__law_nodes kV__law_nodes dc__law_nodes pm__law_nodes cd__law_nodes ct__law_nodes : Value} {od__law_nodes an__law_nodes : Option Addr} {sl__law_nodes : Array (Option Value)} {oc__law_draw kV__law_draw dc__law_draw pm__law_draw cd__law_draw ct__law_draw : Value} {od__law_draw an__law_draw : Option Addr} {sl__law_draw : Array (Option Value)} {oc__law_pick kV__law_pick dc__law_pick pm__law_pick cd__law_pick ct__law_pick : Value} {od__law_pick an__law_pick : Option Addr} {sl__law_pick : Array (Option Value)} {oc__law_row kV__law_row dc__law_row pm__law_row cd__law_row ct__law_row : Value} {od__law_row an__law_row : Option Addr} {sl__law_row : Array (Option Value)} {oc__law_rows kV__law_rows dc__law_rows pm__law_rows cd__law_rows ct__law_rows : Value} {od__law_rows an__law_rows : Option Addr} {sl__law_rows : Array (Option Value)} {oc__law_well kV__law_well dc__law_well pm__law_well cd__law_well ct__law_well : Value} {od__law_well an__law_well : Option Addr} {sl__law_well : Array (Option Value)} {oc_chosen_ahead kV_chosen_ahead dc_chosen_ahead pm_chosen_ahead cd_chosen_ahead ct_chosen_ahead : Value} {od_chosen_ahead an_chosen_ahead : Option Addr} {sl_chosen_ahead : Array (Option Value)} {oc_row_at kV_row_at dc_row_at pm_row_at cd_row_at ct_row_at : Value} {od_row_at an_row_at : Option Addr} {sl_row_at : Array (Option Value)} {oc_number_at_row kV_number_at_row dc_number_at_row pm_number_at_row cd_number_at_row ct_number_at_row : Value} {od_number_at_row an_number_at_row : Option Addr} {sl_number_at_row : Array (Option Value)} {oc_chosen_path kV_chosen_path dc_chosen_path pm_chosen_path cd_chosen_path ct_chosen_path : Value} {od_chosen_path an_chosen_path : Option Addr} {sl_chosen_path : Array (Option Value)} {oc_path_at_row kV_path_at_row dc_path_at_row pm_path_at_row cd_path_at_row ct_path_at_row : Value} {od_path_at_row an_path_at_row : Option Addr} {sl_path_at_row : Array (Option Value)} {oc_copy_totals kV_copy_totals dc_copy_totals pm_copy_totals cd_copy_totals ct_copy_totals : Value} {od_copy_totals an_copy_totals : Option Addr} {sl_copy_totals : Array (Option Value)} {oc_row_copies kV_row_copies dc_row_copies pm_row_copies cd_row_copies ct_row_copies : Value} {od_row_copies an_row_copies : Option Addr} {sl_row_copies : Array (Option Value)} {oc_copied_row kV_copied_row dc_copied_row pm_copied_row cd_copied_row ct_copied_row : Value} {od_copied_row an_copied_row : Option Addr} {sl_copied_row : Array (Option Value)} {oc_is_signs kV_is_signs dc_is_signs pm_is_signs cd_is_signs ct_is_signs : Value} {od_is_signs an_is_signs : Option Addr} {sl_is_signs : Array (Option Value)} {oc_is_row kV_is_row dc_is_row pm_is_row cd_is_row ct_is_row : Value} {od_is_row an_is_row : Option Addr} {sl_is_row : Array (Option Value)} {oc_Doc___init__ kV_Doc___init__ dc_Doc___init__ pm_Doc___init__ cd_Doc___init__ ct_Doc___init__ : Value} {od_Doc___init__ an_Doc___init__ : Option Addr} {sl_Doc___init__ : Array (Option Value)} {oc_law kV_law dc_law pm_law cd_law ct_law : Value} {od_law an_law : Option Addr} {sl_law : Array (Option Value)} 
    (aC_Doc : PySem.W.nsIn K mainGlobals "Doc" = some (some (.ref a_Doc)))
    (lC_Doc : K.lookup a_Doc = some o_Doc)
    (pg_Doc : PySem.W.plainGet K a_Doc Str.empty = true)
    (hd_Doc : PySem.W.hasDictIn K a_Doc = true)
    (po_Doc : PySem.W.plainOver K a_Doc = true)
    (sa_Doc : PySem.W.findIn K (.ref a_Doc) "__setattr__" = some (some (.builtin "object.__setattr__")))
    (aE_InvalidBound : PySem.W.nsIn K mainGlobals "InvalidBound" = some (some (.ref a_InvalidBound)))
    (aE_LayoutError : PySem.W.nsIn K mainGlobals "LayoutError" = some (some (.ref a_LayoutError)))
    (xi_InvalidBound : PySem.W.excInitIn K a_InvalidBound aeT "ArithmeticError.__new__" = true)
    (xo_InvalidBound : PySem.W.excOver K a_InvalidBound aeT = true)
    (xs_InvalidBound : PySem.W.findIn K (.ref a_InvalidBound) "__setattr__" = some (some (.builtin "object.__setattr__")))
    (xd_InvalidBound : PySem.W.hasDictIn K a_InvalidBound = true)
    (xb_InvalidBound : PySem.W.subIn K (.ref a_InvalidBound) (.type "BaseException") = some true)
    (xt_InvalidBound : PySem.W.typeIn K (.ref a_InvalidBound) = some (.type "type"))
    (xk_InvalidBound : PySem.W.keepIn K (.ref a_InvalidBound) = true)
    (xn_InvalidBound : PySem.W.findIn K (.ref a_InvalidBound) "argument" = some none)
    (br_LayoutError : PySem.W.readsIn K a_LayoutError (.type "type") = true)
    (bg_LayoutError : PySem.W.specialIn K (.ref a_LayoutError) "__getattribute__" = some (some (.builtin "type.__getattribute__")))
    (bi_LayoutError : PySem.W.findCls K (.ref a_LayoutError) (.type "type") "__init__" = some (.val (.builtin "ArithmeticError.__init__")))
    (yg_InvalidBound_argument : PySem.W.findIn K (.ref a_InvalidBound) "__getattribute__" = some (some (.builtin "BaseException.__getattribute__")))
    (yh_InvalidBound_argument : PySem.W.findIn K (.ref a_InvalidBound) "__getattr__" = some none)
    (yn_InvalidBound_argument : PySem.W.findIn K (.ref a_InvalidBound) "argument" = some none)
    (ym_InvalidBound_argument : PySem.W.exmOne K (.ref a_InvalidBound) (.ref a_InvalidBound) = some true)
    (nA_Doc_layouts : PySem.W.findIn K (.ref a_Doc) "layouts" = some none)
    (nA_Doc_rows : PySem.W.findIn K (.ref a_Doc) "rows" = some none)
    (kt_Doc_NoneType : PySem.W.kitOne K (.type "NoneType") (.ref a_Doc) = some false)
    (kt_Doc_bool : PySem.W.kitOne K (.type "bool") (.ref a_Doc) = some false)
    (kt_Doc_int : PySem.W.kitOne K (.type "int") (.ref a_Doc) = some false)
    (kt_Doc_str : PySem.W.kitOne K (.type "str") (.ref a_Doc) = some false)
    (kt_Doc_tuple : PySem.W.kitOne K (.type "tuple") (.ref a_Doc) = some false)
    (kt_Doc_list : PySem.W.kitOne K (.type "list") (.ref a_Doc) = some false)
    (cc_Doc : PySem.W.findIn K (.ref a_Doc) "__class__" = some (some (.builtin "object.__class__")))
    (mr_Doc : PySem.W.mroIn K a_Doc (.type "object") = some true)
    (kk_Doc : PySem.W.kitOne K (.ref a_Doc) (.ref a_Doc) = some true)
    (ccg : PySem.W.specialIn K (.builtin "object.__class__") "__get__" = some (some (.builtin "getset_descriptor.__get__")))
    (cct : PySem.W.takesIn K (.builtin "object.__class__") = some true)
    (aT_MOST_SIGNS : PySem.W.nsIn K mainGlobals "MOST_SIGNS" = some (some (.ref a_MOST_SIGNS)))
    (lT_MOST_SIGNS : K.lookup a_MOST_SIGNS = some ⟨.type "dict", none, .dict es_MOST_SIGNS en_MOST_SIGNS, #[]⟩)
    (eT_MOST_SIGNS : TabE w.params tab_MOST_SIGNS es_MOST_SIGNS.toList)
    (zT_MOST_SIGNS : (a_MOST_SIGNS == sysModules) = false)
    (aT_SIZES : PySem.W.nsIn K mainGlobals "SIZES" = some (some (.ref a_SIZES)))
    (lT_SIZES : K.lookup a_SIZES = some ⟨.type "dict", none, .dict es_SIZES en_SIZES, #[]⟩)
    (eT_SIZES : TabE w.params tab_SIZES es_SIZES.toList)
    (zT_SIZES : (a_SIZES == sysModules) = false)
    (z_all : PySem.W.nsIn K mainGlobals "all" = some none)
    (z_bool : PySem.W.nsIn K mainGlobals "bool" = some none)
    (z_enumerate : PySem.W.nsIn K mainGlobals "enumerate" = some none)
    (z_int : PySem.W.nsIn K mainGlobals "int" = some none)
    (z_isinstance : PySem.W.nsIn K mainGlobals "isinstance" = some none)
    (z_len : PySem.W.nsIn K mainGlobals "len" = some none)
    (z_list : PySem.W.nsIn K mainGlobals "list" = some none)
    (z_min : PySem.W.nsIn K mainGlobals "min" = some none)
    (z_range : PySem.W.nsIn K mainGlobals "range" = some none)
    (z_str : PySem.W.nsIn K mainGlobals "str" = some none)
    (z_sum : PySem.W.nsIn K mainGlobals "sum" = some none)
    (z_tuple : PySem.W.nsIn K mainGlobals "tuple" = some none)
    (v_MOST_NEST : PySem.W.nsIn K mainGlobals "MOST_NEST" = some (some (.int 8 t_MOST_NEST)))
    (v_MOST_PARTS : PySem.W.nsIn K mainGlobals "MOST_PARTS" = some (some (.int 8 t_MOST_PARTS)))
    (v_MOST_ROWS : PySem.W.nsIn K mainGlobals "MOST_ROWS" = some (some (.int 200 t_MOST_ROWS)))
    (a_f_is_integer : PySem.W.nsIn K mainGlobals "is_integer" = some (some (.ref f_is_integer)))
    (l_is_integer : K.lookup f_is_integer = some ⟨oc_is_integer, od_is_integer, .func (PySem.W.fnOf "is_integer" "is_integer" (defArgs s_is_integer) (defBody s_is_integer) (defScope s_is_integer) .none kV_is_integer dc_is_integer pm_is_integer an_is_integer cd_is_integer ct_is_integer), sl_is_integer⟩)
    (c_is_integer : PySem.W.codeIn K cd_is_integer "is_integer" = true)
    (k_is_integer : PySem.W.keepIn K (.ref f_is_integer) = true)
    (a_f_is_between : PySem.W.nsIn K mainGlobals "is_between" = some (some (.ref f_is_between)))
    (l_is_between : K.lookup f_is_between = some ⟨oc_is_between, od_is_between, .func (PySem.W.fnOf "is_between" "is_between" (defArgs s_is_between) (defBody s_is_between) (defScope s_is_between) .none kV_is_between dc_is_between pm_is_between an_is_between cd_is_between ct_is_between), sl_is_between⟩)
    (c_is_between : PySem.W.codeIn K cd_is_between "is_between" = true)
    (k_is_between : PySem.W.keepIn K (.ref f_is_between) = true)
    (a_f_check_between : PySem.W.nsIn K mainGlobals "check_between" = some (some (.ref f_check_between)))
    (l_check_between : K.lookup f_check_between = some ⟨oc_check_between, od_check_between, .func (PySem.W.fnOf "check_between" "check_between" (defArgs s_check_between) (defBody s_check_between) (defScope s_check_between) .none kV_check_between dc_check_between pm_check_between an_check_between cd_check_between ct_check_between), sl_check_between⟩)
    (c_check_between : PySem.W.codeIn K cd_check_between "check_between" = true)
    (k_check_between : PySem.W.keepIn K (.ref f_check_between) = true)
    (a_f_check_doc : PySem.W.nsIn K mainGlobals "check_doc" = some (some (.ref f_check_doc)))
    (l_check_doc : K.lookup f_check_doc = some ⟨oc_check_doc, od_check_doc, .func (PySem.W.fnOf "check_doc" "check_doc" (defArgs s_check_doc) (defBody s_check_doc) (defScope s_check_doc) .none kV_check_doc dc_check_doc pm_check_doc an_check_doc cd_check_doc ct_check_doc), sl_check_doc⟩)
    (c_check_doc : PySem.W.codeIn K cd_check_doc "check_doc" = true)
    (k_check_doc : PySem.W.keepIn K (.ref f_check_doc) = true)
    (a_f_check_row : PySem.W.nsIn K mainGlobals "check_row" = some (some (.ref f_check_row)))
    (l_check_row : K.lookup f_check_row = some ⟨oc_check_row, od_check_row, .func (PySem.W.fnOf "check_row" "check_row" (defArgs s_check_row) (defBody s_check_row) (defScope s_check_row) .none kV_check_row dc_check_row pm_check_row an_check_row cd_check_row ct_check_row), sl_check_row⟩)
    (c_check_row : PySem.W.codeIn K cd_check_row "check_row" = true)
    (k_check_row : PySem.W.keepIn K (.ref f_check_row) = true)
    (a_f_InvalidBound___init__ : PySem.W.findIn K (.ref a_InvalidBound) "__init__" = some (some (.ref f_InvalidBound___init__)))
    (xy_InvalidBound : PySem.W.typeIn K (.ref f_InvalidBound___init__) = some (.type "function"))
    (l_InvalidBound___init__ : K.lookup f_InvalidBound___init__ = some ⟨oc_InvalidBound___init__, od_InvalidBound___init__, .func (PySem.W.fnOf "__init__" "InvalidBound.__init__" (defArgs s_InvalidBound___init__) (defBody s_InvalidBound___init__) (defScope s_InvalidBound___init__) .none kV_InvalidBound___init__ dc_InvalidBound___init__ pm_InvalidBound___init__ an_InvalidBound___init__ cd_InvalidBound___init__ ct_InvalidBound___init__), sl_InvalidBound___init__⟩)
    (c_InvalidBound___init__ : PySem.W.codeIn K cd_InvalidBound___init__ "InvalidBound.__init__" = true)
    (k_InvalidBound___init__ : PySem.W.keepIn K (.ref f_InvalidBound___init__) = true)
    (a_f_check_betweenX : PySem.W.nsIn K mainGlobals "check_between" = some (some (.ref f_check_betweenX)))
    (l_check_betweenX : K.lookup f_check_betweenX = some ⟨oc_check_betweenX, od_check_betweenX, .func (PySem.W.fnOf "check_between" "check_between" (defArgs s_check_betweenX) (defBody s_check_betweenX) (defScope s_check_betweenX) .none kV_check_betweenX dc_check_betweenX pm_check_betweenX an_check_betweenX cd_check_betweenX ct_check_betweenX), sl_check_betweenX⟩)
    (c_check_betweenX : PySem.W.codeIn K cd_check_betweenX "check_between" = true)
    (k_check_betweenX : PySem.W.keepIn K (.ref f_check_betweenX) = true)
    (a_f_parts_of : PySem.W.nsIn K mainGlobals "parts_of" = some (some (.ref f_parts_of)))
    (l_parts_of : K.lookup f_parts_of = some ⟨oc_parts_of, od_parts_of, .func (PySem.W.fnOf "parts_of" "parts_of" (defArgs s_parts_of) (defBody s_parts_of) (defScope s_parts_of) .none kV_parts_of dc_parts_of pm_parts_of an_parts_of cd_parts_of ct_parts_of), sl_parts_of⟩)
    (c_parts_of : PySem.W.codeIn K cd_parts_of "parts_of" = true)
    (k_parts_of : PySem.W.keepIn K (.ref f_parts_of) = true)
    (a_f_chosen_totals : PySem.W.nsIn K mainGlobals "chosen_totals" = some (some (.ref f_chosen_totals)))
    (l_chosen_totals : K.lookup f_chosen_totals = some ⟨oc_chosen_totals, od_chosen_totals, .func (PySem.W.fnOf "chosen_totals" "chosen_totals" (defArgs s_chosen_totals) (defBody s_chosen_totals) (defScope s_chosen_totals) .none kV_chosen_totals dc_chosen_totals pm_chosen_totals an_chosen_totals cd_chosen_totals ct_chosen_totals), sl_chosen_totals⟩)
    (c_chosen_totals : PySem.W.codeIn K cd_chosen_totals "chosen_totals" = true)
    (k_chosen_totals : PySem.W.keepIn K (.ref f_chosen_totals) = true)
    (a_f_chosen_pathX : PySem.W.nsIn K mainGlobals "chosen_path" = some (some (.ref f_chosen_pathX)))
    (l_chosen_pathX : K.lookup f_chosen_pathX = some ⟨oc_chosen_pathX, od_chosen_pathX, .func (PySem.W.fnOf "chosen_path" "chosen_path" (defArgs s_chosen_pathX) (defBody s_chosen_pathX) (defScope s_chosen_pathX) .none kV_chosen_pathX dc_chosen_pathX pm_chosen_pathX an_chosen_pathX cd_chosen_pathX ct_chosen_pathX), sl_chosen_pathX⟩)
    (c_chosen_pathX : PySem.W.codeIn K cd_chosen_pathX "chosen_path" = true)
    (k_chosen_pathX : PySem.W.keepIn K (.ref f_chosen_pathX) = true)
    (a_f_only_row : PySem.W.nsIn K mainGlobals "only_row" = some (some (.ref f_only_row)))
    (l_only_row : K.lookup f_only_row = some ⟨oc_only_row, od_only_row, .func (PySem.W.fnOf "only_row" "only_row" (defArgs s_only_row) (defBody s_only_row) (defScope s_only_row) .none kV_only_row dc_only_row pm_only_row an_only_row cd_only_row ct_only_row), sl_only_row⟩)
    (c_only_row : PySem.W.codeIn K cd_only_row "only_row" = true)
    (k_only_row : PySem.W.keepIn K (.ref f_only_row) = true)
    (a_f_path_at_rowX : PySem.W.nsIn K mainGlobals "path_at_row" = some (some (.ref f_path_at_rowX)))
    (l_path_at_rowX : K.lookup f_path_at_rowX = some ⟨oc_path_at_rowX, od_path_at_rowX, .func (PySem.W.fnOf "path_at_row" "path_at_row" (defArgs s_path_at_rowX) (defBody s_path_at_rowX) (defScope s_path_at_rowX) .none kV_path_at_rowX dc_path_at_rowX pm_path_at_rowX an_path_at_rowX cd_path_at_rowX ct_path_at_rowX), sl_path_at_rowX⟩)
    (c_path_at_rowX : PySem.W.codeIn K cd_path_at_rowX "path_at_row" = true)
    (k_path_at_rowX : PySem.W.keepIn K (.ref f_path_at_rowX) = true)
    (a_f__law_is_refused : PySem.W.nsIn K mainGlobals "_law_is_refused" = some (some (.ref f__law_is_refused)))
    (l__law_is_refused : K.lookup f__law_is_refused = some ⟨oc__law_is_refused, od__law_is_refused, .func (PySem.W.fnOf "_law_is_refused" "_law_is_refused" (defArgs s__law_is_refused) (defBody s__law_is_refused) (defScope s__law_is_refused) .none kV__law_is_refused dc__law_is_refused pm__law_is_refused an__law_is_refused cd__law_is_refused ct__law_is_refused), sl__law_is_refused⟩)
    (c__law_is_refused : PySem.W.codeIn K cd__law_is_refused "_law_is_refused" = true)
    (k__law_is_refused : PySem.W.keepIn K (.ref f__law_is_refused) = true)
    (a_f__law_below : PySem.W.nsIn K mainGlobals "_law_below" = some (some (.ref f__law_below)))
    (l__law_below : K.lookup f__law_below = some ⟨oc__law_below, od__law_below, .func (PySem.W.fnOf "_law_below" "_law_below" (defArgs s__law_below) (defBody s__law_below) (defScope s__law_below) .none kV__law_below dc__law_below pm__law_below an__law_below cd__law_below ct__law_below), sl__law_below⟩)
    (c__law_below : PySem.W.codeIn K cd__law_below "_law_below" = true)
    (k__law_below : PySem.W.keepIn K (.ref f__law_below) = true)
    (a_f__law_nodes : PySem.W.nsIn K mainGlobals "_law_nodes" = some (some (.ref f__law_nodes)))
    (l__law_nodes : K.lookup f__law_nodes = some ⟨oc__law_nodes, od__law_nodes, .func (PySem.W.fnOf "_law_nodes" "_law_nodes" (defArgs s__law_nodes) (defBody s__law_nodes) (defScope s__law_nodes) .none kV__law_nodes dc__law_nodes pm__law_nodes an__law_nodes cd__law_nodes ct__law_nodes), sl__law_nodes⟩)
    (c__law_nodes : PySem.W.codeIn K cd__law_nodes "_law_nodes" = true)
    (k__law_nodes : PySem.W.keepIn K (.ref f__law_nodes) = true)
    (a_f__law_draw : PySem.W.nsIn K mainGlobals "_law_draw" = some (some (.ref f__law_draw)))
    (l__law_draw : K.lookup f__law_draw = some ⟨oc__law_draw, od__law_draw, .func (PySem.W.fnOf "_law_draw" "_law_draw" (defArgs s__law_draw) (defBody s__law_draw) (defScope s__law_draw) .none kV__law_draw dc__law_draw pm__law_draw an__law_draw cd__law_draw ct__law_draw), sl__law_draw⟩)
    (c__law_draw : PySem.W.codeIn K cd__law_draw "_law_draw" = true)
    (k__law_draw : PySem.W.keepIn K (.ref f__law_draw) = true)
    (a_f__law_pick : PySem.W.nsIn K mainGlobals "_law_pick" = some (some (.ref f__law_pick)))
    (l__law_pick : K.lookup f__law_pick = some ⟨oc__law_pick, od__law_pick, .func (PySem.W.fnOf "_law_pick" "_law_pick" (defArgs s__law_pick) (defBody s__law_pick) (defScope s__law_pick) .none kV__law_pick dc__law_pick pm__law_pick an__law_pick cd__law_pick ct__law_pick), sl__law_pick⟩)
    (c__law_pick : PySem.W.codeIn K cd__law_pick "_law_pick" = true)
    (k__law_pick : PySem.W.keepIn K (.ref f__law_pick) = true)
    (a_f__law_row : PySem.W.nsIn K mainGlobals "_law_row" = some (some (.ref f__law_row)))
    (l__law_row : K.lookup f__law_row = some ⟨oc__law_row, od__law_row, .func (PySem.W.fnOf "_law_row" "_law_row" (defArgs s__law_row) (defBody s__law_row) (defScope s__law_row) .none kV__law_row dc__law_row pm__law_row an__law_row cd__law_row ct__law_row), sl__law_row⟩)
    (c__law_row : PySem.W.codeIn K cd__law_row "_law_row" = true)
    (k__law_row : PySem.W.keepIn K (.ref f__law_row) = true)
    (a_f__law_rows : PySem.W.nsIn K mainGlobals "_law_rows" = some (some (.ref f__law_rows)))
    (l__law_rows : K.lookup f__law_rows = some ⟨oc__law_rows, od__law_rows, .func (PySem.W.fnOf "_law_rows" "_law_rows" (defArgs s__law_rows) (defBody s__law_rows) (defScope s__law_rows) .none kV__law_rows dc__law_rows pm__law_rows an__law_rows cd__law_rows ct__law_rows), sl__law_rows⟩)
    (c__law_rows : PySem.W.codeIn K cd__law_rows "_law_rows" = true)
    (k__law_rows : PySem.W.keepIn K (.ref f__law_rows) = true)
    (a_f__law_well : PySem.W.nsIn K mainGlobals "_law_well" = some (some (.ref f__law_well)))
    (l__law_well : K.lookup f__law_well = some ⟨oc__law_well, od__law_well, .func (PySem.W.fnOf "_law_well" "_law_well" (defArgs s__law_well) (defBody s__law_well) (defScope s__law_well) .none kV__law_well dc__law_well pm__law_well an__law_well cd__law_well ct__law_well), sl__law_well⟩)
    (c__law_well : PySem.W.codeIn K cd__law_well "_law_well" = true)
    (k__law_well : PySem.W.keepIn K (.ref f__law_well) = true)
    (a_f_chosen_ahead : PySem.W.nsIn K mainGlobals "chosen_ahead" = some (some (.ref f_chosen_ahead)))
    (l_chosen_ahead : K.lookup f_chosen_ahead = some ⟨oc_chosen_ahead, od_chosen_ahead, .func (PySem.W.fnOf "chosen_ahead" "chosen_ahead" (defArgs s_chosen_ahead) (defBody s_chosen_ahead) (defScope s_chosen_ahead) .none kV_chosen_ahead dc_chosen_ahead pm_chosen_ahead an_chosen_ahead cd_chosen_ahead ct_chosen_ahead), sl_chosen_ahead⟩)
    (c_chosen_ahead : PySem.W.codeIn K cd_chosen_ahead "chosen_ahead" = true)
    (k_chosen_ahead : PySem.W.keepIn K (.ref f_chosen_ahead) = true)
    (a_f_row_at : PySem.W.nsIn K mainGlobals "row_at" = some (some (.ref f_row_at)))
    (l_row_at : K.lookup f_row_at = some ⟨oc_row_at, od_row_at, .func (PySem.W.fnOf "row_at" "row_at" (defArgs s_row_at) (defBody s_row_at) (defScope s_row_at) .none kV_row_at dc_row_at pm_row_at an_row_at cd_row_at ct_row_at), sl_row_at⟩)
    (c_row_at : PySem.W.codeIn K cd_row_at "row_at" = true)
    (k_row_at : PySem.W.keepIn K (.ref f_row_at) = true)
    (a_f_number_at_row : PySem.W.nsIn K mainGlobals "number_at_row" = some (some (.ref f_number_at_row)))
    (l_number_at_row : K.lookup f_number_at_row = some ⟨oc_number_at_row, od_number_at_row, .func (PySem.W.fnOf "number_at_row" "number_at_row" (defArgs s_number_at_row) (defBody s_number_at_row) (defScope s_number_at_row) .none kV_number_at_row dc_number_at_row pm_number_at_row an_number_at_row cd_number_at_row ct_number_at_row), sl_number_at_row⟩)
    (c_number_at_row : PySem.W.codeIn K cd_number_at_row "number_at_row" = true)
    (k_number_at_row : PySem.W.keepIn K (.ref f_number_at_row) = true)
    (a_f_chosen_path : PySem.W.nsIn K mainGlobals "chosen_path" = some (some (.ref f_chosen_path)))
    (l_chosen_path : K.lookup f_chosen_path = some ⟨oc_chosen_path, od_chosen_path, .func (PySem.W.fnOf "chosen_path" "chosen_path" (defArgs s_chosen_path) (defBody s_chosen_path) (defScope s_chosen_path) .none kV_chosen_path dc_chosen_path pm_chosen_path an_chosen_path cd_chosen_path ct_chosen_path), sl_chosen_path⟩)
    (c_chosen_path : PySem.W.codeIn K cd_chosen_path "chosen_path" = true)
    (k_chosen_path : PySem.W.keepIn K (.ref f_chosen_path) = true)
    (a_f_path_at_row : PySem.W.nsIn K mainGlobals "path_at_row" = some (some (.ref f_path_at_row)))
    (l_path_at_row : K.lookup f_path_at_row = some ⟨oc_path_at_row, od_path_at_row, .func (PySem.W.fnOf "path_at_row" "path_at_row" (defArgs s_path_at_row) (defBody s_path_at_row) (defScope s_path_at_row) .none kV_path_at_row dc_path_at_row pm_path_at_row an_path_at_row cd_path_at_row ct_path_at_row), sl_path_at_row⟩)
    (c_path_at_row : PySem.W.codeIn K cd_path_at_row "path_at_row" = true)
    (k_path_at_row : PySem.W.keepIn K (.ref f_path_at_row) = true)
    (a_f_copy_totals : PySem.W.nsIn K mainGlobals "copy_totals" = some (some (.ref f_copy_totals)))
    (l_copy_totals : K.lookup f_copy_totals = some ⟨oc_copy_totals, od_copy_totals, .func (PySem.W.fnOf "copy_totals" "copy_totals" (defArgs s_copy_totals) (defBody s_copy_totals) (defScope s_copy_totals) .none kV_copy_totals dc_copy_totals pm_copy_totals an_copy_totals cd_copy_totals ct_copy_totals), sl_copy_totals⟩)
    (c_copy_totals : PySem.W.codeIn K cd_copy_totals "copy_totals" = true)
    (k_copy_totals : PySem.W.keepIn K (.ref f_copy_totals) = true)
    (a_f_row_copies : PySem.W.nsIn K mainGlobals "row_copies" = some (some (.ref f_row_copies)))
    (l_row_copies : K.lookup f_row_copies = some ⟨oc_row_copies, od_row_copies, .func (PySem.W.fnOf "row_copies" "row_copies" (defArgs s_row_copies) (defBody s_row_copies) (defScope s_row_copies) .none kV_row_copies dc_row_copies pm_row_copies an_row_copies cd_row_copies ct_row_copies), sl_row_copies⟩)
    (c_row_copies : PySem.W.codeIn K cd_row_copies "row_copies" = true)
    (k_row_copies : PySem.W.keepIn K (.ref f_row_copies) = true)
    (a_f_copied_row : PySem.W.nsIn K mainGlobals "copied_row" = some (some (.ref f_copied_row)))
    (l_copied_row : K.lookup f_copied_row = some ⟨oc_copied_row, od_copied_row, .func (PySem.W.fnOf "copied_row" "copied_row" (defArgs s_copied_row) (defBody s_copied_row) (defScope s_copied_row) .none kV_copied_row dc_copied_row pm_copied_row an_copied_row cd_copied_row ct_copied_row), sl_copied_row⟩)
    (c_copied_row : PySem.W.codeIn K cd_copied_row "copied_row" = true)
    (k_copied_row : PySem.W.keepIn K (.ref f_copied_row) = true)
    (a_f_is_signs : PySem.W.nsIn K mainGlobals "is_signs" = some (some (.ref f_is_signs)))
    (l_is_signs : K.lookup f_is_signs = some ⟨oc_is_signs, od_is_signs, .func (PySem.W.fnOf "is_signs" "is_signs" (defArgs s_is_signs) (defBody s_is_signs) (defScope s_is_signs) .none kV_is_signs dc_is_signs pm_is_signs an_is_signs cd_is_signs ct_is_signs), sl_is_signs⟩)
    (c_is_signs : PySem.W.codeIn K cd_is_signs "is_signs" = true)
    (k_is_signs : PySem.W.keepIn K (.ref f_is_signs) = true)
    (a_f_is_row : PySem.W.nsIn K mainGlobals "is_row" = some (some (.ref f_is_row)))
    (l_is_row : K.lookup f_is_row = some ⟨oc_is_row, od_is_row, .func (PySem.W.fnOf "is_row" "is_row" (defArgs s_is_row) (defBody s_is_row) (defScope s_is_row) .none kV_is_row dc_is_row pm_is_row an_is_row cd_is_row ct_is_row), sl_is_row⟩)
    (c_is_row : PySem.W.codeIn K cd_is_row "is_row" = true)
    (k_is_row : PySem.W.keepIn K (.ref f_is_row) = true)
    (a_f_Doc___init__ : PySem.W.findIn K (.ref a_Doc) "__init__" = some (some (.ref f_Doc___init__)))
    (i_Doc___init__ : PySem.W.isFn K (.ref f_Doc___init__) = true)
    (mk_Doc___init__ : PySem.W.makesIn K a_Doc = true)
    (kc_Doc___init__ : PySem.W.keepIn K (.ref a_Doc) = true)
    (l_Doc___init__ : K.lookup f_Doc___init__ = some ⟨oc_Doc___init__, od_Doc___init__, .func (PySem.W.fnOf "__init__" "Doc.__init__" (defArgs s_Doc___init__) (defBody s_Doc___init__) (defScope s_Doc___init__) .none kV_Doc___init__ dc_Doc___init__ pm_Doc___init__ an_Doc___init__ cd_Doc___init__ ct_Doc___init__), sl_Doc___init__⟩)
    (c_Doc___init__ : PySem.W.codeIn K cd_Doc___init__ "Doc.__init__" = true)
    (k_Doc___init__ : PySem.W.keepIn K (.ref f_Doc___init__) = true)
    (a_f_law : PySem.W.nsIn K mainGlobals "law" = some (some (.ref f_law)))
    (l_law : K.lookup f_law = some ⟨oc_law, od_law, .func (PySem.W.fnOf "law" "law" (defArgs s_law) (defBody s_law) (defScope s_law) .none kV_law dc_law pm_law an_law cd_law ct_law), sl_law⟩)
    (c_law : PySem.W.codeIn K cd_law "law" = true)
    (k_law : PySem.W.keepIn K (.ref f_law) = true)
    (lt : ∀ (Z : Ad) (ns : List Int), ns.length ≤ 63 → ∃ μ, fn_law Z [.fl (ns.map .int)] [] = .ok (.bl true) μ) :
    ∃ fd : FuncData, (∀ (s : Shared) (v : Value), BindsTo s fd ⟨[v], []⟩ [("_law_script", v)]) ∧ ∀ base : Heap, K.In base → base.Ns mainGlobals mg → FnOk l.prog w K mg base CX0 27 fa fd ["_law_script"] (spLaw K) := by
  have e := hfa.symm.trans (PySem.W.mg_of X G a_f_law)
  cases e
  have T : Txt K w mg ⟨a_Doc, a_InvalidBound, a_LayoutError, a_MOST_SIGNS, a_SIZES⟩ := { n_all := PySem.W.mg_none_of X G z_all, n_bool := PySem.W.mg_none_of X G z_bool, n_enumerate := PySem.W.mg_none_of X G z_enumerate, n_int := PySem.W.mg_none_of X G z_int, n_isinstance := PySem.W.mg_none_of X G z_isinstance, n_len := PySem.W.mg_none_of X G z_len, n_list := PySem.W.mg_none_of X G z_list, n_min := PySem.W.mg_none_of X G z_min, n_range := PySem.W.mg_none_of X G z_range, n_str := PySem.W.mg_none_of X G z_str, n_sum := PySem.W.mg_none_of X G z_sum, n_tuple := PySem.W.mg_none_of X G z_tuple, c_MOST_NEST := ⟨_, PySem.W.mg_of X G v_MOST_NEST⟩, c_MOST_PARTS := ⟨_, PySem.W.mg_of X G v_MOST_PARTS⟩, c_MOST_ROWS := ⟨_, PySem.W.mg_of X G v_MOST_ROWS⟩, g_Doc := PySem.W.mg_of X G aC_Doc, o_Doc := ⟨_, lC_Doc⟩, cl_Doc := ⟨pg_Doc, hd_Doc, po_Doc, sa_Doc⟩, na_Doc_layouts := nA_Doc_layouts, na_Doc_rows := nA_Doc_rows, is_Doc := ⟨fun T hT => by simp only [List.mem_cons, List.not_mem_nil, or_false] at hT; rcases hT with h | h | h | h | h | h <;> subst h <;> assumption, fun c hc => by simp only [List.mem_cons, List.not_mem_nil, or_false] at hc; subst hc; exact ⟨⟨pg_Doc, hd_Doc, po_Doc, sa_Doc⟩, cc_Doc, mr_Doc, by rw [kk_Doc]; simp⟩, ccg, cct⟩, g_InvalidBound := PySem.W.mg_of X G aE_InvalidBound, x_InvalidBound := ⟨xi_InvalidBound, xo_InvalidBound, xs_InvalidBound, xd_InvalidBound, xb_InvalidBound, xt_InvalidBound, xk_InvalidBound⟩, g_LayoutError := PySem.W.mg_of X G aE_LayoutError, b_LayoutError := ⟨br_LayoutError, bg_LayoutError, bi_LayoutError⟩, k_InvalidBound_argument := ⟨⟨yg_InvalidBound_argument, yh_InvalidBound_argument, xb_InvalidBound, xd_InvalidBound⟩, yn_InvalidBound_argument, ym_InvalidBound_argument⟩, g_MOST_SIGNS := PySem.W.mg_of X G aT_MOST_SIGNS, t_MOST_SIGNS := ktab_of lT_MOST_SIGNS eT_MOST_SIGNS zT_MOST_SIGNS, g_SIZES := PySem.W.mg_of X G aT_SIZES, t_SIZES := ktab_of lT_SIZES eT_SIZES zT_SIZES }
  have ox_InvalidBound : OxC K a_InvalidBound := ⟨xi_InvalidBound, xo_InvalidBound, xs_InvalidBound, xd_InvalidBound, xb_InvalidBound, xt_InvalidBound, xk_InvalidBound⟩
  have F_is_integer := fun_mk (st := s_is_integer) l_is_integer c_is_integer k_is_integer
  have b_is_integer := F_is_integer.binds (ps := ["value"]) fun _ _ _ _ _ _ us hl => match us, hl with | [_], _ => rfl
  have F_is_between := fun_mk (st := s_is_between) l_is_between c_is_between k_is_between
  have b_is_between := F_is_between.binds (ps := ["value", "low", "high"]) fun _ _ _ _ _ _ us hl => match us, hl with | [_, _, _], _ => rfl
  have F_check_between := fun_mk (st := s_check_between) l_check_between c_check_between k_check_between
  have b_check_between := F_check_between.binds (ps := ["argument", "value", "low", "high"]) fun _ _ _ _ _ _ us hl => match us, hl with | [_, _, _, _], _ => rfl
  have F_check_doc := fun_mk (st := s_check_doc) l_check_doc c_check_doc k_check_doc
  have b_check_doc := F_check_doc.binds (ps := ["doc"]) fun _ _ _ _ _ _ us hl => match us, hl with | [_], _ => rfl
  have F_check_row := fun_mk (st := s_check_row) l_check_row c_check_row k_check_row
  have b_check_row := F_check_row.binds (ps := ["doc", "at"]) fun _ _ _ _ _ _ us hl => match us, hl with | [_, _], _ => rfl
  have F_InvalidBound___init__ := fun_mk (st := s_InvalidBound___init__) l_InvalidBound___init__ c_InvalidBound___init__ k_InvalidBound___init__
  have b_InvalidBound___init__ := F_InvalidBound___init__.binds (ps := ["self", "argument"]) fun _ _ _ _ _ _ us hl => match us, hl with | [_, _], _ => rfl
  have F_check_betweenX := fun_mk (st := s_check_betweenX) l_check_betweenX c_check_betweenX k_check_betweenX
  have b_check_betweenX := F_check_betweenX.binds (ps := ["argument", "value", "low", "high"]) fun _ _ _ _ _ _ us hl => match us, hl with | [_, _, _, _], _ => rfl
  have F_parts_of := fun_mk (st := s_parts_of) l_parts_of c_parts_of k_parts_of
  have b_parts_of := F_parts_of.binds (ps := ["row"]) fun _ _ _ _ _ _ us hl => match us, hl with | [_], _ => rfl
  have F_chosen_totals := fun_mk (st := s_chosen_totals) l_chosen_totals c_chosen_totals k_chosen_totals
  have b_chosen_totals := F_chosen_totals.binds (ps := ["rows", "chosen"]) fun _ _ _ _ _ _ us hl => match us, hl with | [_, _], _ => rfl
  have F_chosen_pathX := fun_mk (st := s_chosen_pathX) l_chosen_pathX c_chosen_pathX k_chosen_pathX
  have b_chosen_pathX := F_chosen_pathX.binds (ps := ["rows", "chosen", "k"]) fun _ _ _ _ _ _ us hl => match us, hl with | [_, _, _], _ => rfl
  have F_only_row := fun_mk (st := s_only_row) l_only_row c_only_row k_only_row
  have b_only_row := F_only_row.binds (ps := ["doc", "at"]) fun _ _ _ _ _ _ us hl => match us, hl with | [_, _], _ => rfl
  have F_path_at_rowX := fun_mk (st := s_path_at_rowX) l_path_at_rowX c_path_at_rowX k_path_at_rowX
  have b_path_at_rowX := F_path_at_rowX.binds (ps := ["doc", "at", "k"]) fun _ _ _ _ _ _ us hl => match us, hl with | [_, _, _], _ => rfl
  have F__law_is_refused := fun_mk (st := s__law_is_refused) l__law_is_refused c__law_is_refused k__law_is_refused
  have b__law_is_refused := F__law_is_refused.binds (ps := ["_law_doc", "_law_at", "_law_k"]) fun _ _ _ _ _ _ us hl => match us, hl with | [_, _, _], _ => rfl
  have F__law_below := fun_mk (st := s__law_below) l__law_below c__law_below k__law_below
  have b__law_below := F__law_below.binds (ps := ["_law_row_here"]) fun _ _ _ _ _ _ us hl => match us, hl with | [_], _ => rfl
  have F__law_nodes := fun_mk (st := s__law_nodes) l__law_nodes c__law_nodes k__law_nodes
  have b__law_nodes := F__law_nodes.binds (ps := ["_law_rows_here", "_law_at", "_law_path"]) fun _ _ _ _ _ _ us hl => match us, hl with | [_, _, _], _ => rfl
  have F__law_draw := fun_mk (st := s__law_draw) l__law_draw c__law_draw k__law_draw
  have b__law_draw := F__law_draw.binds (ps := ["_law_well_here", "_law_most"]) fun _ _ _ _ _ _ us hl => match us, hl with | [_, _], _ => rfl
  have F__law_pick := fun_mk (st := s__law_pick) l__law_pick c__law_pick k__law_pick
  have b__law_pick := F__law_pick.binds (ps := ["_law_well_here", "_law_some"]) fun _ _ _ _ _ _ us hl => match us, hl with | [_, _], _ => rfl
  have F__law_row := fun_mk (st := s__law_row) l__law_row c__law_row k__law_row
  have b__law_row := F__law_row.binds (ps := ["_law_well_here", "_law_k"]) fun _ _ _ _ _ _ us hl => match us, hl with | [_, _], _ => rfl
  have F__law_rows := fun_mk (st := s__law_rows) l__law_rows c__law_rows k__law_rows
  have b__law_rows := F__law_rows.binds (ps := ["_law_well_here"]) fun _ _ _ _ _ _ us hl => match us, hl with | [_], _ => rfl
  have F__law_well := fun_mk (st := s__law_well) l__law_well c__law_well k__law_well
  have b__law_well := F__law_well.binds (ps := ["_law_cell"]) fun _ _ _ _ _ _ us hl => match us, hl with | [_], _ => rfl
  have F_chosen_ahead := fun_mk (st := s_chosen_ahead) l_chosen_ahead c_chosen_ahead k_chosen_ahead
  have b_chosen_ahead := F_chosen_ahead.binds (ps := ["rows", "chosen", "path"]) fun _ _ _ _ _ _ us hl => match us, hl with | [_, _, _], _ => rfl
  have F_row_at := fun_mk (st := s_row_at) l_row_at c_row_at k_row_at
  have b_row_at := F_row_at.binds (ps := ["doc", "path"]) fun _ _ _ _ _ _ us hl => match us, hl with | [_, _], _ => rfl
  have F_number_at_row := fun_mk (st := s_number_at_row) l_number_at_row c_number_at_row k_number_at_row
  have b_number_at_row := F_number_at_row.binds (ps := ["doc", "path"]) fun _ _ _ _ _ _ us hl => match us, hl with | [_, _], _ => rfl
  have F_chosen_path := fun_mk (st := s_chosen_path) l_chosen_path c_chosen_path k_chosen_path
  have b_chosen_path := F_chosen_path.binds (ps := ["rows", "chosen", "k"]) fun _ _ _ _ _ _ us hl => match us, hl with | [_, _, _], _ => rfl
  have F_path_at_row := fun_mk (st := s_path_at_row) l_path_at_row c_path_at_row k_path_at_row
  have b_path_at_row := F_path_at_row.binds (ps := ["doc", "at", "k"]) fun _ _ _ _ _ _ us hl => match us, hl with | [_, _, _], _ => rfl
  have F_copy_totals := fun_mk (st := s_copy_totals) l_copy_totals c_copy_totals k_copy_totals
  have b_copy_totals := F_copy_totals.binds (ps := ["rows"]) fun _ _ _ _ _ _ us hl => match us, hl with | [_], _ => rfl
  have F_row_copies := fun_mk (st := s_row_copies) l_row_copies c_row_copies k_row_copies
  have b_row_copies := F_row_copies.binds (ps := ["doc", "at"]) fun _ _ _ _ _ _ us hl => match us, hl with | [_, _], _ => rfl
  have F_copied_row := fun_mk (st := s_copied_row) l_copied_row c_copied_row k_copied_row
  have b_copied_row := F_copied_row.binds (ps := ["row"]) fun _ _ _ _ _ _ us hl => match us, hl with | [_], _ => rfl
  have F_is_signs := fun_mk (st := s_is_signs) l_is_signs c_is_signs k_is_signs
  have b_is_signs := F_is_signs.binds (ps := ["value", "most"]) fun _ _ _ _ _ _ us hl => match us, hl with | [_, _], _ => rfl
  have F_is_row := fun_mk (st := s_is_row) l_is_row c_is_row k_is_row
  have b_is_row := F_is_row.binds (ps := ["value", "number"]) fun _ _ _ _ _ _ us hl => match us, hl with | [_, _], _ => rfl
  have F_Doc___init__ := fun_mk (st := s_Doc___init__) l_Doc___init__ c_Doc___init__ k_Doc___init__
  have b_Doc___init__ := F_Doc___init__.binds (ps := ["self", "rows"]) fun _ _ _ _ _ _ us hl => match us, hl with | [_, _], _ => rfl
  have F_law := fun_mk (st := s_law) l_law c_law k_law
  refine ⟨PySem.W.fnOf "law" "law" (defArgs s_law) (defBody s_law) (defScope s_law) .none kV_law dc_law pm_law an_law cd_law ct_law, fun s v => .of_eq rfl, fun base _ _ => ?_⟩
  have B_is_integer : FnB K mg "is_integer" s_is_integer ["value"] f_is_integer _ := ⟨PySem.W.mg_of X G a_f_is_integer, F_is_integer, b_is_integer⟩
  have G_is_integer := ok_is_integer (P := l.prog) (w := w) (base := base) (Z := ⟨a_Doc, a_InvalidBound, a_LayoutError, a_MOST_SIGNS, a_SIZES⟩) F_is_integer T
  have B_is_between : FnB K mg "is_between" s_is_between ["value", "low", "high"] f_is_between _ := ⟨PySem.W.mg_of X G a_f_is_between, F_is_between, b_is_between⟩
  have G_is_between := ok_is_between (P := l.prog) (w := w) (base := base) (Z := ⟨a_Doc, a_InvalidBound, a_LayoutError, a_MOST_SIGNS, a_SIZES⟩) F_is_between T B_is_integer G_is_integer
  have B_check_between : FnB K mg "check_between" s_check_between ["argument", "value", "low", "high"] f_check_between _ := ⟨PySem.W.mg_of X G a_f_check_between, F_check_between, b_check_between⟩
  have G_check_between := ok_check_between (P := l.prog) (w := w) (base := base) (Z := ⟨a_Doc, a_InvalidBound, a_LayoutError, a_MOST_SIGNS, a_SIZES⟩) F_check_between T B_is_between G_is_between
  have B_check_doc : FnB K mg "check_doc" s_check_doc ["doc"] f_check_doc _ := ⟨PySem.W.mg_of X G a_f_check_doc, F_check_doc, b_check_doc⟩
  have G_check_doc := ok_check_doc (P := l.prog) (w := w) (base := base) (Z := ⟨a_Doc, a_InvalidBound, a_LayoutError, a_MOST_SIGNS, a_SIZES⟩) F_check_doc T
  have B_check_row : FnB K mg "check_row" s_check_row ["doc", "at"] f_check_row _ := ⟨PySem.W.mg_of X G a_f_check_row, F_check_row, b_check_row⟩
  have G_check_row := ok_check_row (P := l.prog) (w := w) (base := base) (Z := ⟨a_Doc, a_InvalidBound, a_LayoutError, a_MOST_SIGNS, a_SIZES⟩) F_check_row T B_check_between G_check_between B_check_doc G_check_doc
  have B_InvalidBound : OxK K mg "InvalidBound" "InvalidBound.__init__" s_InvalidBound___init__ ["self", "argument"] a_InvalidBound f_InvalidBound___init__ _ "argument" := ⟨PySem.W.mg_of X G aE_InvalidBound, ox_InvalidBound, a_f_InvalidBound___init__, xy_InvalidBound, xn_InvalidBound, F_InvalidBound___init__, b_InvalidBound___init__⟩
  have G_InvalidBound___init__ := ok_InvalidBound___init__ (P := l.prog) (w := w) (base := base) (Z := ⟨a_Doc, a_InvalidBound, a_LayoutError, a_MOST_SIGNS, a_SIZES⟩) F_InvalidBound___init__ T
  have B_check_betweenX : FnB K mg "check_between" s_check_betweenX ["argument", "value", "low", "high"] f_check_betweenX _ := ⟨PySem.W.mg_of X G a_f_check_betweenX, F_check_betweenX, b_check_betweenX⟩
  have G_check_betweenX := ok_check_betweenX (P := l.prog) (w := w) (base := base) (Z := ⟨a_Doc, a_InvalidBound, a_LayoutError, a_MOST_SIGNS, a_SIZES⟩) F_check_betweenX T B_is_between G_is_between B_InvalidBound G_InvalidBound___init__
  have B_parts_of : FnB K mg "parts_of" s_parts_of ["row"] f_parts_of _ := ⟨PySem.W.mg_of X G a_f_parts_of, F_parts_of, b_parts_of⟩
  have G_parts_of := ok_parts_of (P := l.prog) (w := w) (base := base) (Z := ⟨a_Doc, a_InvalidBound, a_LayoutError, a_MOST_SIGNS, a_SIZES⟩) F_parts_of T
  have B_chosen_totals : FnB K mg "chosen_totals" s_chosen_totals ["rows", "chosen"] f_chosen_totals _ := ⟨PySem.W.mg_of X G a_f_chosen_totals, F_chosen_totals, b_chosen_totals⟩
  have G_chosen_totals := ok_chosen_totals (P := l.prog) (w := w) (base := base) (Z := ⟨a_Doc, a_InvalidBound, a_LayoutError, a_MOST_SIGNS, a_SIZES⟩) F_chosen_totals T B_parts_of G_parts_of
  have B_chosen_pathX : FnB K mg "chosen_path" s_chosen_pathX ["rows", "chosen", "k"] f_chosen_pathX _ := ⟨PySem.W.mg_of X G a_f_chosen_pathX, F_chosen_pathX, b_chosen_pathX⟩
  have G_chosen_pathX := ok_chosen_pathX (P := l.prog) (w := w) (base := base) (Z := ⟨a_Doc, a_InvalidBound, a_LayoutError, a_MOST_SIGNS, a_SIZES⟩) F_chosen_pathX T B_check_betweenX G_check_betweenX B_chosen_totals G_chosen_totals B_parts_of G_parts_of
  have B_only_row : FnB K mg "only_row" s_only_row ["doc", "at"] f_only_row _ := ⟨PySem.W.mg_of X G a_f_only_row, F_only_row, b_only_row⟩
  have G_only_row := ok_only_row (P := l.prog) (w := w) (base := base) (Z := ⟨a_Doc, a_InvalidBound, a_LayoutError, a_MOST_SIGNS, a_SIZES⟩) F_only_row T
  have B_path_at_rowX : FnB K mg "path_at_row" s_path_at_rowX ["doc", "at", "k"] f_path_at_rowX _ := ⟨PySem.W.mg_of X G a_f_path_at_rowX, F_path_at_rowX, b_path_at_rowX⟩
  have G_path_at_rowX := ok_path_at_rowX (P := l.prog) (w := w) (base := base) (Z := ⟨a_Doc, a_InvalidBound, a_LayoutError, a_MOST_SIGNS, a_SIZES⟩) F_path_at_rowX T B_check_row G_check_row B_chosen_pathX G_chosen_pathX B_only_row G_only_row
  have B__law_is_refused : FnB K mg "_law_is_refused" s__law_is_refused ["_law_doc", "_law_at", "_law_k"] f__law_is_refused _ := ⟨PySem.W.mg_of X G a_f__law_is_refused, F__law_is_refused, b__law_is_refused⟩
  have G__law_is_refused := ok__law_is_refused (P := l.prog) (w := w) (base := base) (Z := ⟨a_Doc, a_InvalidBound, a_LayoutError, a_MOST_SIGNS, a_SIZES⟩) F__law_is_refused T B_path_at_rowX G_path_at_rowX
  have B__law_below : FnB K mg "_law_below" s__law_below ["_law_row_here"] f__law_below _ := ⟨PySem.W.mg_of X G a_f__law_below, F__law_below, b__law_below⟩
  have G__law_below := ok__law_below (P := l.prog) (w := w) (base := base) (Z := ⟨a_Doc, a_InvalidBound, a_LayoutError, a_MOST_SIGNS, a_SIZES⟩) F__law_below T
  have B__law_nodes : FnB K mg "_law_nodes" s__law_nodes ["_law_rows_here", "_law_at", "_law_path"] f__law_nodes _ := ⟨PySem.W.mg_of X G a_f__law_nodes, F__law_nodes, b__law_nodes⟩
  have G__law_nodes : FnOk l.prog w K mg base CX0 26 f__law_nodes _ ["_law_rows_here", "_law_at", "_law_path"] (spF K (fn__law_nodes ⟨a_Doc, a_InvalidBound, a_LayoutError, a_MOST_SIGNS, a_SIZES⟩)) := ok__law_nodes T B__law_below G__law_below B__law_nodes
  have B__law_draw : FnB K mg "_law_draw" s__law_draw ["_law_well_here", "_law_most"] f__law_draw _ := ⟨PySem.W.mg_of X G a_f__law_draw, F__law_draw, b__law_draw⟩
  have G__law_draw := ok__law_draw (P := l.prog) (w := w) (base := base) (Z := ⟨a_Doc, a_InvalidBound, a_LayoutError, a_MOST_SIGNS, a_SIZES⟩) F__law_draw T
  have B__law_pick : FnB K mg "_law_pick" s__law_pick ["_law_well_here", "_law_some"] f__law_pick _ := ⟨PySem.W.mg_of X G a_f__law_pick, F__law_pick, b__law_pick⟩
  have G__law_pick := ok__law_pick (P := l.prog) (w := w) (base := base) (Z := ⟨a_Doc, a_InvalidBound, a_LayoutError, a_MOST_SIGNS, a_SIZES⟩) F__law_pick T B__law_draw G__law_draw
  have B__law_row : FnB K mg "_law_row" s__law_row ["_law_well_here", "_law_k"] f__law_row _ := ⟨PySem.W.mg_of X G a_f__law_row, F__law_row, b__law_row⟩
  have G__law_row := ok__law_row (P := l.prog) (w := w) (base := base) (Z := ⟨a_Doc, a_InvalidBound, a_LayoutError, a_MOST_SIGNS, a_SIZES⟩) F__law_row T B__law_draw G__law_draw B__law_pick G__law_pick
  have B__law_rows : FnB K mg "_law_rows" s__law_rows ["_law_well_here"] f__law_rows _ := ⟨PySem.W.mg_of X G a_f__law_rows, F__law_rows, b__law_rows⟩
  have G__law_rows := ok__law_rows (P := l.prog) (w := w) (base := base) (Z := ⟨a_Doc, a_InvalidBound, a_LayoutError, a_MOST_SIGNS, a_SIZES⟩) F__law_rows T B__law_below G__law_below B__law_draw G__law_draw B__law_row G__law_row
  have B__law_well : FnB K mg "_law_well" s__law_well ["_law_cell"] f__law_well _ := ⟨PySem.W.mg_of X G a_f__law_well, F__law_well, b__law_well⟩
  have G__law_well := ok__law_well (P := l.prog) (w := w) (base := base) (Z := ⟨a_Doc, a_InvalidBound, a_LayoutError, a_MOST_SIGNS, a_SIZES⟩) F__law_well T
  have B_chosen_ahead : FnB K mg "chosen_ahead" s_chosen_ahead ["rows", "chosen", "path"] f_chosen_ahead _ := ⟨PySem.W.mg_of X G a_f_chosen_ahead, F_chosen_ahead, b_chosen_ahead⟩
  have G_chosen_ahead := ok_chosen_ahead (P := l.prog) (w := w) (base := base) (Z := ⟨a_Doc, a_InvalidBound, a_LayoutError, a_MOST_SIGNS, a_SIZES⟩) F_chosen_ahead T B_chosen_totals G_chosen_totals B_parts_of G_parts_of
  have B_row_at : FnB K mg "row_at" s_row_at ["doc", "path"] f_row_at _ := ⟨PySem.W.mg_of X G a_f_row_at, F_row_at, b_row_at⟩
  have G_row_at := ok_row_at (P := l.prog) (w := w) (base := base) (Z := ⟨a_Doc, a_InvalidBound, a_LayoutError, a_MOST_SIGNS, a_SIZES⟩) F_row_at T B_check_doc G_check_doc B_is_between G_is_between B_parts_of G_parts_of
  have B_number_at_row : FnB K mg "number_at_row" s_number_at_row ["doc", "path"] f_number_at_row _ := ⟨PySem.W.mg_of X G a_f_number_at_row, F_number_at_row, b_number_at_row⟩
  have G_number_at_row := ok_number_at_row (P := l.prog) (w := w) (base := base) (Z := ⟨a_Doc, a_InvalidBound, a_LayoutError, a_MOST_SIGNS, a_SIZES⟩) F_number_at_row T B_chosen_ahead G_chosen_ahead B_only_row G_only_row B_row_at G_row_at
  have B_chosen_path : FnB K mg "chosen_path" s_chosen_path ["rows", "chosen", "k"] f_chosen_path _ := ⟨PySem.W.mg_of X G a_f_chosen_path, F_chosen_path, b_chosen_path⟩
  have G_chosen_path := ok_chosen_path (P := l.prog) (w := w) (base := base) (Z := ⟨a_Doc, a_InvalidBound, a_LayoutError, a_MOST_SIGNS, a_SIZES⟩) F_chosen_path T B_check_between G_check_between B_chosen_totals G_chosen_totals B_parts_of G_parts_of
  have B_path_at_row : FnB K mg "path_at_row" s_path_at_row ["doc", "at", "k"] f_path_at_row _ := ⟨PySem.W.mg_of X G a_f_path_at_row, F_path_at_row, b_path_at_row⟩
  have G_path_at_row := ok_path_at_row (P := l.prog) (w := w) (base := base) (Z := ⟨a_Doc, a_InvalidBound, a_LayoutError, a_MOST_SIGNS, a_SIZES⟩) F_path_at_row T B_check_row G_check_row B_chosen_path G_chosen_path B_only_row G_only_row
  have B_copy_totals : FnB K mg "copy_totals" s_copy_totals ["rows"] f_copy_totals _ := ⟨PySem.W.mg_of X G a_f_copy_totals, F_copy_totals, b_copy_totals⟩
  have G_copy_totals := ok_copy_totals (P := l.prog) (w := w) (base := base) (Z := ⟨a_Doc, a_InvalidBound, a_LayoutError, a_MOST_SIGNS, a_SIZES⟩) F_copy_totals T B_parts_of G_parts_of
  have B_row_copies : FnB K mg "row_copies" s_row_copies ["doc", "at"] f_row_copies _ := ⟨PySem.W.mg_of X G a_f_row_copies, F_row_copies, b_row_copies⟩
  have G_row_copies := ok_row_copies (P := l.prog) (w := w) (base := base) (Z := ⟨a_Doc, a_InvalidBound, a_LayoutError, a_MOST_SIGNS, a_SIZES⟩) F_row_copies T B_check_row G_check_row B_copy_totals G_copy_totals
  have B_copied_row : FnB K mg "copied_row" s_copied_row ["row"] f_copied_row _ := ⟨PySem.W.mg_of X G a_f_copied_row, F_copied_row, b_copied_row⟩
  have G_copied_row := ok_copied_row (P := l.prog) (w := w) (base := base) (Z := ⟨a_Doc, a_InvalidBound, a_LayoutError, a_MOST_SIGNS, a_SIZES⟩) F_copied_row T
  have B_is_signs : FnB K mg "is_signs" s_is_signs ["value", "most"] f_is_signs _ := ⟨PySem.W.mg_of X G a_f_is_signs, F_is_signs, b_is_signs⟩
  have G_is_signs := ok_is_signs (P := l.prog) (w := w) (base := base) (Z := ⟨a_Doc, a_InvalidBound, a_LayoutError, a_MOST_SIGNS, a_SIZES⟩) F_is_signs T
  have B_is_row : FnB K mg "is_row" s_is_row ["value", "number"] f_is_row _ := ⟨PySem.W.mg_of X G a_f_is_row, F_is_row, b_is_row⟩
  have G_is_row := ok_is_row (P := l.prog) (w := w) (base := base) (Z := ⟨a_Doc, a_InvalidBound, a_LayoutError, a_MOST_SIGNS, a_SIZES⟩) F_is_row T B_is_between G_is_between B_is_signs G_is_signs
  have B_Doc : InB K mg "Doc" s_Doc___init__ "Doc.__init__" ["self", "rows"] a_Doc f_Doc___init__ _ := ⟨PySem.W.mg_of X G aC_Doc, ⟨mk_Doc___init__, a_f_Doc___init__, i_Doc___init__, kc_Doc___init__⟩, F_Doc___init__, b_Doc___init__⟩
  have G_Doc___init__ := ok_Doc___init__ (P := l.prog) (w := w) (base := base) (Z := ⟨a_Doc, a_InvalidBound, a_LayoutError, a_MOST_SIGNS, a_SIZES⟩) F_Doc___init__ T B_copied_row G_copied_row B_is_row G_is_row
  exact (ok_law F_law T B__law_is_refused G__law_is_refused B__law_nodes G__law_nodes B__law_rows G__law_rows B__law_well G__law_well B_number_at_row G_number_at_row B_path_at_row G_path_at_row B_row_copies G_row_copies B_Doc G_Doc___init__).imp (law_in (lt _))
end Lw
set_option Elab.async false
set_option maxRecDepth 100000
open PySem PySem.W PyProof.Rows in
set_option maxRecDepth 100000 in
set_option maxHeartbeats 0 in
theorem PySem.Challenge.cw_farlayout_k32_nodes_at_a_row_holds : PySem.Challenge.rw_farlayout_k32_nodes_at_a_row.Holds := by
  w_on; o_law; k_head; (case hw => w_witness2)
  k_fill
  refine Mi.walkM (l := PySem.Challenge.rw_farlayout_k32_nodes_at_a_row) (k := 27) (x := "_law_script") rfl rfl ⟨rfl, by decide, by decide⟩ (fun w h Y => PySem.W.kIn_of Y) ?F
  case F =>
    intro w mg fa h KX G hmg
    refine' Lw.all_mk KX G hmg ?aC_Doc ?lC_Doc ?pg_Doc ?hd_Doc ?po_Doc ?sa_Doc ?aE_InvalidBound ?aE_LayoutError ?xi_InvalidBound ?xo_InvalidBound ?xs_InvalidBound ?xd_InvalidBound ?xb_InvalidBound ?xt_InvalidBound ?xk_InvalidBound ?xn_InvalidBound ?br_LayoutError ?bg_LayoutError ?bi_LayoutError ?yg_InvalidBound_argument ?yh_InvalidBound_argument ?yn_InvalidBound_argument ?ym_InvalidBound_argument ?nA_Doc_layouts ?nA_Doc_rows ?kt_Doc_NoneType ?kt_Doc_bool ?kt_Doc_int ?kt_Doc_str ?kt_Doc_tuple ?kt_Doc_list ?cc_Doc ?mr_Doc ?kk_Doc ?ccg ?cct ?aT_MOST_SIGNS ?lT_MOST_SIGNS ?eT_MOST_SIGNS ?zT_MOST_SIGNS ?aT_SIZES ?lT_SIZES ?eT_SIZES ?zT_SIZES ?z_all ?z_bool ?z_enumerate ?z_int ?z_isinstance ?z_len ?z_list ?z_min ?z_range ?z_str ?z_sum ?z_tuple ?v_MOST_NEST ?v_MOST_PARTS ?v_MOST_ROWS ?a_f_is_integer ?l_is_integer ?c_is_integer ?k_is_integer ?a_f_is_between ?l_is_between ?c_is_between ?k_is_between ?a_f_check_between ?l_check_between ?c_check_between ?k_check_between ?a_f_check_doc ?l_check_doc ?c_check_doc ?k_check_doc ?a_f_check_row ?l_check_row ?c_check_row ?k_check_row ?a_f_InvalidBound___init__ ?xy_InvalidBound ?l_InvalidBound___init__ ?c_InvalidBound___init__ ?k_InvalidBound___init__ ?a_f_check_betweenX ?l_check_betweenX ?c_check_betweenX ?k_check_betweenX ?a_f_parts_of ?l_parts_of ?c_parts_of ?k_parts_of ?a_f_chosen_totals ?l_chosen_totals ?c_chosen_totals ?k_chosen_totals ?a_f_chosen_pathX ?l_chosen_pathX ?c_chosen_pathX ?k_chosen_pathX ?a_f_only_row ?l_only_row ?c_only_row ?k_only_row ?a_f_path_at_rowX ?l_path_at_rowX ?c_path_at_rowX ?k_path_at_rowX ?a_f__law_is_refused ?l__law_is_refused ?c__law_is_refused ?k__law_is_refused ?a_f__law_below ?l__law_below ?c__law_below ?k__law_below ?a_f__law_nodes ?l__law_nodes ?c__law_nodes ?k__law_nodes ?a_f__law_draw ?l__law_draw ?c__law_draw ?k__law_draw ?a_f__law_pick ?l__law_pick ?c__law_pick ?k__law_pick ?a_f__law_row ?l__law_row ?c__law_row ?k__law_row ?a_f__law_rows ?l__law_rows ?c__law_rows ?k__law_rows ?a_f__law_well ?l__law_well ?c__law_well ?k__law_well ?a_f_chosen_ahead ?l_chosen_ahead ?c_chosen_ahead ?k_chosen_ahead ?a_f_row_at ?l_row_at ?c_row_at ?k_row_at ?a_f_number_at_row ?l_number_at_row ?c_number_at_row ?k_number_at_row ?a_f_chosen_path ?l_chosen_path ?c_chosen_path ?k_chosen_path ?a_f_path_at_row ?l_path_at_row ?c_path_at_row ?k_path_at_row ?a_f_copy_totals ?l_copy_totals ?c_copy_totals ?k_copy_totals ?a_f_row_copies ?l_row_copies ?c_row_copies ?k_row_copies ?a_f_copied_row ?l_copied_row ?c_copied_row ?k_copied_row ?a_f_is_signs ?l_is_signs ?c_is_signs ?k_is_signs ?a_f_is_row ?l_is_row ?c_is_row ?k_is_row ?a_f_Doc___init__ ?i_Doc___init__ ?mk_Doc___init__ ?kc_Doc___init__ ?l_Doc___init__ ?c_Doc___init__ ?k_Doc___init__ ?a_f_law ?l_law ?c_law ?k_law Lw.law_true
    (case aC_Doc => k_is)
    (case lC_Doc => k_is)
    (case pg_Doc => k_is)
    (case hd_Doc => k_is)
    (case po_Doc => k_is)
    (case sa_Doc => k_is)
    (case aE_InvalidBound => k_is)
    (case aE_LayoutError => k_is)
    (case xi_InvalidBound => kx_is)
    (case xo_InvalidBound => kx_is)
    (case xs_InvalidBound => k_is)
    (case xd_InvalidBound => k_is)
    (case xb_InvalidBound => k_is)
    (case xt_InvalidBound => k_is)
    (case xk_InvalidBound => k_is)
    (case xn_InvalidBound => k_is)
    (case br_LayoutError => k_is)
    (case bg_LayoutError => k_is)
    (case bi_LayoutError => k_is)
    (case yg_InvalidBound_argument => k_is)
    (case yh_InvalidBound_argument => k_is)
    (case yn_InvalidBound_argument => k_is)
    (case ym_InvalidBound_argument => kts_exm)
    (case nA_Doc_layouts => k_is)
    (case nA_Doc_rows => k_is)
    (case kt_Doc_NoneType => kit_is)
    (case kt_Doc_bool => kit_is)
    (case kt_Doc_int => kit_is)
    (case kt_Doc_str => kit_is)
    (case kt_Doc_tuple => kit_is)
    (case kt_Doc_list => kit_is)
    (case cc_Doc => k_is)
    (case mr_Doc => k_is)
    (case kk_Doc => kit_is)
    (case ccg => k_is)
    (case cct => k_is)
    (case aT_MOST_SIGNS => k_is)
    (case lT_MOST_SIGNS => k_is)
    (case eT_MOST_SIGNS => exact ⟨⟨_, rfl⟩, rfl, ⟨_, rfl⟩, ⟨_, rfl⟩, rfl, ⟨_, rfl⟩, trivial⟩)
    (case zT_MOST_SIGNS => first | rfl | decide)
    (case aT_SIZES => k_is)
    (case lT_SIZES => k_is)
    (case eT_SIZES => exact ⟨⟨_, rfl⟩, rfl, ⟨_, rfl⟩, ⟨_, rfl⟩, rfl, ⟨_, rfl⟩, ⟨_, rfl⟩, rfl, ⟨_, rfl⟩, ⟨_, rfl⟩, rfl, ⟨_, rfl⟩, ⟨_, rfl⟩, rfl, ⟨_, rfl⟩, ⟨_, rfl⟩, rfl, ⟨_, rfl⟩, ⟨_, rfl⟩, rfl, ⟨_, rfl⟩, trivial⟩)
    (case zT_SIZES => first | rfl | decide)
    (case z_all => k_is)
    (case z_bool => k_is)
    (case z_enumerate => k_is)
    (case z_int => k_is)
    (case z_isinstance => k_is)
    (case z_len => k_is)
    (case z_list => k_is)
    (case z_min => k_is)
    (case z_range => k_is)
    (case z_str => k_is)
    (case z_sum => k_is)
    (case z_tuple => k_is)
    (case v_MOST_NEST => k_is)
    (case v_MOST_PARTS => k_is)
    (case v_MOST_ROWS => k_is)
    (case a_f_is_integer => k_is)
    (case l_is_integer => k_is)
    (case c_is_integer => k_is)
    (case k_is_integer => k_is)
    (case a_f_is_between => k_is)
    (case l_is_between => k_is)
    (case c_is_between => k_is)
    (case k_is_between => k_is)
    (case a_f_check_between => k_is)
    (case l_check_between => k_is)
    (case c_check_between => k_is)
    (case k_check_between => k_is)
    (case a_f_check_doc => k_is)
    (case l_check_doc => k_is)
    (case c_check_doc => k_is)
    (case k_check_doc => k_is)
    (case a_f_check_row => k_is)
    (case l_check_row => k_is)
    (case c_check_row => k_is)
    (case k_check_row => k_is)
    (case a_f_InvalidBound___init__ => k_is)
    (case xy_InvalidBound => k_is)
    (case l_InvalidBound___init__ => k_is)
    (case c_InvalidBound___init__ => k_is)
    (case k_InvalidBound___init__ => k_is)
    (case a_f_check_betweenX => k_is)
    (case l_check_betweenX => k_is)
    (case c_check_betweenX => k_is)
    (case k_check_betweenX => k_is)
    (case a_f_parts_of => k_is)
    (case l_parts_of => k_is)
    (case c_parts_of => k_is)
    (case k_parts_of => k_is)
    (case a_f_chosen_totals => k_is)
    (case l_chosen_totals => k_is)
    (case c_chosen_totals => k_is)
    (case k_chosen_totals => k_is)
    (case a_f_chosen_pathX => k_is)
    (case l_chosen_pathX => k_is)
    (case c_chosen_pathX => k_is)
    (case k_chosen_pathX => k_is)
    (case a_f_only_row => k_is)
    (case l_only_row => k_is)
    (case c_only_row => k_is)
    (case k_only_row => k_is)
    (case a_f_path_at_rowX => k_is)
    (case l_path_at_rowX => k_is)
    (case c_path_at_rowX => k_is)
    (case k_path_at_rowX => k_is)
    (case a_f__law_is_refused => k_is)
    (case l__law_is_refused => k_is)
    (case c__law_is_refused => k_is)
    (case k__law_is_refused => k_is)
    (case a_f__law_below => k_is)
    (case l__law_below => k_is)
    (case c__law_below => k_is)
    (case k__law_below => k_is)
    (case a_f__law_nodes => k_is)
    (case l__law_nodes => k_is)
    (case c__law_nodes => k_is)
    (case k__law_nodes => k_is)
    (case a_f__law_draw => k_is)
    (case l__law_draw => k_is)
    (case c__law_draw => k_is)
    (case k__law_draw => k_is)
    (case a_f__law_pick => k_is)
    (case l__law_pick => k_is)
    (case c__law_pick => k_is)
    (case k__law_pick => k_is)
    (case a_f__law_row => k_is)
    (case l__law_row => k_is)
    (case c__law_row => k_is)
    (case k__law_row => k_is)
    (case a_f__law_rows => k_is)
    (case l__law_rows => k_is)
    (case c__law_rows => k_is)
    (case k__law_rows => k_is)
    (case a_f__law_well => k_is)
    (case l__law_well => k_is)
    (case c__law_well => k_is)
    (case k__law_well => k_is)
    (case a_f_chosen_ahead => k_is)
    (case l_chosen_ahead => k_is)
    (case c_chosen_ahead => k_is)
    (case k_chosen_ahead => k_is)
    (case a_f_row_at => k_is)
    (case l_row_at => k_is)
    (case c_row_at => k_is)
    (case k_row_at => k_is)
    (case a_f_number_at_row => k_is)
    (case l_number_at_row => k_is)
    (case c_number_at_row => k_is)
    (case k_number_at_row => k_is)
    (case a_f_chosen_path => k_is)
    (case l_chosen_path => k_is)
    (case c_chosen_path => k_is)
    (case k_chosen_path => k_is)
    (case a_f_path_at_row => k_is)
    (case l_path_at_row => k_is)
    (case c_path_at_row => k_is)
    (case k_path_at_row => k_is)
    (case a_f_copy_totals => k_is)
    (case l_copy_totals => k_is)
    (case c_copy_totals => k_is)
    (case k_copy_totals => k_is)
    (case a_f_row_copies => k_is)
    (case l_row_copies => k_is)
    (case c_row_copies => k_is)
    (case k_row_copies => k_is)
    (case a_f_copied_row => k_is)
    (case l_copied_row => k_is)
    (case c_copied_row => k_is)
    (case k_copied_row => k_is)
    (case a_f_is_signs => k_is)
    (case l_is_signs => k_is)
    (case c_is_signs => k_is)
    (case k_is_signs => k_is)
    (case a_f_is_row => k_is)
    (case l_is_row => k_is)
    (case c_is_row => k_is)
    (case k_is_row => k_is)
    (case a_f_Doc___init__ => k_is)
    (case i_Doc___init__ => k_is)
    (case mk_Doc___init__ => k_is)
    (case kc_Doc___init__ => k_is)
    (case l_Doc___init__ => k_is)
    (case c_Doc___init__ => k_is)
    (case k_Doc___init__ => k_is)
    (case a_f_law => k_is)
    (case l_law => k_is)
    (case c_law => k_is)
    (case k_law => k_is)
#print axioms PySem.Challenge.cw_farlayout_k32_nodes_at_a_row_holds
