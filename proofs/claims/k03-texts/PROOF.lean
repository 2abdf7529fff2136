import PyProof.Rows.All
import Wide.All
import OpenK.AllK
import Wide.FinOn
import HandS.ForMost
import HandS.More
import HandS.IsInst
import HandS.Flow
import HandS.TupAny
import HandS.Rev
import HandS.Style
import HandS.Codes
import HandS.Iter
import HandS.OwnEq
import HandS.Text
import HandS.Dict
import HandS.RaiseMore
import HandS.Defaults
import HandS.IntHex
import KE.KIntText
import PyProof.ListStr
import HandS.MakeKwOnly
import KE.KExcInit
import HandS.ExcInit
import HandS.ExcField
import HandS.ExcOwn
import PySem.Challenge.RW_farlayout_k03_texts_of_documents
import KE.IntTextLaws
import PyProof.StrLawsJoin
import PyProof.StrLawsChain
set_option Elab.async false
set_option linter.all false
set_option maxRecDepth 100000
namespace Mi
open PySem L2

/-! ### values, slots, the store -/
inductive IV where
  | non | bl (b : Bool) | int (i : Int) | str (x : Str)
  | tup (l : List IV) | fl (l : List IV) | fd | ktup (l : List IV)
  | ref (i : Nat) | adr (a : Addr) | ty (n : String)
  | obj (c : Addr) (fs : List (Str × IV))
inductive SO where
  | lst (l : List IV) | ins (c : Addr) (fs : List (Str × IV)) | dk (kvs : List (L2.Key × IV)) | dt (kvs : List (List L2.Key × IV))
inductive Slot where
  | emp | val (v : IV) | own (l : List IV) | ins (c : Addr) (fs : List (Str × IV))
structure S where
  env : List Slot
  sto : List SO
inductive Res (α : Type) where
  | ok (a : α) (s : S) | ex (c : Addr) (fs : List (Str × IV)) (s : S) | no
abbrev M (α : Type) := S → Res α
def M.bind {α β : Type} (m : M α) (k : α → M β) : M β := fun s => match m s with
  | .ok a s' => k a s'
  | .ex c fs s' => .ex c fs s'
  | .no => .no
def M.pure {α : Type} (a : α) : M α := fun s => .ok a s
def M.no {α : Type} : M α := fun _ => .no

/-! ### the view: what a value means in a heap -/
structure Vw where
  K : PySem.W.Frag
  H : Hp
  L : Addr → Prop
  ρ : List Addr
def KL (K : PySem.W.Frag) (a : Addr) (xs : List V) : Prop :=
  ∃ (o : Obj) (its : Array Value) (n : Nat), K.lookup a = some o ∧ o.cls = .type "list" ∧ o.dict = none ∧ o.data = .seq its n ∧ its.size ≤ sizeLine ∧ Vals xs its.toList
def KT (K : PySem.W.Frag) (a : Addr) (xs : List V) : Prop :=
  ∃ (o : Obj) (its : Array Value) (n : Nat), K.lookup a = some o ∧ o.cls = .type "tuple" ∧ o.data = .seq its n ∧ its.size ≤ sizeLine ∧ Vals xs its.toList
def FzL (w : Vw) (a : Addr) (xs : List V) : Prop := KL w.K a xs ∨ ∃ o, w.H a = some o ∧ (o = .lst xs ∨ ∃ b, o = .frz b (.lst xs)) ∧ ¬ w.L a
def FzT (w : Vw) (a : Addr) (xs : List V) : Prop := w.H a = some (.tup xs) ∧ ¬ w.L a
theorem FzL.sq {w : Vw} {a : Addr} {xs : List V} (h : FzL w a xs) : SqL w.K w.H a xs := by
  rcases h with h | ⟨o, e, h | ⟨b, h⟩, _⟩
  · exact .inr h
  · subst h; exact .inl (.inl e)
  · subst h; exact .inl (.inr ⟨b, e⟩)
theorem FzT.sq {w : Vw} {a : Addr} {xs : List V} (h : FzT w a xs) : SqT w.K w.H a xs := .inl (.inl h.1)
mutual
inductive RepV (w : Vw) : V → IV → Prop where
  | non : RepV w .non .non
  | bl (b : Bool) : RepV w (.bl b) (.bl b)
  | int (i : Int) : RepV w (.int i) (.int i)
  | str (x : Str) : RepV w (.str x) (.str x)
  | tup {a : Addr} {xs : List V} {l : List IV} : FzT w a xs → RepL w xs l → RepV w (.ref a) (.tup l)
  | fl {a : Addr} {xs : List V} {l : List IV} : FzL w a xs → RepL w xs l → RepV w (.ref a) (.fl l)
  | fd {a : Addr} : w.H a = some (.dK []) → ¬ w.L a → RepV w (.ref a) .fd
  | ref {a : Addr} {i : Nat} : w.ρ[i]? = some a → RepV w (.ref a) (.ref i)
  | ktup {a : Addr} {xs : List V} {l : List IV} : KT w.K a xs → RepL w xs l → RepV w (.ref a) (.ktup l)
  | adr {a : Addr} : (∃ o, w.K.lookup a = some o) → RepV w (.ref a) (.adr a)
  | ty (n : String) : RepV w (.ty n) (.ty n)
  | obj {a c dx : Addr} {gs : List (Str × V)} {fs : List (Str × IV)} : w.H a = some (.ins c dx gs) → ¬ w.L a → RepF w gs fs → RepV w (.ref a) (.obj c fs)
inductive RepL (w : Vw) : List V → List IV → Prop where
  | nil : RepL w [] []
  | cons {v : V} {vs : List V} {x : IV} {l : List IV} : RepV w v x → RepL w vs l → RepL w (v :: vs) (x :: l)
inductive RepF (w : Vw) : List (Str × V) → List (Str × IV) → Prop where
  | nil : RepF w [] []
  | cons {n : Str} {v : V} {vs : List (Str × V)} {x : IV} {l : List (Str × IV)} : RepV w v x → RepF w vs l → RepF w ((n, v) :: vs) ((n, x) :: l)
end
structure Vw.Le (w w' : Vw) : Prop where
  k : w'.K = w.K
  pre : ∀ (i : Nat) (a : Addr), w.ρ[i]? = some a → w'.ρ[i]? = some a
  keep : ∀ a o, w.H a = some o → ¬ w.L a → w'.H a = some o ∧ ¬ w'.L a
theorem Vw.Le.refl (w : Vw) : w.Le w := ⟨rfl, fun _ _ h => h, fun _ _ h n => ⟨h, n⟩⟩
theorem Vw.Le.trans {w w1 w2 : Vw} (a : w.Le w1) (b : w1.Le w2) : w.Le w2 :=
  ⟨b.k.trans a.k, fun i x h => b.pre i x (a.pre i x h), fun x o h n => let ⟨h1, n1⟩ := a.keep x o h n; b.keep x o h1 n1⟩
theorem FzL.mono {w w' : Vw} {a : Addr} {xs : List V} (e : w.Le w') (h : FzL w a xs) : FzL w' a xs := by
  rcases h with h | ⟨o, h1, h2, h3⟩
  · exact .inl (by rw [e.k]; exact h)
  · exact .inr ⟨o, (e.keep a o h1 h3).1, h2, (e.keep a o h1 h3).2⟩
theorem FzT.mono {w w' : Vw} {a : Addr} {xs : List V} (e : w.Le w') (h : FzT w a xs) : FzT w' a xs := e.keep a _ h.1 h.2
mutual
theorem RepV.mono {w w' : Vw} (e : w.Le w') {v : V} {x : IV} : RepV w v x → RepV w' v x
  | .non => .non
  | .bl b => .bl b
  | .int i => .int i
  | .str x => .str x
  | .tup h l => .tup (h.mono e) (RepL.mono e l)
  | .fl h l => .fl (h.mono e) (RepL.mono e l)
  | .fd h n => .fd (e.keep _ _ h n).1 (e.keep _ _ h n).2
  | .ktup h l => .ktup (by rw [e.k]; exact h) (RepL.mono e l)
  | .ref h => .ref (e.pre _ _ h)
  | .adr h => .adr (by rw [e.k]; exact h)
  | .ty n => .ty n
  | .obj h n f => .obj (e.keep _ _ h n).1 (e.keep _ _ h n).2 (RepF.mono e f)
theorem RepL.mono {w w' : Vw} (e : w.Le w') {vs : List V} {l : List IV} : RepL w vs l → RepL w' vs l
  | .nil => .nil
  | .cons h t => .cons (RepV.mono e h) (RepL.mono e t)
theorem RepF.mono {w w' : Vw} (e : w.Le w') {vs : List (Str × V)} {l : List (Str × IV)} : RepF w vs l → RepF w' vs l
  | .nil => .nil
  | .cons h t => .cons (RepV.mono e h) (RepF.mono e t)
end
theorem RepL.length {w : Vw} : ∀ {vs : List V} {l : List IV}, RepL w vs l → vs.length = l.length
  | _, _, .nil => rfl
  | _, _, .cons _ t => by simp [RepL.length t]
theorem RepL.get {w : Vw} : ∀ {vs : List V} {l : List IV} {i : Nat} {x : IV}, RepL w vs l → l[i]? = some x → ∃ v, vs[i]? = some v ∧ RepV w v x
  | _, _, _, _, .nil, e => by simp at e
  | _, _, 0, _, .cons h _, e => by simp at e; subst e; exact ⟨_, rfl, h⟩
  | _, _, i + 1, x, .cons _ t, e => by
    obtain ⟨v, h1, h2⟩ := RepL.get (i := i) (x := x) t (by simpa using e)
    exact ⟨v, by simpa using h1, h2⟩
theorem RepL.get' {w : Vw} : ∀ {vs : List V} {l : List IV} {i : Nat} {v : V}, RepL w vs l → vs[i]? = some v → ∃ x, l[i]? = some x ∧ RepV w v x
  | _, _, _, _, .nil, e => by simp at e
  | _, _, 0, _, .cons h _, e => by simp at e; subst e; exact ⟨_, rfl, h⟩
  | _, _, i + 1, x, .cons _ t, e => by
    obtain ⟨v, h1, h2⟩ := RepL.get' (i := i) (v := x) t (by simpa using e)
    exact ⟨v, by simpa using h1, h2⟩
theorem RepL.append {w : Vw} : ∀ {vs us : List V} {l k : List IV}, RepL w vs l → RepL w us k → RepL w (vs ++ us) (l ++ k)
  | _, _, _, _, .nil, h => h
  | _, _, _, _, .cons h t, h' => .cons h (RepL.append t h')
theorem RepL.take {w : Vw} : ∀ {vs : List V} {l : List IV} (n : Nat), RepL w vs l → RepL w (vs.take n) (l.take n)
  | _, _, 0, _ => .nil
  | _, _, _ + 1, .nil => .nil
  | _, _, n + 1, .cons r t => .cons r (RepL.take n t)
theorem RepL.drop {w : Vw} : ∀ {vs : List V} {l : List IV} (n : Nat), RepL w vs l → RepL w (vs.drop n) (l.drop n)
  | _, _, 0, r => r
  | _, _, _ + 1, .nil => .nil
  | _, _, n + 1, .cons _ t => RepL.drop n t
theorem RepL.reverse {w : Vw} : ∀ {vs : List V} {l : List IV}, RepL w vs l → RepL w vs.reverse l.reverse
  | _, _, .nil => .nil
  | _, _, .cons r t => by simp only [List.reverse_cons]; exact (RepL.reverse t).append (.cons r .nil)
theorem RepL.set {w : Vw} {v : V} {x : IV} (r : RepV w v x) : ∀ {vs : List V} {l : List IV} (i : Nat), RepL w vs l → RepL w (vs.set i v) (l.set i x)
  | _, _, _, .nil => .nil
  | _, _, 0, .cons _ t => .cons r t
  | _, _, i + 1, .cons q t => .cons q (RepL.set r i t)
theorem RepL.dropLast {w : Vw} : ∀ {vs : List V} {l : List IV}, RepL w vs l → RepL w vs.dropLast l.dropLast := fun {vs l} h => by
  rw [List.dropLast_eq_take, List.dropLast_eq_take, h.length]; exact h.take _
theorem RepL.flat {w : Vw} {vs : List V} {l : List IV} (h : RepL w vs l) : ∀ n, RepL w (List.replicate n vs).flatten (List.replicate n l).flatten
  | 0 => .nil
  | n + 1 => by simp only [List.replicate_succ, List.flatten_cons]; exact h.append (RepL.flat h n)
theorem RepF.lookup {w : Vw} {n : Str} : ∀ {vs : List (Str × V)} {l : List (Str × IV)} {x : IV}, RepF w vs l → l.lookup n = some x → ∃ v, vs.lookup n = some v ∧ RepV w v x
  | _, _, _, .nil, e => by simp at e
  | _, _, x, .cons (n := m) h t, e => by
    rw [List.lookup_cons] at e ⊢
    cases q : n == m with
    | true => rw [q] at e; simp at e; subst e; exact ⟨_, rfl, h⟩
    | false => rw [q] at e; exact RepF.lookup t e
theorem RepF.lookupN {w : Vw} {n : Str} : ∀ {vs : List (Str × V)} {l : List (Str × IV)}, RepF w vs l → l.lookup n = none → vs.lookup n = none
  | _, _, .nil, _ => rfl
  | _, _, .cons (n := m) h t, e => by
    rw [List.lookup_cons] at e ⊢
    cases q : n == m with
    | true => rw [q] at e; simp at e
    | false => rw [q] at e; exact RepF.lookupN t e
theorem RepF.length {w : Vw} : ∀ {vs : List (Str × V)} {l : List (Str × IV)}, RepF w vs l → vs.length = l.length
  | _, _, .nil => rfl
  | _, _, .cons _ t => by simp [RepF.length t]
/-- putF for mirrors -/
def putI (f : Str) (v : IV) : List (Str × IV) → List (Str × IV)
  | [] => [(f, v)]
  | (g, u) :: r => if g = f then (g, v) :: r else (g, u) :: putI f v r

theorem RepF.putI {w : Vw} {n : Str} {v : V} {x : IV} (h : RepV w v x) : ∀ {vs : List (Str × V)} {l : List (Str × IV)}, RepF w vs l → RepF w (putF n v vs) (putI n x l)
  | _, _, .nil => .cons h .nil
  | _, _, .cons (n := m) q t => by
    unfold Mi.putI L2.putF
    split
    · exact .cons h t
    · exact .cons q (RepF.putI h t)

/-! ### what a dict holds -/
inductive RepP {κ : Type} (w : Vw) : List (κ × V) → List (κ × IV) → Prop where
  | nil : RepP w [] []
  | cons {k : κ} {v : V} {x : IV} {vs : List (κ × V)} {l : List (κ × IV)} : RepV w v x → RepP w vs l → RepP w ((k, v) :: vs) ((k, x) :: l)
theorem RepP.mono {κ : Type} {w w' : Vw} (e : w.Le w') {vs : List (κ × V)} {l : List (κ × IV)} (h : RepP w vs l) : RepP w' vs l := by
  induction h with
  | nil => exact .nil
  | cons r _ ih => exact .cons (r.mono e) ih
/-! ### the state's relation -/
structure Fx where
  K : PySem.W.Frag
  F : Addr → Prop
  w0 : Vw
  EX : Addr → List (Str × IV) → S → Prop
  me : Addr := 0
def Ow (σ : L2.St) (env : List Slot) (a : Addr) : Prop :=
  ∃ i : Nat, σ[i]? = some (some (.ref a)) ∧ ((∃ l, env[i]? = some (.own l)) ∨ ∃ c fs, env[i]? = some (.ins c fs))
def vw (Θ : Fx) (ρ : List Addr) (env : List Slot) (σ : L2.St) (H : Hp) : Vw := ⟨Θ.K, H, fun a => a ∈ ρ ∨ (Ow σ env a ∨ Θ.F a), ρ⟩
def SlotR (w : Vw) (o : Option (Option V)) : Slot → Prop
  | .emp => True
  | .val x => ∃ v, o = some (some v) ∧ RepV w v x
  | .own l => ∃ a vs, o = some (some (.ref a)) ∧ w.H a = some (.lst vs) ∧ RepL w vs l
  | .ins c fs => ∃ a dx gs, o = some (some (.ref a)) ∧ w.H a = some (.ins c dx gs) ∧ RepF w gs fs
def SOR (w : Vw) (a : Addr) : SO → Prop
  | .lst l => ∃ vs, w.H a = some (.lst vs) ∧ RepL w vs l
  | .ins c fs => ∃ dx gs, w.H a = some (.ins c dx gs) ∧ RepF w gs fs
  | .dk kvs => ∃ vs, w.H a = some (.dK vs) ∧ RepP w vs kvs
  | .dt kvs => ∃ vs, w.H a = some (.dT vs) ∧ RepP w vs kvs
structure StR (Θ : Fx) (ρ : List Addr) (s : S) (σ : L2.St) (H : Hp) : Prop where
  len : σ.length = s.env.length
  slen : ρ.length = s.sto.length
  slot : ∀ (i : Nat) (x : Slot), s.env[i]? = some x → SlotR (vw Θ ρ s.env σ H) σ[i]? x
  obj : ∀ (i : Nat) (a : Addr) (o : SO), ρ[i]? = some a → s.sto[i]? = some o → SOR (vw Θ ρ s.env σ H) a o
  nd : ∀ (i j : Nat) (a : Addr), ρ[i]? = some a → ρ[j]? = some a → i = j
  sep : ∀ a, Ow σ s.env a → a ∉ ρ
  one : ∀ (i j : Nat) (a : Addr), σ[i]? = some (some (.ref a)) → σ[j]? = some (some (.ref a)) →
    ((∃ l, s.env[i]? = some (.own l)) ∨ ∃ c fs, s.env[i]? = some (.ins c fs)) → ((∃ l, s.env[j]? = some (.own l)) ∨ ∃ c fs, s.env[j]? = some (.ins c fs)) → i = j
  fo : ∀ a, Θ.F a → (∃ o, H a = some o) ∧ a ∉ ρ ∧ ¬ Ow σ s.env a
  base : Vw.Le Θ.w0 (vw Θ ρ s.env σ H)
  fkeep : ∀ a o, Θ.F a → Θ.w0.H a = some o → H a = some o
  self : ∀ (i : Nat) (c : Addr) (fs : List (Str × IV)), s.env[i]? = some (.ins c fs) → σ[i]? = some (some (.ref Θ.me))
/-- from one state to a later one -/
structure Stp (Θ : Fx) (ρ : List Addr) (s : S) (σ : L2.St) (H : Hp) (ρ' : List Addr) (s' : S) (σ' : L2.St) (H' : Hp) : Prop where
  r : StR Θ ρ' s' σ' H'
  le : Vw.Le (vw Θ ρ s.env σ H) (vw Θ ρ' s'.env σ' H')
theorem StR.here {Θ : Fx} {ρ : List Addr} {s : S} {σ : L2.St} {H : Hp} (h : StR Θ ρ s σ H) : Stp Θ ρ s σ H ρ s σ H := ⟨h, .refl _⟩
theorem Stp.trans {Θ : Fx} {ρ ρ1 ρ2 : List Addr} {s s1 s2 : S} {σ σ1 σ2 : L2.St} {H H1 H2 : Hp} (a : Stp Θ ρ s σ H ρ1 s1 σ1 H1) (b : Stp Θ ρ1 s1 σ1 H1 ρ2 s2 σ2 H2) : Stp Θ ρ s σ H ρ2 s2 σ2 H2 := ⟨b.r, a.le.trans b.le⟩
def Out (Θ : Fx) {α : Type} (r : Res α) (Q : α → S → Prop) : Prop := match r with
  | .ok a s => Q a s
  | .ex c fs s => Θ.EX c fs s
  | .no => False
theorem Out.bind {Θ : Fx} {α β : Type} {m : M α} {k : α → M β} {s : S} {Q : β → S → Prop} (h : Out Θ (M.bind m k s) Q) : Out Θ (m s) fun a s' => Out Θ (k a s') Q := by
  unfold M.bind at h
  cases e : m s with
  | ok a s' => rw [e] at h; exact h
  | ex c fs s' => rw [e] at h; exact h
  | no => rw [e] at h; exact h
theorem Out.mono {Θ : Fx} {α : Type} {r : Res α} {Q Q' : α → S → Prop} (h : Out Θ r Q) (f : ∀ a s, Q a s → Q' a s) : Out Θ r Q' := by
  cases r with
  | ok a s => exact f a s h
  | ex c fs s => exact h
  | no => exact h
/-- a mirror as a reading -/
def tM (Θ : Fx) {α A : Type} (R : Vw → A → α → Prop) (m : M α) : L2.St → Hp → (A → Hp → Prop) → Prop := fun σ H Q =>
  ∃ ρ s, StR Θ ρ s σ H ∧ Out Θ (m s) fun x s' => ∀ ρ' H' a, Stp Θ ρ s σ H ρ' s' σ H' → R (vw Θ ρ' s'.env σ H') a x → Q a H'
abbrev tE (Θ : Fx) (m : M IV) : TE := tM Θ (A := V) RepV m
abbrev tT (Θ : Fx) (m : M Bool) : TT := tM Θ (A := Bool) (fun _ b x => b = x) m
abbrev tA (Θ : Fx) (m : M (List IV)) : TA := tM Θ (A := List V) RepL m
theorem tM.imp {Θ : Fx} {α A : Type} {R : Vw → A → α → Prop} {m : M α} {σ : L2.St} {H : Hp} {Q Q' : A → Hp → Prop} (h : tM Θ R m σ H Q) (f : ∀ a H', Q a H' → Q' a H') : tM Θ R m σ H Q' := by
  obtain ⟨ρ, s, r, o⟩ := h
  exact ⟨ρ, s, r, o.mono fun x s' q ρ' H' a st rr => f _ _ (q ρ' H' a st rr)⟩
/-- the first part of two -/
theorem tM.bind {Θ : Fx} {α β A B : Type} {R : Vw → A → α → Prop} {R2 : Vw → B → β → Prop} {m : M α} {k : α → M β} {σ : L2.St} {H : Hp} {Q : B → Hp → Prop} (h : tM Θ R2 (M.bind m k) σ H Q) :
    tM Θ R m σ H fun a H1 => ∃ ρ s x, StR Θ ρ s σ H1 ∧ R (vw Θ ρ s.env σ H1) a x ∧ Out Θ (k x s) fun y s' => ∀ ρ' H' b, Stp Θ ρ s σ H1 ρ' s' σ H' → R2 (vw Θ ρ' s'.env σ H') b y → Q b H' := by
  obtain ⟨ρ, s, r, o⟩ := h
  exact ⟨ρ, s, r, o.bind.mono fun x s' q ρ' H' a st rr => ⟨ρ', s', x, st.r, rr, q.mono fun y s2 q2 ρ2 H2 b st2 rb => q2 ρ2 H2 b (st.trans st2) rb⟩⟩
end Mi
set_option Elab.async false
set_option linter.all false
set_option maxRecDepth 100000
namespace Mi
open PySem L2

variable {Θ : Fx} {ρ ρ' : List Addr} {s s' : S} {σ σ' : L2.St} {H H' : Hp} {X : Cx}

theorem StR.tracked (r : StR Θ ρ s σ H) {a : Addr} (h : a ∈ ρ ∨ (Ow σ s.env a ∨ Θ.F a)) : ∃ o, H a = some o := by
  rcases h with h | ⟨i, h1, h2⟩ | h
  · obtain ⟨i, hi, e⟩ := List.mem_iff_getElem.mp h
    have e' : ρ[i]? = some a := List.getElem?_eq_some_iff.mpr ⟨hi, e⟩
    have hs : i < s.sto.length := by rw [← r.slen]; exact hi
    have q := r.obj i a s.sto[i] e' (by simp [hs])
    cases e2 : s.sto[i] with
    | lst l => rw [e2] at q; obtain ⟨vs, z, _⟩ := q; exact ⟨_, z⟩
    | dk l => rw [e2] at q; obtain ⟨vs, z, _⟩ := q; exact ⟨_, z⟩
    | dt l => rw [e2] at q; obtain ⟨vs, z, _⟩ := q; exact ⟨_, z⟩
    | ins c fs => rw [e2] at q; obtain ⟨dx, gs, z, _⟩ := q; exact ⟨_, z⟩
  · rcases h2 with ⟨l, e⟩ | ⟨c, fs, e⟩
    · obtain ⟨a', vs, z1, z2, _⟩ := r.slot i _ e
      rw [h1] at z1; cases z1; exact ⟨_, z2⟩
    · obtain ⟨a', dx, gs, z1, z2, _⟩ := r.slot i _ e
      rw [h1] at z1; cases z1; exact ⟨_, z2⟩
  · exact (r.fo a h).1
/-- the heap grows: all that is tracked stays -/
theorem StR.grow (r : StR Θ ρ s σ H) (k : ∀ a o, H a = some o → H' a = some o) : Stp Θ ρ s σ H ρ s σ H' := by
  have le : Vw.Le (vw Θ ρ s.env σ H) (vw Θ ρ s.env σ H') := ⟨rfl, fun _ _ h => h, fun a o h n => ⟨k a o h, n⟩⟩
  refine ⟨⟨r.len, r.slen, fun i x e => ?_, fun i a o e1 e2 => ?_, r.nd, r.sep, r.one, fun a h => ⟨(r.fo a h).1.imp fun o q => k a o q, (r.fo a h).2⟩, r.base.trans le, fun a o f q => k a o (r.fkeep a o f q), r.self⟩, le⟩
  · have q := r.slot i x e
    cases x with
    | emp => trivial
    | val v => obtain ⟨u, h1, h2⟩ := q; exact ⟨u, h1, h2.mono le⟩
    | own l => obtain ⟨a, vs, h1, h2, h3⟩ := q; exact ⟨a, vs, h1, k _ _ h2, h3.mono le⟩
    | ins c fs => obtain ⟨a, dx, gs, h1, h2, h3⟩ := q; exact ⟨a, dx, gs, h1, k _ _ h2, h3.mono le⟩
  · have q := r.obj i a o e1 e2
    cases o with
    | lst l => obtain ⟨vs, h2, h3⟩ := q; exact ⟨vs, k _ _ h2, h3.mono le⟩
    | dk kvs => obtain ⟨vs, h2, h3⟩ := q; exact ⟨vs, k _ _ h2, h3.mono le⟩
    | dt kvs => obtain ⟨vs, h2, h3⟩ := q; exact ⟨vs, k _ _ h2, h3.mono le⟩
    | ins c fs => obtain ⟨dx, gs, h2, h3⟩ := q; exact ⟨dx, gs, k _ _ h2, h3.mono le⟩
theorem StR.laid (r : StR Θ ρ s σ H) {p : Addr} {o : HO} (hp : H p = none) : Stp Θ ρ s σ H ρ s σ (upd H p o) ∧ ¬ (vw Θ ρ s.env σ (upd H p o)).L p :=
  ⟨r.grow fun a u e => by rw [upd_ne (ne_of_none e hp)]; exact e, fun h => by
    obtain ⟨u, e⟩ := r.tracked h
    rw [hp] at e; cases e⟩

/-! ### operations by values -/
def szl : Nat := 16000000
theorem szl_le : szl ≤ sizeLine := by rw [sizeLine_eq]; decide
theorem le_szl {n : Nat} (h : n ≤ szl) : n ≤ sizeLine := Nat.le_trans h szl_le
/-- what is wanted of a value that an operation hands back, the state as it was -/
def Back (Θ : Fx) (ρ : List Addr) (s : S) (σ : L2.St) (H : Hp) (z : IV) (Q : VK) : Prop := ∀ H' v, (∀ a o, H a = some o → H' a = some o) → RepV (vw Θ ρ s.env σ H') v z → Q v H'
theorem Back.now {z : IV} {Q : VK} (b : Back Θ ρ s σ H z Q) (r : StR Θ ρ s σ H) {v : V} (h : RepV (vw Θ ρ s.env σ H) v z) : Q v H := b H v (fun _ _ q => q) h
theorem grow_new {H : Hp} {p : Addr} {o : HO} (hp : H p = none) : ∀ a u, H a = some u → upd H p o a = some u := fun a u e => by rw [upd_ne (ne_of_none e hp)]; exact e
theorem Back.tup {l : List IV} {xs : List V} {Q : VK} {p : Addr} (b : Back Θ ρ s σ H (.tup l) Q) (r : StR Θ ρ s σ H) (hp : H p = none) (h : RepL (vw Θ ρ s.env σ H) xs l) : Q (.ref p) (upd H p (.tup xs)) :=
  let ⟨st, n⟩ := r.laid (o := .tup xs) hp
  b _ _ (grow_new hp) (.tup ⟨upd_same, n⟩ (h.mono st.le))
theorem Back.fl {l : List IV} {xs : List V} {Q : VK} {p : Addr} (b : Back Θ ρ s σ H (.fl l) Q) (r : StR Θ ρ s σ H) (hp : H p = none) (h : RepL (vw Θ ρ s.env σ H) xs l) : Q (.ref p) (upd H p (.lst xs)) :=
  let ⟨st, n⟩ := r.laid (o := .lst xs) hp
  b _ _ (grow_new hp) (.fl (.inr ⟨_, upd_same, .inl rfl, n⟩) (h.mono st.le))
/-- a two-place operation that leaves the state -/
def OpS (Θ : Fx) (r : R2) (f : IV → IV → Option IV) : Prop := ∀ ρ s σ H x y xv yv z Q, StR Θ ρ s σ H → RepV (vw Θ ρ s.env σ H) xv x → RepV (vw Θ ρ s.env σ H) yv y → f x y = some z → Back Θ ρ s σ H z Q → r xv yv H Q
def UnS (Θ : Fx) (r : V → Hp → VK → Prop) (f : IV → Option IV) : Prop := ∀ ρ s σ H x xv z Q, StR Θ ρ s σ H → RepV (vw Θ ρ s.env σ H) xv x → f x = some z → Back Θ ρ s σ H z Q → r xv H Q
/-- a call of a built-in that leaves the state -/
def CaS (Θ : Fx) (r : List V → Hp → VK → Prop) (f : List IV → Option IV) : Prop := ∀ ρ s σ H xs vs z Q, StR Θ ρ s σ H → RepL (vw Θ ρ s.env σ H) vs xs → f xs = some z → Back Θ ρ s σ H z Q → r vs H Q
def M.opt {α : Type} (o : Option α) : M α := fun s => match o with
  | some a => .ok a s
  | none => .no
def mOp (f : IV → IV → Option IV) (a b : M IV) : M IV := M.bind a fun x => M.bind b fun y => M.opt (f x y)
def mUn (f : IV → Option IV) (a : M IV) : M IV := M.bind a fun x => M.opt (f x)
theorem Out.opt {α : Type} {o : Option α} {s : S} {Q : α → S → Prop} (h : Out Θ (M.opt o s) Q) : ∃ a, o = some a ∧ Q a s := by
  cases o with
  | some a => exact ⟨a, rfl, h⟩
  | none => exact h.elim
theorem tE_op {r : R2} {f : IV → IV → Option IV} (hr : OpS Θ r f) {ma mb : M IV} {Q : VK} (h : tE Θ (mOp f ma mb) σ H Q) : tOp r (tE Θ ma) (tE Θ mb) σ H Q := by
  refine (tM.bind (R := RepV) h).imp fun x H1 ⟨ρ1, s1, xi, r1, rx, o1⟩ => ?_
  refine ⟨ρ1, s1, r1, o1.bind.mono fun yi s2 q ρ2 H2 y st2 ry => ?_⟩
  obtain ⟨z, e, q⟩ := q.opt
  exact hr ρ2 s2 σ H2 xi yi x y z Q st2.r (rx.mono st2.le) ry e fun H3 v g rv => q ρ2 H3 v (st2.trans (st2.r.grow g)) rv
theorem tE_un {r : V → Hp → VK → Prop} {f : IV → Option IV} (hr : UnS Θ r f) {ma : M IV} {Q : VK} (h : tE Θ (mUn f ma) σ H Q) : tUn r (tE Θ ma) σ H Q := by
  refine (tM.bind (R := RepV) h).imp fun x H1 ⟨ρ1, s1, xi, r1, rx, o1⟩ => ?_
  obtain ⟨z, e, q⟩ := o1.opt
  exact hr ρ1 s1 σ H1 xi x z Q r1 rx e fun H3 v g rv => q ρ1 H3 v (r1.grow g) rv
theorem peLe {e : Expr} {t t' : TE} (h : PE X e t) (f : ∀ σ H Q, t' σ H Q → t σ H Q) : PE X e t' := ⟨fun pins s σ H Q I q => h.run pins s σ H Q I (f σ H Q q)⟩
theorem ptLe {e : Expr} {t t' : TT} (h : PT X e t) (f : ∀ σ H Q, t' σ H Q → t σ H Q) : PT X e t' := ⟨fun pins s σ H Q I q => h.run pins s σ H Q I (f σ H Q q)⟩
theorem paLe {e : List Expr} {t t' : TA} (h : PA X e t) (f : ∀ σ H Q, t' σ H Q → t σ H Q) : PA X e t' := ⟨fun pos pins s σ H Q I q => h.run pos pins s σ H Q I (f σ H Q q)⟩
theorem psLe {e : Stmt} {t t' : TS} (h : PS X e t) (f : ∀ D σ H, t' D σ H → t D σ H) : PS X e t' := ⟨fun pins s σ H D I q => h.run pins s σ H D I (f D σ H q)⟩
theorem pssLe {e : List Stmt} {t t' : TS} (h : PSs X e t) (f : ∀ D σ H, t' D σ H → t D σ H) : PSs X e t' := ⟨fun pins s σ H D I q => h.run pins s σ H D I (f D σ H q)⟩

section
variable {a b c : Expr} {ma mb mc : M IV} {pos : Pos}
theorem e_op {op : Operator} {r : R2} {f : IV → IV → Option IV} (ho : OpR X (binaryOp op) r) (hr : OpS Θ r f) (ha : PE X a (tE Θ ma)) (hb : PE X b (tE Θ mb)) : PE X (.BinOp a op b pos) (tE Θ (mOp f ma mb)) :=
  peLe (pe_op ho ha hb) fun _ _ _ h => tE_op hr h
theorem e_un {op : UnaryOp} {r : V → Hp → VK → Prop} {f : IV → Option IV} (ho : UnR X (unaryOp op) r) (hr : UnS Θ r f) (ha : PE X a (tE Θ ma)) : PE X (.UnaryOp op a pos) (tE Θ (mUn f ma)) :=
  peLe (pe_un ho ha) fun _ _ _ h => tE_un hr h
theorem e_cmp {op : CmpOp} {r : R2} {f : IV → IV → Option IV} (ho : OpR X (compareOp op) r) (hr : OpS Θ r f) (ha : PE X a (tE Θ ma)) (hb : PE X b (tE Θ mb)) (hm : behindInMarks op b = false) : PE X (.Compare a [op] [b] pos) (tE Θ (mOp f ma mb)) :=
  peLe (pe_cmpR ho ha hb hm) fun _ _ _ h => tE_op hr h
theorem e_ix {r : R2} {f : IV → IV → Option IV} (ho : IxR X r) (hr : OpS Θ r f) (ha : PE X a (tE Θ ma)) (hb : PE X b (tE Θ mb)) (hs : PlainIx b) : PE X (.Subscript a b pos) (tE Θ (mOp f ma mb)) :=
  peLe (pe_ix ho ha hb hs) fun _ _ _ h => tE_op hr h
end
theorem OpS.or {r r' : R2} {f f' : IV → IV → Option IV} (h : OpS Θ r f) (h' : OpS Θ r' f') : OpS Θ (fun x y H Q => r x y H Q ∨ r' x y H Q) (fun x y => (f x y).or (f' x y)) := by
  intro ρ s σ H x y xv yv z Q r rx ry e b
  dsimp only at e
  cases e1 : f x y with
  | some z' => rw [e1] at e; simp at e; subst e; exact .inl (h ρ s σ H x y xv yv _ Q r rx ry e1 b)
  | none => rw [e1] at e; simp at e; exact .inr (h' ρ s σ H x y xv yv _ Q r rx ry e b)
theorem CaS.or {r r' : List V → Hp → VK → Prop} {f f' : List IV → Option IV} (h : CaS Θ r f) (h' : CaS Θ r' f') : CaS Θ (fun x H Q => r x H Q ∨ r' x H Q) (fun x => (f x).or (f' x)) := by
  intro ρ s σ H x xv z Q r rx e b
  dsimp only at e
  cases e1 : f x with
  | some z' => rw [e1] at e; simp at e; subst e; exact .inl (h ρ s σ H x xv _ Q r rx e1 b)
  | none => rw [e1] at e; simp at e; exact .inr (h' ρ s σ H x xv _ Q r rx e b)
end Mi
set_option Elab.async false
set_option linter.all false
set_option maxRecDepth 100000
namespace Mi
open PySem L2 PyProof.Rows

variable {Θ : Fx} {ρ ρ' : List Addr} {s s' : S} {σ σ' : L2.St} {H H' : Hp} {X : Cx}

/-! ### lists that are read: the very object -/
theorem lstZ {X : Cx} {pins : List (Addr × Obj)} {σ : L2.St} {H : Hp} {s : Shared} {l : Addr} {xs : List V} (I : Inv X pins σ H s) (h : SqL X.K H l xs) :
    xs.length ≤ sizeLine ∧ ∃ (its : List Value) (n : Nat) (sl : Array (Option Value)), Vals xs its ∧ xs.length = its.length ∧ s.heap.get? l = some { cls := .type "list", dict := none, data := .seq its.toArray n, slots := sl } := by
  obtain ⟨its, r, ⟨⟨oc, od, odt, sl⟩, n, e, h1, h2, h3⟩, z⟩ := I.list h
  simp only at h1 h2 h3
  subst h1 h2 h3
  exact ⟨z, its, n, sl, r, r.length, e⟩
def rCatR (K : PySem.W.Frag) : R2 := fun x y H Q => ∃ l b xs zs, x = .ref l ∧ y = .ref b ∧ SqL K H l xs ∧ SqL K H b zs ∧ xs.length + zs.length ≤ sizeLine ∧ ∀ p, H p = none → Q (.ref p) (upd H p (.lst (xs ++ zs)))
theorem op_catR : OpR X (binaryOp .Add) (rCatR X.K) := by
  intro pins s σ H x y v u Q I rx ry h
  obtain ⟨l, b, xs, zs, rfl, rfl, hH, hB, hz, q⟩ := h
  cases rx
  cases ry
  obtain ⟨z, its, n, sl, r, hl, e⟩ := lstZ I hH
  obtain ⟨z2, its2, n2, sl2, r2, hl2, e2⟩ := lstZ I hB
  refine concat_meets ⟨_, e, rfl⟩ ⟨_, e2, rfl⟩ noFill_list_add seq_list_add PySem.F.slot_list_add PySem.F.entry_list_add (PySem.F.args_list_add_2 _ _) (PyProof.Rows.list_addW l b its.toArray its2.toArray n n2 none none sl sl2 (by rw [List.size_toArray, List.size_toArray]; omega)) ⟨e, e2, ?_⟩
  have ea : its.toArray ++ its2.toArray = (its ++ its2).toArray := by simp
  rw [ea]
  exact ⟨.ref _, _, I.lnew (t' := s.toks) (r.append r2) (by rw [List.length_append]; omega), rfl, q _ I.fresh⟩

/-! ### a + b -/
def addV : IV → IV → Option IV
  | .int i, .int j => some (.int (i + j))
  | .str a, .str b => if a.length + b.length ≤ szl then some (.str (a ++ b)) else none
  | .tup a, .tup b => if a.length + b.length ≤ szl then some (.tup (a ++ b)) else none
  | .fl a, .fl b => if a.length + b.length ≤ szl then some (.fl (a ++ b)) else none
  | _, _ => none
def rAddV (K : PySem.W.Frag) : R2 := fun x y H Q => (((∃ i j, x = .int i ∧ y = .int j ∧ Q (.int (i + j)) H) ∨ (∃ i j, x = .str i ∧ y = .str j ∧ i.length + j.length ≤ sizeLine ∧ Q (.str (i ++ j)) H)) ∨ rCatA K x y H Q) ∨ rCatR K x y H Q
theorem op_addV : OpR X (binaryOp .Add) (rAddV X.K) := ((op_add.or op_add_str).or op_catA).or op_catR
theorem nil_of_len {w : Vw} {xs : List V} {l : List IV} (h : RepL w xs l) : xs = [] → l = [] := fun e => by
  subst e; cases h; rfl
theorem addV_ok {K : PySem.W.Frag} (hK : Θ.K = K) : OpS Θ (rAddV K) addV := by
  intro ρ s σ H x y xv yv z Q r rx ry e b
  subst hK
  unfold addV at e
  split at e
  · cases rx; cases ry; cases e
    exact .inl (.inl (.inl ⟨_, _, rfl, rfl, b.now r (.int _)⟩))
  · cases rx; cases ry
    split at e
    · cases e; rename_i hz
      exact .inl (.inl (.inr ⟨_, _, rfl, rfl, le_szl hz, b.now r (.str _)⟩))
    · cases e
  · split at e
    · cases e; rename_i hz
      cases rx with | tup h1 l1 =>
      cases ry with | tup h2 l2 =>
      refine .inl (.inr ⟨_, _, _, _, rfl, rfl, h1.sq, h2.sq, by rw [l1.length, l2.length]; exact le_szl hz, fun e => ?_, fun _ e => ?_, fun _ _ p hp => b.tup r hp (l1.append l2)⟩)
      · have := nil_of_len l1 e; subst this
        exact b.now r (.tup h2 l2)
      · have := nil_of_len l2 e; subst this
        rw [List.append_nil] at b
        exact b.now r (.tup h1 l1)
    · cases e
  · split at e
    · cases e; rename_i hz
      cases rx with | fl h1 l1 =>
      cases ry with | fl h2 l2 =>
      exact .inr ⟨_, _, _, _, rfl, rfl, h1.sq, h2.sq, by rw [l1.length, l2.length]; exact le_szl hz, fun p hp => b.fl r hp (l1.append l2)⟩
    · cases e
  · cases e
section
variable {a b c : Expr} {ma mb mc : M IV} {pos : Pos}
theorem e_add (hK : Θ.K = X.K) (ha : PE X a (tE Θ ma)) (hb : PE X b (tE Θ mb)) : PE X (.BinOp a .Add b pos) (tE Θ (mOp addV ma mb)) := e_op op_addV (addV_ok hK) ha hb

/-! ### a - b, a % b, a // b, a ** b, a * b -/
def subV : IV → IV → Option IV
  | .int i, .int j => some (.int (i - j))
  | _, _ => none
theorem e_sub (ha : PE X a (tE Θ ma)) (hb : PE X b (tE Θ mb)) : PE X (.BinOp a .Sub b pos) (tE Θ (mOp subV ma mb)) :=
  e_op op_sub (fun ρ s σ H x y xv yv z Q r rx ry e b => by
    unfold subV at e
    split at e
    · cases rx; cases ry; cases e; exact ⟨_, _, rfl, rfl, b.now r (.int _)⟩
    · cases e) ha hb
def modV : IV → IV → Option IV
  | .int i, .int j => if 0 < j then some (.int (i % j)) else none
  | _, _ => none
theorem e_mod (ha : PE X a (tE Θ ma)) (hb : PE X b (tE Θ mb)) : PE X (.BinOp a .Mod b pos) (tE Θ (mOp modV ma mb)) :=
  e_op op_mod (fun ρ s σ H x y xv yv z Q r rx ry e b => by
    unfold modV at e
    split at e
    · split at e
      · cases rx; cases ry; cases e; rename_i h; exact ⟨_, _, rfl, rfl, h, b.now r (.int _)⟩
      · cases e
    · cases e) ha hb
def divV : IV → IV → Option IV
  | .int i, .int j => if 0 < j ∧ j < 1073741824 then some (.int (i / j)) else none
  | _, _ => none
theorem e_div (ha : PE X a (tE Θ ma)) (hb : PE X b (tE Θ mb)) : PE X (.BinOp a .FloorDiv b pos) (tE Θ (mOp divV ma mb)) :=
  e_op op_fdiv (fun ρ s σ H x y xv yv z Q r rx ry e b => by
    unfold divV at e
    split at e
    · split at e
      · cases rx; cases ry; cases e; rename_i h; exact ⟨_, _, rfl, rfl, h, b.now r (.int _)⟩
      · cases e
    · cases e) ha hb
def powV : IV → IV → Option IV
  | .int i, .int j => if 0 ≤ j ∧ j ≤ 1000 ∧ i.natAbs ≤ 1000 then some (.int (i ^ j.toNat)) else none
  | _, _ => none
theorem e_pow (ha : PE X a (tE Θ ma)) (hb : PE X b (tE Θ mb)) : PE X (.BinOp a .Pow b pos) (tE Θ (mOp powV ma mb)) :=
  e_op op_pow (fun ρ s σ H x y xv yv z Q r rx ry e b => by
    unfold powV at e
    split at e
    · split at e
      · cases rx; cases ry; cases e; rename_i h; exact ⟨_, _, rfl, rfl, ⟨h.1, by omega, Nat.lt_of_le_of_lt h.2.2 (by decide)⟩, b.now r (.int _)⟩
      · cases e
    · cases e) ha hb
end
end Mi
set_option Elab.async false
set_option linter.all false
set_option maxRecDepth 100000
namespace Mi
open PySem L2 PyProof.Rows

variable {Θ : Fx} {ρ ρ' : List Addr} {s s' : S} {σ σ' : L2.St} {H H' : Hp} {X : Cx}

/-! ### names, constants -/
def mVar (i : Nat) : M IV := fun s => match s.env[i]? with
  | some (.val v) => .ok v s
  | _ => .no
def mC (v : IV) : M IV := fun s => .ok v s
section
variable {a b c : Expr} {ma mb mc : M IV} {pos : Pos}
theorem tE_now {m : M IV} {x : IV} {Q : VK} (h : tE Θ m σ H Q) (e : ∀ ρ s, StR Θ ρ s σ H → Out Θ (m s) (fun y s' => ∀ ρ' H' a, Stp Θ ρ s σ H ρ' s' σ H' → RepV (vw Θ ρ' s'.env σ H') a y → Q a H') → ∃ v, Q v H) : ∃ v, Q v H := by
  obtain ⟨ρ, s, r, o⟩ := h
  exact e ρ s r o
theorem tE_var {i : Nat} {Q : VK} (h : tE Θ (mVar i) σ H Q) : tVar i σ H Q := by
  obtain ⟨ρ, s, r, o⟩ := h
  unfold mVar at o
  cases e : s.env[i]? with
  | none => rw [e] at o; exact o.elim
  | some x =>
    rw [e] at o
    cases x with
    | val v =>
      obtain ⟨u, h1, h2⟩ := r.slot i _ e
      exact ⟨u, h1, o ρ H u r.here h2⟩
    | _ => exact o.elim
theorem e_var (i : Nat) {x : Str} {pos : Pos} (hN : X.N[i]? = some x := by rfl) (hv : Vis X.env.scope x := by first | exact Or.inl rfl | exact Or.inr (Or.inl rfl) | exact Or.inr (Or.inr rfl)) (hd : (x == ("__debug__" : Str)) = false := by decide)
    (hcd : (x == ("__classdict__" : Str)) = false := by decide) : PE X (.Name x pos) (tE Θ (mVar i)) := peLe (pe_var hN hv hd hcd) fun _ _ _ h => tE_var h
theorem tE_C {v : V} {x : IV} {Q : VK} (rv : ∀ w, RepV w v x) (h : tE Θ (mC x) σ H Q) : tC v σ H Q := by
  obtain ⟨ρ, s, r, o⟩ := h
  exact o ρ H v r.here (rv _)
theorem e_int {i j pos} : PE X (.Constant (.int i) j pos) (tE Θ (mC (.int i))) := peLe pe_int fun _ _ _ h => tE_C (fun _ => .int _) h
theorem e_bl {i j pos} : PE X (.Constant (.bool i) j pos) (tE Θ (mC (.bl i))) := peLe pe_bl fun _ _ _ h => tE_C (fun _ => .bl _) h
theorem e_non {j pos} : PE X (.Constant .none j pos) (tE Θ (mC .non)) := peLe pe_non fun _ _ _ h => tE_C (fun _ => .non) h
theorem e_str {x j pos} : PE X (.Constant (.str x) j pos) (tE Θ (mC (.str x))) := peLe pe_str fun _ _ _ h => tE_C (fun _ => .str _) h
theorem negV_ok : UnS Θ (rU fun i => .int (-i)) (fun x => match x with | .int i => some (.int (-i)) | _ => none) := by
  intro ρ s σ H x xv z Q r rx e b
  dsimp only at e
  split at e
  · cases rx; cases e; exact ⟨_, rfl, b.now r (.int _)⟩
  · cases e
def negV : IV → Option IV := fun x => match x with | .int i => some (.int (-i)) | _ => none
theorem e_neg (ha : PE X a (tE Θ ma)) : PE X (.UnaryOp .USub a pos) (tE Θ (mUn negV ma)) := e_un un_neg negV_ok ha
/-- a module's constant, a class, a function -/
theorem e_glob {x : Str} {v : V} {u : Value} {xi : IV} (hg : Gl X x) (hm : X.mg x = some u) (r : RelV v u) (rv : ∀ w : Vw, w.K = X.K → RepV w v xi) (hK : Θ.K = X.K) (hd : (x == ("__debug__" : Str)) = false := by decide) : PE X (.Name x pos) (tE Θ (mC xi)) :=
  peLe (pe_glob hg hm r hd) fun σ H Q h => by
    obtain ⟨ρ, s, rr, o⟩ := h
    exact o ρ H v rr.here (rv _ hK)

/-! ### comparisons of ints, of texts -/
def cmpV (f : Int → Int → Bool) (g : Str → Str → Bool) : IV → IV → Option IV
  | .int i, .int j => some (.bl (f i j))
  | .str i, .str j => some (.bl (g i j))
  | _, _ => none
theorem cmpV_ok {f : Int → Int → Bool} {g : Str → Str → Bool} : OpS Θ (fun x y H Q => rI0 (fun i j => .bl (f i j)) x y H Q ∨ (∃ i j, x = .str i ∧ y = .str j ∧ Q (.bl (g i j)) H)) (cmpV f g) := by
  intro ρ s σ H x y xv yv z Q r rx ry e b
  unfold cmpV at e
  split at e
  · cases rx; cases ry; cases e; exact .inl ⟨_, _, rfl, rfl, b.now r (.bl _)⟩
  · cases rx; cases ry; cases e; exact .inr ⟨_, _, rfl, rfl, b.now r (.bl _)⟩
  · cases e
def ltV : IV → IV → Option IV := cmpV (fun i j => decide (i < j)) (fun i j => decide (i.cps.toList < j.cps.toList))
def leV : IV → IV → Option IV := cmpV (fun i j => decide (i ≤ j)) (fun i j => !decide (j.cps.toList < i.cps.toList))
def gtV : IV → IV → Option IV := cmpV (fun i j => decide (j < i)) (fun i j => decide (j.cps.toList < i.cps.toList))
def geV : IV → IV → Option IV := cmpV (fun i j => decide (j ≤ i)) (fun i j => !decide (i.cps.toList < j.cps.toList))
theorem op_ltV : OpR X (compareOp .Lt) (fun x y H Q => rI0 (fun i j => .bl (decide (i < j))) x y H Q ∨ (∃ i j, x = .str i ∧ y = .str j ∧ Q (.bl (decide (i.cps.toList < j.cps.toList))) H)) := op_lt.or op_lt_str
theorem op_leV : OpR X (compareOp .LtE) (fun x y H Q => rI0 (fun i j => .bl (decide (i ≤ j))) x y H Q ∨ (∃ i j, x = .str i ∧ y = .str j ∧ Q (.bl (!decide (j.cps.toList < i.cps.toList))) H)) := op_le.or op_le_str
theorem op_gtV : OpR X (compareOp .Gt) (fun x y H Q => rI0 (fun i j => .bl (decide (j < i))) x y H Q ∨ (∃ i j, x = .str i ∧ y = .str j ∧ Q (.bl (decide (j.cps.toList < i.cps.toList))) H)) := op_gt.or op_gt_str
theorem op_geV : OpR X (compareOp .GtE) (fun x y H Q => rI0 (fun i j => .bl (decide (j ≤ i))) x y H Q ∨ (∃ i j, x = .str i ∧ y = .str j ∧ Q (.bl (!decide (i.cps.toList < j.cps.toList))) H)) := op_ge.or op_ge_str

/-! ### is None -/
def isNB : IV → Bool
  | .non => true
  | _ => false
def isNV (x y : IV) : Option IV := match y with | .non => some (.bl (isNB x)) | _ => none
def notNV (x y : IV) : Option IV := match y with | .non => some (.bl (!isNB x)) | _ => none
theorem isN_of {w : Vw} {v : V} {x : IV} (h : RepV w v x) : decide (v = V.non) = isNB x := by
  cases h <;> simp [isNB]
theorem isNV_ok : OpS Θ (fun x y H Q => y = .non ∧ Q (.bl (decide (x = .non))) H) isNV := by
  intro ρ s σ H x y xv yv z Q r rx ry e b
  unfold isNV at e
  split at e
  · cases ry; cases e; exact ⟨rfl, by rw [isN_of rx]; exact b.now r (.bl _)⟩
  · cases e
theorem notNV_ok : OpS Θ (fun x y H Q => y = .non ∧ Q (.bl (!decide (x = .non))) H) notNV := by
  intro ρ s σ H x y xv yv z Q r rx ry e b
  unfold notNV at e
  split at e
  · cases ry; cases e; exact ⟨rfl, by rw [isN_of rx]; exact b.now r (.bl _)⟩
  · cases e

/-! ### == -/
mutual
def IV.pd : IV → Option PyData
  | .non => some .none
  | .bl b => some (.bool b)
  | .int i => some (.int i)
  | .str x => some (.str x)
  | .tup l => (pdL l).map .tuple
  | .fl l => (pdL l).map .list
  | _ => none
def pdL : List IV → Option (List PyData)
  | [] => some []
  | x :: r => match x.pd, pdL r with
    | some d, some ds => some (d :: ds)
    | _, _ => none
end
mutual
theorem pd_ok {w : Vw} : ∀ {x : IV} {v : V} {d : PyData}, RepV w v x → x.pd = some d → Dp w.K w.H v d
  | .non, _, _, .non, e => by cases e; exact .non
  | .bl b, _, _, .bl _, e => by cases e; exact .bl b
  | .int b, _, _, .int _, e => by cases e; exact .int b
  | .str b, _, _, .str _, e => by cases e; exact .str b
  | .tup l, _, d, .tup h1 h2, e => by
    unfold IV.pd at e
    cases q : pdL l with
    | none => rw [q] at e; cases e
    | some ds => rw [q] at e; cases e; exact .tup h1.sq (pdL_ok h2 q)
  | .fl l, _, d, .fl h1 h2, e => by
    unfold IV.pd at e
    cases q : pdL l with
    | none => rw [q] at e; cases e
    | some ds => rw [q] at e; cases e; exact .lst h1.sq (pdL_ok h2 q)
  | .fd, _, _, _, e => by simp [IV.pd] at e
  | .ref _, _, _, _, e => by simp [IV.pd] at e
  | .adr _, _, _, _, e => by simp [IV.pd] at e
  | .ty _, _, _, _, e => by simp [IV.pd] at e
  | .obj _ _, _, _, _, e => by simp [IV.pd] at e
theorem pdL_ok {w : Vw} : ∀ {l : List IV} {vs : List V} {ds : List PyData}, RepL w vs l → pdL l = some ds → DpAll w.K w.H vs ds
  | [], _, _, .nil, e => by cases e; exact .nil
  | x :: r, _, ds, .cons h t, e => by
    unfold pdL at e
    cases q1 : x.pd with
    | none => rw [q1] at e; simp at e
    | some d =>
      rw [q1] at e
      cases q2 : pdL r with
      | none => rw [q2] at e; simp at e
      | some ds' => rw [q2] at e; simp at e; subst e; exact .cons (pd_ok h q1) (pdL_ok t q2)
end
def eqB : IV → IV → Option Bool
  | .int a, .int b => some (a == b)
  | .str a, .str b => some (a == b)
  | .bl a, .bl b => some (a == b)
  | .non, .non => some true
  | x, y => match x.pd, y.pd with
    | some d, some e => if SeqAt.shaped d = true ∧ SeqAt.shaped e = true then some (PyData.eqv d e) else none
    | _, _ => none
def eqV (x y : IV) : Option IV := (eqB x y).map .bl
def neV (x y : IV) : Option IV := (eqB x y).map fun b => .bl (!b)
def rEqV' (K : PySem.W.Frag) : R2 := fun x y H Q => rEq x y H Q ∨ rEqD K x y H Q
def rNeV' (K : PySem.W.Frag) : R2 := fun x y H Q => rNe x y H Q ∨ rNeD K x y H Q
theorem eqB_ok {K : PySem.W.Frag} {w : Vw} (hK : w.K = K) {x y : IV} {v u : V} (rx : RepV w v x) (ry : RepV w u y) {b : Bool} (e : eqB x y = some b) :
    (scal v u = true ∧ decide (v = u) = b) ∨ ∃ d d', Dp K w.H v d ∧ Dp K w.H u d' ∧ SeqAt.shaped d = true ∧ SeqAt.shaped d' = true ∧ PyData.eqv d d' = b := by
  subst hK
  unfold eqB at e
  split at e
  · cases rx; cases ry; cases e; exact .inl ⟨rfl, dec_int⟩
  · cases rx; cases ry; cases e; exact .inl ⟨rfl, dec_str⟩
  · cases rx; cases ry; cases e; exact .inl ⟨rfl, dec_bl⟩
  · cases rx; cases ry; cases e; exact .inl ⟨rfl, by simp⟩
  · split at e
    · split at e
      · rename_i d d' q1 q2 sh
        cases e
        exact .inr ⟨d, d', pd_ok rx q1, pd_ok ry q2, sh.1, sh.2, rfl⟩
      · cases e
    · cases e
theorem eqV_ok {K : PySem.W.Frag} (hK : Θ.K = K) : OpS Θ (rEqV' K) eqV := by
  intro ρ s σ H x y xv yv z Q r rx ry e b
  unfold eqV at e
  cases q : eqB x y with
  | none => rw [q] at e; cases e
  | some k =>
    rw [q] at e; cases e
    rcases eqB_ok (K := K) hK rx ry q with ⟨h1, h2⟩ | ⟨d, d', h1, h2, h3, h4, h5⟩
    · exact .inl ⟨h1, by rw [h2]; exact b.now r (.bl _)⟩
    · exact .inr ⟨d, d', h1, h2, h3, h4, by rw [h5]; exact b.now r (.bl _)⟩
theorem neV_ok {K : PySem.W.Frag} (hK : Θ.K = K) : OpS Θ (rNeV' K) neV := by
  intro ρ s σ H x y xv yv z Q r rx ry e b
  unfold neV at e
  cases q : eqB x y with
  | none => rw [q] at e; cases e
  | some k =>
    rw [q] at e; cases e
    rcases eqB_ok (K := K) hK rx ry q with ⟨h1, h2⟩ | ⟨d, d', h1, h2, h3, h4, h5⟩
    · exact .inl ⟨h1, by rw [h2]; exact b.now r (.bl _)⟩
    · exact .inr ⟨d, d', h1, h2, h3, h4, by rw [h5]; exact b.now r (.bl _)⟩
theorem op_eqV' (hu : X.A.units + 64 < cLine) : OpR X (compareOp .Eq) (rEqV' X.K) := op_eq.or (op_eqD hu)
theorem op_neV' (hu : X.A.units + 64 < cLine) : OpR X (compareOp .NotEq) (rNeV' X.K) := op_ne.or (op_neD hu)

/-! ### x in a flat list or tuple -/
def flatI : IV → Bool
  | .non | .bl _ | .int _ | .str _ => true
  | _ => false
def eqI : IV → IV → Bool
  | .non, .non => true
  | .bl a, .bl b => a == b
  | .bl a, .int b => (if a then 1 else 0) == b
  | .int a, .bl b => a == (if b then 1 else 0)
  | .int a, .int b => a == b
  | .str a, .str b => a == b
  | _, _ => false
theorem flat_of {w : Vw} {v : V} {x : IV} (h : RepV w v x) (f : flatI x = true) : flatV v = true := by
  cases h <;> first | rfl | (exact absurd (show false = true from f) Bool.false_ne_true)
theorem flat_all {w : Vw} : ∀ {vs : List V} {l : List IV}, RepL w vs l → l.all flatI = true → vs.all flatV = true
  | _, _, .nil, _ => rfl
  | _, _, .cons h t, f => by
    simp only [List.all_cons, Bool.and_eq_true] at f ⊢
    exact ⟨flat_of h f.1, flat_all t f.2⟩
theorem eqI_of {w : Vw} {v u : V} {x y : IV} (h : RepV w v x) (h' : RepV w u y) (f : flatI x = true) (f' : flatI y = true) : L2.eqV v u = eqI x y := by
  cases h <;> first | (exact absurd (show false = true from f) Bool.false_ne_true) | (cases h' <;> first | rfl | (exact absurd (show false = true from f') Bool.false_ne_true))
theorem inI_of {w : Vw} {u : V} {y : IV} (h' : RepV w u y) (f' : flatI y = true) : ∀ {vs : List V} {l : List IV}, RepL w vs l → l.all flatI = true → inV u vs = l.any (fun x => eqI x y)
  | _, _, .nil, _ => rfl
  | _, _, .cons h t, f => by
    simp only [List.all_cons, Bool.and_eq_true] at f
    have := inI_of h' f' t f.2
    unfold inV at this ⊢
    rw [List.any_cons, List.any_cons, this, eqI_of h h' f.1 f']
def inB : IV → IV → Option Bool
  | x, .tup l => if flatI x = true ∧ l.all flatI = true then some (l.any fun y => eqI y x) else none
  | x, .fl l => if flatI x = true ∧ l.all flatI = true then some (l.any fun y => eqI y x) else none
  | _, _ => none
def inV' (x y : IV) : Option IV := (inB x y).map .bl
def ninV' (x y : IV) : Option IV := (inB x y).map fun b => .bl (!b)
theorem inB_ok {K : PySem.W.Frag} {w : Vw} (hK : w.K = K) {x y : IV} {v u : V} (rx : RepV w v x) (ry : RepV w u y) {b : Bool} (e : inB x y = some b) :
    ∃ p xs, u = .ref p ∧ (SqL K w.H p xs ∨ SqT K w.H p xs) ∧ flatV v = true ∧ xs.all flatV = true ∧ inV v xs = b := by
  subst hK
  unfold inB at e
  split at e
  · split at e
    · rename_i h; cases e
      cases ry with | tup h1 l1 =>
      exact ⟨_, _, rfl, .inr h1.sq, flat_of rx h.1, flat_all l1 h.2, inI_of rx h.1 l1 h.2⟩
    · cases e
  · split at e
    · rename_i h; cases e
      cases ry with | fl h1 l1 =>
      exact ⟨_, _, rfl, .inl h1.sq, flat_of rx h.1, flat_all l1 h.2, inI_of rx h.1 l1 h.2⟩
    · cases e
  · cases e
theorem inV_ok {K : PySem.W.Frag} (hK : Θ.K = K) : OpS Θ (rIn K false) inV' := by
  intro ρ s σ H x y xv yv z Q r rx ry e b
  unfold inV' at e
  cases q : inB x y with
  | none => rw [q] at e; cases e
  | some k =>
    rw [q] at e; cases e
    obtain ⟨p, xs, h1, h2, h3, h4, h5⟩ := inB_ok (K := K) hK rx ry q
    exact ⟨p, xs, h1, h2, h3, h4, by rw [if_neg Bool.false_ne_true, h5]; exact b.now r (.bl _)⟩
theorem ninV_ok {K : PySem.W.Frag} (hK : Θ.K = K) : OpS Θ (rIn K true) ninV' := by
  intro ρ s σ H x y xv yv z Q r rx ry e b
  unfold ninV' at e
  cases q : inB x y with
  | none => rw [q] at e; cases e
  | some k =>
    rw [q] at e; cases e
    obtain ⟨p, xs, h1, h2, h3, h4, h5⟩ := inB_ok (K := K) hK rx ry q
    exact ⟨p, xs, h1, h2, h3, h4, by rw [if_pos rfl, h5]; exact b.now r (.bl _)⟩
end
end Mi
set_option Elab.async false
set_option linter.all false
set_option maxRecDepth 100000
namespace Mi
open PySem L2 PyProof.Rows

variable {Θ : Fx} {ρ ρ' : List Addr} {s s' : S} {σ σ' : L2.St} {H H' : Hp} {X : Cx}

/-! ### tests -/
def boolOf : IV → M Bool
  | .bl b => M.pure b
  | _ => M.no
def mTst (m : M IV) : M Bool := M.bind m boolOf
def mIfB {α : Type} (t : M Bool) (a b : M α) : M α := M.bind t fun c => if c = true then a else b
def mNotT (t : M Bool) : M Bool := M.bind t fun c => M.pure (!c)
def mAndT (t u : M Bool) : M Bool := mIfB t u (M.pure false)
def mOrT (t u : M Bool) : M Bool := mIfB t (M.pure true) u
def mIfE (t : M Bool) (a b : M IV) : M IV := mIfB t a b
def mAndV (a b : M IV) : M IV := M.bind (mTst a) fun c => if c = true then b else M.pure (.bl false)
def mOrV (a b : M IV) : M IV := M.bind (mTst a) fun c => if c = true then M.pure (.bl true) else b
def mNotV (a : M IV) : M IV := M.bind (mTst a) fun c => M.pure (.bl (!c))
theorem Out.boolOf {x : IV} {Q : Bool → S → Prop} (h : Out Θ (boolOf x s) Q) : ∃ b, x = .bl b ∧ Q b s := by
  cases x <;> first | exact ⟨_, rfl, h⟩ | exact h.elim
theorem tst_of {t : TE} {m : M IV} {Q : Bool → Hp → Prop} (h : tT Θ (mTst m) σ H Q) (f : ∀ Q', tE Θ m σ H Q' → t σ H Q') : t σ H fun x H1 => ∃ k, x = .bl k ∧ Q k H1 := by
  refine f _ ((tM.bind (R := RepV) h).imp fun x H1 ⟨ρ1, s1, xi, r1, rx, o1⟩ => ?_)
  obtain ⟨b, e, q⟩ := o1.boolOf
  subst e
  cases rx
  exact ⟨b, rfl, q ρ1 H1 b r1.here rfl⟩
section
variable {a b c : Expr} {ma mb mc : M IV} {pos : Pos} {ta tb : M Bool}
theorem t_val (h : PE X a (tE Θ ma)) (he : ∀ whole, isTrue a X.env whole = (do let v ← whole; standAt a.pos; holding [v] (truthy v)) := by intro _; rfl) : PT X a (tT Θ (mTst ma)) :=
  ptLe (pt_val h he) fun σ H Q q => tst_of q fun _ z => z
theorem t_cmp {op : CmpOp} {r : R2} {f : IV → IV → Option IV} (ho : OpR X (compareOp op) r) (hr : OpS Θ r f) (ha : PE X a (tE Θ ma)) (hb : PE X b (tE Θ mb)) (hm : behindInMarks op b = false) : PT X (.Compare a [op] [b] pos) (tT Θ (mTst (mOp f ma mb))) :=
  ptLe (pt_cmpR ho ha hb hm) fun σ H Q q => tst_of q fun _ z => tE_op hr z
/-- a op b op' c -/
def mChain (f g : IV → IV → Option IV) (ma mb mc : M IV) : M IV := M.bind ma fun x => M.bind mb fun y => M.bind (M.opt (f x y)) fun z => match z with
  | .bl true => M.bind mc fun u => M.opt (g y u)
  | .bl false => M.pure (.bl false)
  | _ => M.no
theorem tE_chain {r r' : R2} {f g : IV → IV → Option IV} (hr : OpS Θ r f) (hr' : OpS Θ r' g) {Q : VK} (h : tE Θ (mChain f g ma mb mc) σ H Q) : tChain r r' (tE Θ ma) (tE Θ mb) (tE Θ mc) σ H Q := by
  refine (tM.bind (R := RepV) h).imp fun x H1 ⟨ρ1, s1, xi, r1, rx, o1⟩ => ?_
  refine ⟨ρ1, s1, r1, o1.bind.mono fun yi s2 q ρ2 H2 y st2 ry => ?_⟩
  have q := q.bind
  obtain ⟨z, e, q⟩ := q.opt
  refine hr ρ2 s2 σ H2 xi yi x y z _ st2.r (rx.mono st2.le) ry e fun H3 v g3 rv => ?_
  have st3 := st2.r.grow g3
  cases z with
  | bl k =>
    cases rv
    refine ⟨k, rfl, ?_⟩
    cases k with
    | true =>
      rw [if_pos rfl]
      refine ⟨ρ2, s2, st3.r, q.bind.mono fun ui s4 q4 ρ4 H4 u st4 ru => ?_⟩
      obtain ⟨z', e', q4⟩ := q4.opt
      exact hr' ρ4 s4 σ H4 yi ui y u z' Q st4.r ((ry.mono st3.le).mono st4.le) ru e' fun H5 v g5 rv => q4 ρ4 H5 v ((st2.trans (st3.trans st4)).trans (st4.r.grow g5)) rv
    | false =>
      rw [if_neg Bool.false_ne_true]
      exact q ρ2 H3 _ (st2.trans st3) (.bl _)
  | _ => exact q.elim
theorem e_chain {op op' : CmpOp} {r r' : R2} {f g : IV → IV → Option IV} (ho : OpR X (compareOp op) r) (hr : OpS Θ r f) (ho' : OpR X (compareOp op') r') (hr' : OpS Θ r' g) (ha : PE X a (tE Θ ma)) (hb : PE X b (tE Θ mb)) (hc : PE X c (tE Θ mc))
    (hm : lastMarks [op, op'] [b, c] = false := by with_unfolding_all rfl) : PE X (.Compare a [op, op'] [b, c] pos) (tE Θ (mChain f g ma mb mc)) := peLe (pe_chain ho ho' ha hb hc hm) fun _ _ _ h => tE_chain hr hr' h
theorem t_chain {op op' : CmpOp} {r r' : R2} {f g : IV → IV → Option IV} (ho : OpR X (compareOp op) r) (hr : OpS Θ r f) (ho' : OpR X (compareOp op') r') (hr' : OpS Θ r' g) (ha : PE X a (tE Θ ma)) (hb : PE X b (tE Θ mb)) (hc : PE X c (tE Θ mc))
    (hm : lastMarks [op, op'] [b, c] = false := by with_unfolding_all rfl) : PT X (.Compare a [op, op'] [b, c] pos) (tT Θ (mTst (mChain f g ma mb mc))) := ptLe (pt_chain ho ho' ha hb hc hm) fun σ H Q q => tst_of q fun _ z => tE_chain hr hr' z
/-- a branch by a test -/
theorem tM.ifB {α A : Type} {R : Vw → A → α → Prop} {t : M Bool} {ma mb : M α} {Q : A → Hp → Prop} (h : tM Θ R (mIfB t ma mb) σ H Q) : tT Θ t σ H fun c H1 => if c = true then tM Θ R ma σ H1 Q else tM Θ R mb σ H1 Q := by
  refine (tM.bind (R := fun _ b x => b = x) h).imp fun c H1 ⟨ρ1, s1, xi, r1, rx, o1⟩ => ?_
  subst rx
  cases c with
  | true => rw [if_pos rfl]; exact ⟨ρ1, s1, r1, o1⟩
  | false => rw [if_neg Bool.false_ne_true]; exact ⟨ρ1, s1, r1, o1⟩
theorem pureT {x : Bool} {Q : Bool → Hp → Prop} (h : tT Θ (M.pure x) σ H Q) : Q x H := by
  obtain ⟨ρ, s, r, o⟩ := h
  exact o ρ H x r.here rfl
theorem t_not (ha : PT X a (tT Θ ta)) : PT X (.UnaryOp .Not a pos) (tT Θ (mNotT ta)) := ptLe (pt_not ha) fun σ H Q q => by
  refine (tM.bind (R := fun _ b x => b = x) q).imp fun c H1 ⟨ρ1, s1, xi, r1, rx, o1⟩ => ?_
  subst rx
  exact o1 ρ1 H1 _ r1.here rfl
theorem pwLe {e : Expr} {t t' : TT} (h : PW X e t) (f : ∀ σ H Q, t' σ H Q → t σ H Q) : PW X e t' := ⟨fun wh pins s σ H Q I q => h.run wh pins s σ H Q I (f σ H Q q)⟩
theorem w_and1 (ha : PT X a (tT Θ ta)) : PW X (.BoolOp .And [a] pos) (tT Θ ta) := pw_and1 ha
theorem w_or1 (ha : PT X a (tT Θ ta)) : PW X (.BoolOp .Or [a] pos) (tT Θ ta) := pw_or1 ha
theorem w_and {rest : List Expr} (ha : PT X a (tT Θ ta)) (hb : PW X (.BoolOp .And (b :: rest) pos) (tT Θ tb)) : PW X (.BoolOp .And (a :: b :: rest) pos) (tT Θ (mAndT ta tb)) :=
  pwLe (pw_and ha hb) fun σ H Q q => (tM.ifB q).imp fun c H1 h => by
    cases c with
    | true => rw [if_pos rfl] at h ⊢; exact h
    | false => rw [if_neg Bool.false_ne_true] at h ⊢; exact pureT h
theorem w_or {rest : List Expr} (ha : PT X a (tT Θ ta)) (hb : PW X (.BoolOp .Or (b :: rest) pos) (tT Θ tb)) : PW X (.BoolOp .Or (a :: b :: rest) pos) (tT Θ (mOrT ta tb)) :=
  pwLe (pw_or ha hb) fun σ H Q q => (tM.ifB q).imp fun c H1 h => by
    cases c with
    | true => rw [if_pos rfl] at h ⊢; exact pureT h
    | false => rw [if_neg Bool.false_ne_true] at h ⊢; exact h
theorem e_ifExp (hc : PT X c (tT Θ ta)) (ha : PE X a (tE Θ ma)) (hb : PE X b (tE Θ mb)) : PE X (.IfExp c a b pos) (tE Θ (mIfE ta ma mb)) := peLe (pe_ifExp hc ha hb) fun σ H Q q => tM.ifB q
theorem e_one {op} (ha : PE X a (tE Θ ma)) : PE X (.BoolOp op [a] pos) (tE Θ ma) := pe_one ha
theorem tE_boolV {m : M IV} {k : Bool → M IV} {Q : VK} (h : tE Θ (M.bind (mTst m) k) σ H Q) : tE Θ m σ H fun x H1 => ∃ c, x = .bl c ∧ tE Θ (k c) σ H1 Q := by
  have e : M.bind (mTst m) k = M.bind m fun x => M.bind (boolOf x) k := by
    funext s
    show M.bind (M.bind m boolOf) k s = M.bind m (fun x => M.bind (boolOf x) k) s
    unfold M.bind
    cases m s <;> rfl
  rw [e] at h
  refine (tM.bind (R := RepV) h).imp fun x H1 ⟨ρ1, s1, xi, r1, rx, o1⟩ => ?_
  obtain ⟨b, e, q⟩ := o1.bind.boolOf
  subst e
  cases rx
  exact ⟨b, rfl, ρ1, s1, r1, q⟩
theorem pureE {x : IV} {v : V} {Q : VK} (h : tE Θ (M.pure x) σ H Q) (rv : ∀ w, RepV w v x) : Q v H := by
  obtain ⟨ρ, s, r, o⟩ := h
  exact o ρ H v r.here (rv _)
theorem e_and {rest : List Expr} (ha : PE X a (tE Θ ma)) (hb : PE X (.BoolOp .And (b :: rest) pos) (tE Θ mb)) : PE X (.BoolOp .And (a :: b :: rest) pos) (tE Θ (mAndV ma mb)) :=
  peLe (pe_and ha hb) fun σ H Q q => (tE_boolV q).imp fun x H1 ⟨c, e, h⟩ => ⟨c, e, by
    cases c with
    | true => rw [if_pos rfl] at h ⊢; exact h
    | false => rw [if_neg Bool.false_ne_true] at h ⊢; exact pureE h fun _ => .bl _⟩
theorem e_or {rest : List Expr} (ha : PE X a (tE Θ ma)) (hb : PE X (.BoolOp .Or (b :: rest) pos) (tE Θ mb)) : PE X (.BoolOp .Or (a :: b :: rest) pos) (tE Θ (mOrV ma mb)) :=
  peLe (pe_or ha hb) fun σ H Q q => (tE_boolV q).imp fun x H1 ⟨c, e, h⟩ => ⟨c, e, by
    cases c with
    | true => rw [if_pos rfl] at h ⊢; exact pureE h fun _ => .bl _
    | false => rw [if_neg Bool.false_ne_true] at h ⊢; exact h⟩
theorem e_not (ha : PE X a (tE Θ ma)) : PE X (.UnaryOp .Not a pos) (tE Θ (mNotV ma)) :=
  peLe (pe_not ha) fun σ H Q q => (tE_boolV q).imp fun x H1 ⟨c, e, h⟩ => ⟨c, e, pureE h fun _ => .bl _⟩

/-! ### arguments, displays -/
def mNil : M (List IV) := M.pure []
def mCons (m : M IV) (r : M (List IV)) : M (List IV) := M.bind m fun x => M.bind r fun l => M.pure (x :: l)
variable {es : List Expr} {mr : M (List IV)}
theorem a_nil : PA X [] (tA Θ mNil) := paLe pa_nil fun σ H Q ⟨ρ, s, r, o⟩ => o ρ H [] r.here .nil
theorem a_cons (ha : PE X a (tE Θ ma)) (hr : PA X es (tA Θ mr)) (hs : starEach (a :: es) X.env = (false, eval a X.env) :: starEach es X.env := by rfl) : PA X (a :: es) (tA Θ (mCons ma mr)) :=
  paLe (pa_cons ha hr hs) fun σ H Q q => (tM.bind (R := RepV) q).imp fun x H1 ⟨ρ1, s1, xi, r1, rx, o1⟩ =>
    ⟨ρ1, s1, r1, o1.bind.mono fun li s2 q2 ρ2 H2 l st2 rl => q2 ρ2 H2 _ st2 (.cons (rx.mono st2.le) rl)⟩
/-- an operation upon the arguments -/
def mAp (f : List IV → Option IV) (m : M (List IV)) : M IV := M.bind m fun l => M.opt (f l)
theorem tE_ap {r : List V → Hp → VK → Prop} {f : List IV → Option IV} (hr : CaS Θ r f) {Q : VK} (h : tE Θ (mAp f mr) σ H Q) : tA Θ mr σ H fun vs H1 => r vs H1 Q :=
  (tM.bind (R := RepL) h).imp fun vs H1 ⟨ρ1, s1, xi, r1, rx, o1⟩ => by
    obtain ⟨z, e, q⟩ := o1.opt
    exact hr ρ1 s1 σ H1 xi vs z Q r1 rx e fun H3 v g rv => q ρ1 H3 v (r1.grow g) rv
def lstV (l : List IV) : Option IV := if l.length ≤ szl then some (.fl l) else none
def tupV (l : List IV) : Option IV := if l.length ≤ szl then some (.tup l) else none
theorem e_lst (h : PA X es (tA Θ mr)) : PE X (.List es pos) (tE Θ (mAp lstV mr)) := peLe (pe_lst h) fun σ H Q q =>
  tE_ap (r := fun xs H1 Q => xs.length ≤ sizeLine ∧ ∀ p, H1 p = none → Q (.ref p) (upd H1 p (.lst xs))) (fun ρ s σ H xs vs z Q r rx e b => by
    unfold lstV at e
    split at e
    · cases e; rename_i hz
      exact ⟨by rw [rx.length]; exact le_szl hz, fun p hp => b.fl r hp rx⟩
    · cases e) q
theorem e_tup {k} (h : PA X es (tA Θ mr)) : PE X (.Tuple es k pos) (tE Θ (mAp tupV mr)) := peLe (pe_tup h) fun σ H Q q =>
  tE_ap (r := fun xs H1 Q => xs.length ≤ sizeLine ∧ ∀ p, H1 p = none → Q (.ref p) (upd H1 p (.tup xs))) (fun ρ s σ H xs vs z Q r rx e b => by
    unfold tupV at e
    split at e
    · cases e; rename_i hz
      exact ⟨by rw [rx.length]; exact le_szl hz, fun p hp => b.tup r hp rx⟩
    · cases e) q
/-- built-ins -/
theorem e_callB {id : String} {x : Str} {p : Pos} {r : List V → Hp → VK → Prop} {f : List IV → Option IV} {e : Expr} (hc : CallR X (.builtin id) r) (hr : CaS Θ r f) (hg : Gl X x) (hm : X.mg x = none) (hv : bootBuiltins x = some (.builtin id)) (ha : PA X (e :: es) (tA Θ mr)) (hn : x ≠ "__name__" := by decide) (hdb : (x == ("__debug__" : Str)) = false := by decide)
    (he : starEach (e :: es) X.env = (false, eval e X.env) :: starEach es X.env := by rfl) (hpl : (backTo pos (starEach es X.env)).any (·.1) = false := by rfl) : PE X (.Call (.Name x p) (e :: es) [] pos) (tE Θ (mAp f mr)) :=
  peLe (pe_callB hc hg hm hv ha hn hdb he hpl) fun _ _ _ q => tE_ap hr q
theorem e_callTy {T : String} {x : Str} {p : Pos} {r : List V → Hp → VK → Prop} {f : List IV → Option IV} {e : Expr} (hc : CallR X (.type T) r) (hr : CaS Θ r f) (hg : Gl X x) (hm : X.mg x = none) (hv : bootBuiltins x = some (.type T)) (ha : PA X (e :: es) (tA Θ mr)) (hn : x ≠ "__name__" := by decide) (hdb : (x == ("__debug__" : Str)) = false := by decide)
    (he : starEach (e :: es) X.env = (false, eval e X.env) :: starEach es X.env := by rfl) (hpl : (backTo pos (starEach es X.env)).any (·.1) = false := by rfl) : PE X (.Call (.Name x p) (e :: es) [] pos) (tE Θ (mAp f mr)) :=
  peLe (pe_callTy hc hg hm hv ha hn hdb he hpl) fun _ _ _ q => tE_ap hr q
end
end Mi
set_option Elab.async false
set_option linter.all false
set_option maxRecDepth 100000
namespace Mi
open PySem L2 PyProof.Rows

variable {Θ : Fx} {ρ ρ' : List Addr} {s s' : S} {σ σ' : L2.St} {H H' : Hp} {X : Cx} {K : PySem.W.Frag}

/-! ### subscripts -/
theorem atI_rep {w : Vw} {vs : List V} {l : List IV} (h : RepL w vs l) {i : Int} {x : IV} (e : atI l i = some x) : ∃ v, atI vs i = some v ∧ RepV w v x := by
  unfold atI at e ⊢
  rw [h.length]
  cases q : ixN l.length i with
  | none => rw [q] at e; cases e
  | some j => rw [q] at e; exact h.get e
def ixV : IV → IV → Option IV
  | .fl l, .int i => atI l i
  | .tup l, .int i => atI l i
  | .str z, .int i => if z.length ≤ szl then (atI z.cps.toList i).map fun c => .str ⟨#[c]⟩ else none
  | _, _ => none
theorem ixV_ok (hK : Θ.K = K) : OpS Θ (rIx K) ixV := by
  intro ρ s σ H x y xv yv z Q r rx ry e b
  subst hK
  unfold ixV at e
  split at e
  · cases rx with | fl h1 l1 =>
    cases ry
    obtain ⟨v, e2, rv⟩ := atI_rep l1 e
    exact .inl ⟨_, _, _, v, rfl, rfl, h1.sq, e2, b.now r rv⟩
  · cases rx with | tup h1 l1 =>
    cases ry
    obtain ⟨v, e2, rv⟩ := atI_rep l1 e
    exact .inr (.inl ⟨_, _, _, v, rfl, rfl, h1.sq, e2, b.now r rv⟩)
  · rename_i zz i
    cases rx; cases ry
    split at e
    · rename_i hz
      cases q : atI zz.cps.toList i with
      | none => rw [q] at e; cases e
      | some c => rw [q] at e; cases e; exact .inr (.inr ⟨_, _, c, rfl, rfl, le_szl hz, q, b.now r (.str _)⟩)
    · cases e
  · cases e

/-! ### slices -/
def mPart (m : M IV) : M (Option Int) := M.bind m fun x => match x with
  | .int i => M.pure (some i)
  | _ => M.no
def mNoPart : M (Option Int) := M.pure none
abbrev tO (Θ : Fx) (m : M (Option Int)) : TO := tM Θ (A := Option Int) (fun _ a x => a = x) m
theorem poLe {X : Cx} {e : Option Expr} {t t' : TO} (h : PO X e t) (f : ∀ σ H Q, t' σ H Q → t σ H Q) : PO X e t' := ⟨fun pins s σ H Q I q => h.run pins s σ H Q I (f σ H Q q)⟩
section
variable {a b c : Expr} {ma mb mc : M IV} {pos p2 : Pos} {lo hi : Option Expr} {ml mh : M (Option Int)} {mr : M (List IV)} {es : List Expr}
theorem o_none : PO X none (tO Θ mNoPart) := poLe po_none fun σ H Q ⟨ρ, s, r, o⟩ => o ρ H none r.here rfl
theorem o_some (ha : PE X a (tE Θ ma)) : PO X (some a) (tO Θ (mPart ma)) := poLe (po_some ha) fun σ H Q q =>
  (tM.bind (R := RepV) q).imp fun x H1 ⟨ρ1, s1, xi, r1, rx, o1⟩ => by
    cases rx <;> first | exact o1.elim | exact ⟨_, rfl, o1 ρ1 H1 _ r1.here rfl⟩
def cutL {α : Type} (xs : List α) (lo hi : Option Int) : List α := (xs.drop (HT.sIx xs.length 0 lo)).take (HT.sIx xs.length xs.length hi - HT.sIx xs.length 0 lo)
theorem cut_rep {w : Vw} {vs : List V} {l : List IV} (h : RepL w vs l) (lo hi : Option Int) : RepL w (cutV vs lo hi) (cutL l lo hi) := by
  unfold cutV cutL
  rw [h.length]
  exact (h.drop _).take _
def slV (x : IV) (lo hi : Option Int) : Option IV := match x with
  | .fl l => some (.fl (cutL l lo hi))
  | .tup l => some (.tup (cutL l lo hi))
  | .str z => if z.length ≤ szl then some (.str (cutS z lo hi)) else none
  | _ => none
def mSl (m : M IV) (ml mh : M (Option Int)) : M IV := M.bind m fun x => M.bind ml fun l => M.bind mh fun h => M.opt (slV x l h)
def rSlV (K : PySem.W.Frag) : V → Option Int → Option Int → Hp → VK → Prop := fun x lo hi H Q => (rSlL K x lo hi H Q ∨ rSlA K x lo hi H Q) ∨ rSlS x lo hi H Q
theorem sl_V : SlR X (rSlV X.K) := (sl_list.or sl_tupA).or sl_str
theorem slV_ok (hK : Θ.K = K) {x : IV} {lo hi : Option Int} {xv : V} {z : IV} {Q : VK} (r : StR Θ ρ s σ H) (rx : RepV (vw Θ ρ s.env σ H) xv x) (e : slV x lo hi = some z) (b : Back Θ ρ s σ H z Q) : rSlV K xv lo hi H Q := by
  subst hK
  unfold slV at e
  split at e
  · cases rx with | fl h1 l1 =>
    cases e
    exact .inl (.inl ⟨_, _, rfl, h1.sq, fun p hp => b.fl r hp (cut_rep l1 lo hi)⟩)
  · cases rx with | tup h1 l1 =>
    cases e
    have cr := cut_rep l1 lo hi
    refine .inl (.inr ⟨_, _, rfl, h1.sq, fun hw => ?_, fun _ p hp => b.tup r hp cr⟩)
    have e1 : ∀ ys : List V, (HT.sIx ys.length 0 lo = 0 ∧ HT.sIx ys.length ys.length hi = ys.length) → cutV ys lo hi = ys := fun ys hw => by
      unfold cutV
      rw [hw.1, hw.2, List.drop_zero, Nat.sub_zero, List.take_length]
    rw [e1 _ hw] at cr
    exact b.now r (.tup h1 cr)
  · split at e
    · cases rx; cases e; rename_i hz; exact .inr ⟨_, rfl, le_szl hz, b.now r (.str _)⟩
    · cases e
  · cases e
theorem e_slice (hK : Θ.K = X.K) (ha : PE X a (tE Θ ma)) (hl : PO X lo (tO Θ ml)) (hh : PO X hi (tO Θ mh)) : PE X (.Subscript a (.Slice lo hi none p2) pos) (tE Θ (mSl ma ml mh)) :=
  peLe (pe_slice sl_V ha hl hh) fun σ H Q q => (tM.bind (R := RepV) q).imp fun x H1 ⟨ρ1, s1, xi, r1, rx, o1⟩ =>
    ⟨ρ1, s1, r1, o1.bind.mono fun l s2 q2 ρ2 H2 l' st2 rl => by
      subst rl
      exact ⟨ρ2, s2, st2.r, q2.bind.mono fun h s3 q3 ρ3 H3 h' st3 rh => by
        subst rh
        obtain ⟨z, e, q3⟩ := q3.opt
        exact slV_ok hK st3.r ((rx.mono st2.le).mono st3.le) e fun H4 v g rv => q3 ρ3 H4 v ((st2.trans st3).trans (st3.r.grow g)) rv⟩⟩
/-- xs[::-1] -/
def revV : IV → Option IV
  | .fl l => some (.fl l.reverse)
  | _ => none
theorem e_rev {k : Nat} {p1 p3 : Pos} (hK : Θ.K = X.K) (ha : PE X a (tE Θ ma)) : PE X (.Subscript a (.Slice none none (some (.UnaryOp .USub (.Constant (.int 1) k p1) p2)) p3) pos) (tE Θ (mUn revV ma)) :=
  peLe (pe_revL ha) fun σ H Q q => (tM.bind (R := RepV) q).imp fun x H1 ⟨ρ1, s1, xi, r1, rx, o1⟩ => by
    obtain ⟨z, e, q⟩ := o1.opt
    unfold revV at e
    split at e
    · cases rx with | fl h1 l1 =>
      cases e
      have b : Back Θ ρ1 s1 σ H1 _ Q := fun H3 v g rv => q ρ1 H3 v (r1.grow g) rv
      exact ⟨_, _, rfl, by rw [← hK]; exact h1.sq, fun p hp => b.fl r1 hp l1.reverse⟩
    · cases e

/-! ### built-ins by values -/
def lenV : List IV → Option IV
  | [.fl l] => some (.int l.length)
  | [.tup l] => some (.int l.length)
  | [.str z] => if z.length ≤ szl then some (.int z.length) else none
  | _ => none
def rLen (K : PySem.W.Frag) : List V → Hp → VK → Prop := fun xs H Q => (∃ p ys, xs = [.ref p] ∧ (SqL K H p ys ∨ SqT K H p ys) ∧ Q (.int ys.length) H) ∨ ∃ z, xs = [.str z] ∧ z.length ≤ sizeLine ∧ Q (.int z.length) H
theorem call_lenV : CallR X (.builtin "len") (rLen X.K) := call_len_seq.or call_len_str
theorem rep1 {w : Vw} {vs : List V} {x : IV} (h : RepL w vs [x]) : ∃ v, vs = [v] ∧ RepV w v x := by
  cases h with | cons h t => cases t; exact ⟨_, rfl, h⟩
theorem rep2 {w : Vw} {vs : List V} {x y : IV} (h : RepL w vs [x, y]) : ∃ v u, vs = [v, u] ∧ RepV w v x ∧ RepV w u y := by
  cases h with | cons h t => cases t with | cons h' t => cases t; exact ⟨_, _, rfl, h, h'⟩
theorem lenV_ok (hK : Θ.K = K) : CaS Θ (rLen K) lenV := by
  intro ρ s σ H xs vs z Q r rx e b
  subst hK
  unfold lenV at e
  split at e
  · obtain ⟨v, rfl, rv⟩ := rep1 rx; cases e
    cases rv with | fl h1 l1 =>
    exact .inl ⟨_, _, rfl, .inl h1.sq, by rw [l1.length]; exact b.now r (.int _)⟩
  · obtain ⟨v, rfl, rv⟩ := rep1 rx; cases e
    cases rv with | tup h1 l1 =>
    exact .inl ⟨_, _, rfl, .inr h1.sq, by rw [l1.length]; exact b.now r (.int _)⟩
  · obtain ⟨v, rfl, rv⟩ := rep1 rx
    split at e
    · cases e; rename_i hz; cases rv; exact .inr ⟨_, rfl, le_szl hz, b.now r (.int _)⟩
    · cases e
  · cases e
def intsOf : List IV → Option (List Int)
  | [] => some []
  | .int i :: r => (intsOf r).map (i :: ·)
  | _ => none
theorem intsOf_rep {w : Vw} : ∀ {vs : List V} {l : List IV} {ns : List Int}, RepL w vs l → intsOf l = some ns → vs = ns.map V.int
  | _, [], _, .nil, e => by cases e; rfl
  | _, x :: l, ns, .cons h t, e => by
    cases x <;> simp only [intsOf] at e <;> first | (cases e; done) | skip
    rename_i i
    cases q : intsOf l with
    | none => rw [q] at e; cases e
    | some ms => rw [q] at e; cases e; cases h; rw [intsOf_rep t q]; rfl
def boolsOf : List IV → Option (List Bool)
  | [] => some []
  | .bl i :: r => (boolsOf r).map (i :: ·)
  | _ => none
theorem boolsOf_rep {w : Vw} : ∀ {vs : List V} {l : List IV} {ns : List Bool}, RepL w vs l → boolsOf l = some ns → vs = ns.map V.bl
  | _, [], _, .nil, e => by cases e; rfl
  | _, x :: l, ns, .cons h t, e => by
    cases x <;> simp only [boolsOf] at e <;> first | (cases e; done) | skip
    rename_i i
    cases q : boolsOf l with
    | none => rw [q] at e; cases e
    | some ms => rw [q] at e; cases e; cases h; rw [boolsOf_rep t q]; rfl
def strsOf : List IV → Option (List Str)
  | [] => some []
  | .str i :: r => (strsOf r).map (i :: ·)
  | _ => none
theorem strsOf_rep {w : Vw} : ∀ {vs : List V} {l : List IV} {ns : List Str}, RepL w vs l → strsOf l = some ns → vs = ns.map V.str
  | _, [], _, .nil, e => by cases e; rfl
  | _, x :: l, ns, .cons h t, e => by
    cases x <;> simp only [strsOf] at e <;> first | (cases e; done) | skip
    rename_i i
    cases q : strsOf l with
    | none => rw [q] at e; cases e
    | some ms => rw [q] at e; cases e; cases h; rw [strsOf_rep t q]; rfl
def sumV : List IV → Option IV
  | [.fl l] => (intsOf l).map fun ns => .int ns.sum
  | _ => none
theorem sumV_ok (hK : Θ.K = K) : CaS Θ (rSum K) sumV := by
  intro ρ s σ H xs vs z Q r rx e b
  subst hK
  unfold sumV at e
  split at e
  · rename_i l
    obtain ⟨v, rfl, rv⟩ := rep1 rx
    cases rv with | fl h1 l1 =>
    cases q : intsOf l with
    | none => rw [q] at e; cases e
    | some ns =>
      rw [q] at e; cases e
      have := intsOf_rep l1 q; subst this
      exact ⟨_, ns, rfl, h1.sq, b.now r (.int _)⟩
  · cases e
def allV : List IV → Option IV
  | [.fl l] => (boolsOf l).map fun ns => .bl (ns.all id)
  | _ => none
def anyV : List IV → Option IV
  | [.fl l] => (boolsOf l).map fun ns => .bl (ns.any id)
  | _ => none
theorem allV_ok (hK : Θ.K = K) : CaS Θ (rAll K) allV := by
  intro ρ s σ H xs vs z Q r rx e b
  subst hK
  unfold allV at e
  split at e
  · rename_i l
    obtain ⟨v, rfl, rv⟩ := rep1 rx
    cases rv with | fl h1 l1 =>
    cases q : boolsOf l with
    | none => rw [q] at e; cases e
    | some ns =>
      rw [q] at e; cases e
      have := boolsOf_rep l1 q; subst this
      exact ⟨_, ns, rfl, h1.sq, b.now r (.bl _)⟩
  · cases e
theorem anyV_ok (hK : Θ.K = K) : CaS Θ (rAny K) anyV := by
  intro ρ s σ H xs vs z Q r rx e b
  subst hK
  unfold anyV at e
  split at e
  · rename_i l
    obtain ⟨v, rfl, rv⟩ := rep1 rx
    cases rv with | fl h1 l1 =>
    cases q : boolsOf l with
    | none => rw [q] at e; cases e
    | some ns =>
      rw [q] at e; cases e
      have := boolsOf_rep l1 q; subst this
      exact ⟨_, ns, rfl, h1.sq, b.now r (.bl _)⟩
  · cases e
/-- max(a, b), max([..]) -/
def maxL : List Int → Int → Int
  | [], m => m
  | x :: r, m => maxL r (if x > m then x else m)
def minL : List Int → Int → Int
  | [], m => m
  | x :: r, m => minL r (if x < m then x else m)
theorem maxL_ge : ∀ (l : List Int) (m : Int), m ≤ maxL l m
  | [], m => Int.le_refl _
  | x :: r, m => Int.le_trans (by split <;> omega) (maxL_ge r _)
theorem maxL_all : ∀ (l : List Int) (m y : Int), y ∈ l → y ≤ maxL l m
  | x :: r, m, y, h => by
    rcases List.mem_cons.mp h with e | h
    · subst e; exact Int.le_trans (by split <;> omega) (maxL_ge r _)
    · exact maxL_all r _ y h
theorem maxL_mem : ∀ (l : List Int) (m : Int), maxL l m = m ∨ maxL l m ∈ l
  | [], m => .inl rfl
  | x :: r, m => by
    rcases maxL_mem r (if x > m then x else m) with h | h
    · by_cases q : x > m
      · rw [if_pos q] at h; right; show maxL r (if x > m then x else m) ∈ _; rw [if_pos q, h]; exact List.mem_cons_self
      · rw [if_neg q] at h; left; show maxL r (if x > m then x else m) = _; rw [if_neg q]; exact h
    · right; exact List.mem_cons_of_mem _ h
theorem minL_le : ∀ (l : List Int) (m : Int), minL l m ≤ m
  | [], m => Int.le_refl _
  | x :: r, m => Int.le_trans (minL_le r _) (by split <;> omega)
theorem minL_all : ∀ (l : List Int) (m y : Int), y ∈ l → minL l m ≤ y
  | x :: r, m, y, h => by
    rcases List.mem_cons.mp h with e | h
    · subst e; exact Int.le_trans (minL_le r _) (by split <;> omega)
    · exact minL_all r _ y h
theorem minL_mem : ∀ (l : List Int) (m : Int), minL l m = m ∨ minL l m ∈ l
  | [], m => .inl rfl
  | x :: r, m => by
    rcases minL_mem r (if x < m then x else m) with h | h
    · by_cases q : x < m
      · rw [if_pos q] at h; right; show minL r (if x < m then x else m) ∈ _; rw [if_pos q, h]; exact List.mem_cons_self
      · rw [if_neg q] at h; left; show minL r (if x < m then x else m) = _; rw [if_neg q]; exact h
    · right; exact List.mem_cons_of_mem _ h
def maxV : List IV → Option IV
  | [.int i, .int j] => some (.int (if j > i then j else i))
  | [.fl l] => match intsOf l with
    | some (m :: r) => some (.int (maxL r m))
    | _ => none
  | _ => none
def minV : List IV → Option IV
  | [.int i, .int j] => some (.int (if j < i then j else i))
  | [.fl l] => match intsOf l with
    | some (m :: r) => some (.int (minL r m))
    | _ => none
  | _ => none
def rMaxV (K : PySem.W.Frag) : List V → Hp → VK → Prop := fun xs H Q => (∃ i j, xs = [.int i, .int j] ∧ Q (.int (if j > i then j else i)) H) ∨ rMax K xs H Q
def rMinV (K : PySem.W.Frag) : List V → Hp → VK → Prop := fun xs H Q => (∃ i j, xs = [.int i, .int j] ∧ Q (.int (if j < i then j else i)) H) ∨ rMin K xs H Q
theorem call_maxV (hc : X.calm = true) : CallR X (.builtin "max") (rMaxV X.K) := (call_max2 hc).or (cr_max hc)
theorem call_minV (hc : X.calm = true) : CallR X (.builtin "min") (rMinV X.K) := (call_min2 hc).or (cr_min hc)
theorem maxV_ok (hK : Θ.K = K) : CaS Θ (rMaxV K) maxV := by
  intro ρ s σ H xs vs z Q r rx e b
  subst hK
  unfold maxV at e
  split at e
  · obtain ⟨v, u, rfl, rv, ru⟩ := rep2 rx; cases e; cases rv; cases ru
    exact .inl ⟨_, _, rfl, b.now r (.int _)⟩
  · obtain ⟨v, rfl, rv⟩ := rep1 rx
    cases rv with | fl h1 l1 =>
    split at e
    · rename_i m ms q
      cases e
      have := intsOf_rep l1 q; subst this
      refine .inr ⟨_, _, rfl, h1.sq, Nat.succ_pos _, fun k hk hle => ?_⟩
      have : k = maxL ms m := by
        have h3 : maxL ms m ∈ m :: ms := by
          rcases maxL_mem ms m with h | h
          · rw [h]; exact List.mem_cons_self
          · exact List.mem_cons_of_mem _ h
        have h2 := hle _ h3
        rcases List.mem_cons.mp hk with h | h
        · have := maxL_ge ms m; omega
        · have := maxL_all ms m k h; omega
      subst this
      exact b.now r (.int _)
    · cases e
  · cases e
theorem minV_ok (hK : Θ.K = K) : CaS Θ (rMinV K) minV := by
  intro ρ s σ H xs vs z Q r rx e b
  subst hK
  unfold minV at e
  split at e
  · obtain ⟨v, u, rfl, rv, ru⟩ := rep2 rx; cases e; cases rv; cases ru
    exact .inl ⟨_, _, rfl, b.now r (.int _)⟩
  · obtain ⟨v, rfl, rv⟩ := rep1 rx
    cases rv with | fl h1 l1 =>
    split at e
    · rename_i m ms q
      cases e
      have := intsOf_rep l1 q; subst this
      refine .inr ⟨_, _, rfl, h1.sq, Nat.succ_pos _, fun k hk hle => ?_⟩
      have : k = minL ms m := by
        have h3 : minL ms m ∈ m :: ms := by
          rcases minL_mem ms m with h | h
          · rw [h]; exact List.mem_cons_self
          · exact List.mem_cons_of_mem _ h
        have h2 := hle _ h3
        rcases List.mem_cons.mp hk with h | h
        · have := minL_le ms m; omega
        · have := minL_all ms m k h; omega
      subst this
      exact b.now r (.int _)
    · cases e
  · cases e
def intV : List IV → Option IV
  | [.int i] => some (.int i)
  | [.bl b] => some (.int (if b then 1 else 0))
  | _ => none
theorem intV_ok : CaS Θ (fun xs H Q => (∃ i, xs = [.int i] ∧ Q (.int i) H) ∨ ∃ k, xs = [.bl k] ∧ Q (.int (if k then 1 else 0)) H) intV := by
  intro ρ s σ H xs vs z Q r rx e b
  unfold intV at e
  split at e
  · obtain ⟨v, rfl, rv⟩ := rep1 rx; cases e; cases rv; exact .inl ⟨_, rfl, b.now r (.int _)⟩
  · obtain ⟨v, rfl, rv⟩ := rep1 rx; cases e; cases rv; exact .inr ⟨_, rfl, b.now r (.int _)⟩
  · cases e
/-- list(x), tuple(x) of a sequence -/
def listV : List IV → Option IV
  | [.fl l] => some (.fl l)
  | [.tup l] => some (.fl l)
  | _ => none
theorem listV_ok (hK : Θ.K = K) : CaS Θ (fun xs H Q => ∃ p ys, xs = [.ref p] ∧ (SqL K H p ys ∨ SqT K H p ys) ∧ ∀ l, H l = none → Q (.ref l) (upd H l (.lst ys))) listV := by
  intro ρ s σ H xs vs z Q r rx e b
  subst hK
  unfold listV at e
  split at e
  · obtain ⟨v, rfl, rv⟩ := rep1 rx; cases e
    cases rv with | fl h1 l1 => exact ⟨_, _, rfl, .inl h1.sq, fun p hp => b.fl r hp l1⟩
  · obtain ⟨v, rfl, rv⟩ := rep1 rx; cases e
    cases rv with | tup h1 l1 => exact ⟨_, _, rfl, .inr h1.sq, fun p hp => b.fl r hp l1⟩
  · cases e
def tupleV : List IV → Option IV
  | [.fl l] => some (.tup l)
  | [.tup l] => some (.tup l)
  | _ => none
theorem tupleV_ok (hK : Θ.K = K) : CaS Θ (fun xs H Q => ∃ p ys, xs = [.ref p] ∧ ((SqL K H p ys ∧ ∀ l, H l = none → Q (.ref l) (upd H l (.tup ys))) ∨ (SqT K H p ys ∧ Q (.ref p) H))) tupleV := by
  intro ρ s σ H xs vs z Q r rx e b
  subst hK
  unfold tupleV at e
  split at e
  · obtain ⟨v, rfl, rv⟩ := rep1 rx; cases e
    cases rv with | fl h1 l1 => exact ⟨_, _, rfl, .inl ⟨h1.sq, fun p hp => b.tup r hp l1⟩⟩
  · obtain ⟨v, rfl, rv⟩ := rep1 rx; cases e
    cases rv with | tup h1 l1 => exact ⟨_, _, rfl, .inr ⟨h1.sq, b.now r (.tup h1 l1)⟩⟩
  · cases e

/-! ### isinstance of a built-in type -/
def isB (T : String) : IV → Option Bool := fun x => match T with
  | "int" => match x with | .int _ | .bl _ => some true | .non | .str _ | .tup _ | .fl _ => some false | _ => none
  | "bool" => match x with | .bl _ => some true | .non | .int _ | .str _ | .tup _ | .fl _ => some false | _ => none
  | "str" => match x with | .str _ => some true | .non | .int _ | .bl _ | .tup _ | .fl _ => some false | _ => none
  | "tuple" => match x with | .tup _ => some true | .non | .int _ | .bl _ | .str _ | .fl _ => some false | _ => none
  | "list" => match x with | .fl _ => some true | .non | .int _ | .bl _ | .str _ | .tup _ => some false | _ => none
  | "dict" => match x with | .non | .int _ | .bl _ | .str _ | .tup _ | .fl _ => some false | _ => none
  | _ => none
theorem ty_lst {w : Vw} {a : Addr} {xs : List V} (h : FzL w a xs) : TyX w.K w.H (.ref a) (.type "list") := by
  rcases h with ⟨o, its, n, e, c, _⟩ | ⟨o, e, h | ⟨b, h⟩, _⟩
  · exact .kList e c
  · subst h; exact .base (.lst e)
  · subst h; exact .base (.frz e)
theorem ty_tup {w : Vw} {a : Addr} {xs : List V} (h : FzT w a xs) : TyX w.K w.H (.ref a) (.type "tuple") := by
  exact .base (.tup h.1)
def isiV : List IV → Option IV
  | [x, .ty T] => (isB T x).map .bl
  | _ => none
theorem isiV_ok (hK : Θ.K = K) : CaS Θ (rIsi K) isiV := by
  intro ρ s σ H xs vs z Q r rx e b
  subst hK
  unfold isiV at e
  split at e
  · rename_i x T
    obtain ⟨v, u, rfl, rv, ru⟩ := rep2 rx
    cases ru
    cases q : isB T x with
    | none => rw [q] at e; cases e
    | some k =>
      rw [q] at e; cases e
      have fin : ∀ t, TyX Θ.K H v t → PySem.W.kitOne Θ.K t (.type T) = some k → rIsi Θ.K [v, .ty T] H Q := fun t ty kk => ⟨v, .ty T, t, .type T, k, rfl, .ty T, ty, kk, b.now r (.bl _)⟩
      unfold isB at q
      split at q <;> first | (cases q; done) | (cases rv <;> dsimp only at q <;> first
        | (cases q; done)
        | (cases q; first
            | exact fin (.type "NoneType") (.base .non) rfl
            | exact fin (.type "bool") (.base (.bl _)) rfl
            | exact fin (.type "int") (.base (.int _)) rfl
            | exact fin (.type "str") (.base (.str _)) rfl
            | exact fin (.type "tuple") (ty_tup (by assumption)) rfl
            | exact fin (.type "list") (ty_lst (by assumption)) rfl))
  · cases e
/-- isinstance of an own class: facts of the class -/
structure IsC (K : PySem.W.Frag) (C : Addr) (cs : List Addr) : Prop where
  no : ∀ T ∈ (["NoneType", "bool", "int", "str", "tuple", "list"] : List String), PySem.W.kitOne K (.type T) (.ref C) = some false
  cl : ∀ c ∈ cs, Cls K c ∧ PySem.W.findIn K (.ref c) "__class__" = some (some (.builtin "object.__class__")) ∧ PySem.W.mroIn K c (.type "object") = some true ∧ PySem.W.kitOne K (.ref c) (.ref C) = some (decide (c = C))
  hn : PySem.W.specialIn K (.builtin "object.__class__") "__get__" = some (some (.builtin "getset_descriptor.__get__"))
  tk : PySem.W.takesIn K (.builtin "object.__class__") = some true
def isiC (C : Addr) (cs : List Addr) : List IV → Option IV
  | [.obj c _, .adr C'] => if C' = C ∧ c ∈ cs then some (.bl (decide (c = C))) else none
  | [.non, .adr C'] | [.bl _, .adr C'] | [.int _, .adr C'] | [.str _, .adr C'] | [.tup _, .adr C'] | [.fl _, .adr C'] => if C' = C then some (.bl false) else none
  | _ => none
theorem isiC_ok {C : Addr} {cs : List Addr} (hK : Θ.K = K) (F : IsC K C cs) : CaS Θ (rIsi K) (isiC C cs) := by
  intro ρ s σ H xs vs z Q r rx e b
  subst hK
  have fin : ∀ {k : Bool} {v : V}, z = .bl k → ∀ t, TyX Θ.K H v t → PySem.W.kitOne Θ.K t (.ref C) = some k → rIsi Θ.K [v, .ref C] H Q := fun {k v} hz t ty kk => ⟨v, .ref C, t, .ref C, k, rfl, .own C, ty, kk, b.now r (by rw [hz]; exact .bl _)⟩
  unfold isiC at e
  split at e
  · obtain ⟨v, u, rfl, rv, ru⟩ := rep2 rx
    split at e
    · rename_i hc; obtain ⟨rfl, hc⟩ := hc
      cases e
      cases ru
      cases rv with | obj h1 h2 h3 =>
      obtain ⟨a1, a2, a3, a4⟩ := F.cl _ hc
      exact fin rfl _ (.base (.ins h1 a1 a2 F.hn F.tk a3)) a4
    · cases e
  all_goals first
    | (cases e; done)
    | (obtain ⟨v, u, rfl, rv, ru⟩ := rep2 rx
       split at e
       · rename_i hc; subst hc
         cases e
         cases ru
         cases rv <;> first
           | exact fin rfl (.type "NoneType") (.base .non) (F.no _ (by decide))
           | exact fin rfl (.type "bool") (.base (.bl _)) (F.no _ (by decide))
           | exact fin rfl (.type "int") (.base (.int _)) (F.no _ (by decide))
           | exact fin rfl (.type "str") (.base (.str _)) (F.no _ (by decide))
           | exact fin rfl (.type "tuple") (ty_tup (by assumption)) (F.no _ (by decide))
           | exact fin rfl (.type "list") (ty_lst (by assumption)) (F.no _ (by decide))
       · cases e)
end
end Mi
set_option Elab.async false
set_option linter.all false
set_option maxRecDepth 100000
namespace Mi
open PySem L2 PyProof.Rows

variable {Θ : Fx} {ρ ρ' : List Addr} {s s' : S} {σ σ' : L2.St} {H H' : Hp} {X : Cx} {K : PySem.W.Frag}

/-! ### slots change -/
def isOwn : Slot → Bool
  | .own _ => true
  | .ins _ _ => true
  | _ => false
theorem own_iff {o : Option Slot} : ((∃ l, o = some (.own l)) ∨ ∃ c fs, o = some (.ins c fs)) ↔ ∃ x, o = some x ∧ isOwn x = true := by
  constructor
  · rintro (⟨l, e⟩ | ⟨c, fs, e⟩)
    · exact ⟨_, e, rfl⟩
    · exact ⟨_, e, rfl⟩
  · rintro ⟨x, e, h⟩
    cases x with
    | own l => exact .inl ⟨l, e⟩
    | ins c fs => exact .inr ⟨c, fs, e⟩
    | _ => cases h
/-- the values in the slots may be told of a lesser set of addresses that change, where the heap is as it was -/
theorem vw_less {env env' : List Slot} (h : ∀ a, Ow σ' env' a → Ow σ env a) : Vw.Le (vw Θ ρ env σ H) (vw Θ ρ env' σ' H) :=
  ⟨rfl, fun _ _ e => e, fun a o e n => ⟨e, fun q => n (q.imp id fun z => z.imp (h a) id)⟩⟩
/-- slot i takes a value (or is forgotten) -/
theorem StR.setVal (r : StR Θ ρ s σ H) {i : Nat} {v : V} {x : IV} (hv : RepV (vw Θ ρ s.env σ H) v x) : Stp Θ ρ s σ H ρ { s with env := s.env.set i (.val x) } (σ.set i (some v)) H := by
  have hO : ∀ a, Ow (σ.set i (some v)) (s.env.set i (.val x)) a → Ow σ s.env a := fun a ⟨j, h1, h2⟩ => by
    rw [own_iff] at h2
    obtain ⟨y, e, hy⟩ := h2
    by_cases hj : i = j
    · subst hj
      rw [List.getElem?_set_self'] at e
      cases q : s.env[i]? with
      | none => rw [q] at e; cases e
      | some z => rw [q] at e; cases e; cases hy
    · rw [List.getElem?_set_ne hj] at e h1
      exact ⟨j, h1, own_iff.mpr ⟨y, e, hy⟩⟩
  have le : Vw.Le (vw Θ ρ s.env σ H) (vw Θ ρ (s.env.set i (.val x)) (σ.set i (some v)) H) := vw_less hO
  refine ⟨⟨by simp [r.len], r.slen, fun j y e => ?_, fun j a o e1 e2 => ?_, r.nd, fun a h => r.sep a (hO a h), fun j k a h1 h2 h3 h4 => ?_, fun a h => ⟨(r.fo a h).1, (r.fo a h).2.1, fun q => (r.fo a h).2.2 (hO a q)⟩, r.base.trans le, r.fkeep, fun j c fs q => by
    by_cases hj : i = j
    · subst hj
      have q : (s.env.set i (.val x))[i]? = some (.ins c fs) := q
      rw [List.getElem?_set_self'] at q
      cases z : s.env[i]? with
      | none => rw [z] at q; cases q
      | some y => rw [z] at q; cases q
    · have q : (s.env.set i (.val x))[j]? = some (.ins c fs) := q
      rw [List.getElem?_set_ne hj] at q ⊢
      exact r.self j c fs q⟩, le⟩
  · by_cases hj : i = j
    · subst hj
      have hi : i < s.env.length := by
        have := (List.getElem?_eq_some_iff.mp e).1
        simpa using this
      have e' : (s.env.set i (.val x))[i]? = some (.val x) := by simp [hi]
      have e'' : y = .val x := by
        have : some y = some (Slot.val x) := e.symm.trans e'
        exact Option.some.inj this
      subst e''
      exact ⟨v, by simp [r.len, hi], hv.mono le⟩
    · have e' : s.env[j]? = some y := by
        have : (s.env.set i (.val x))[j]? = some y := e
        rwa [List.getElem?_set_ne hj] at this
      have q := r.slot j y e'
      have hσ : (σ.set i (some v))[j]? = σ[j]? := List.getElem?_set_ne hj
      rw [hσ]
      cases y with
      | emp => trivial
      | val z => obtain ⟨u, h1, h2⟩ := q; exact ⟨u, h1, h2.mono le⟩
      | own l => obtain ⟨a, vs, h1, h2, h3⟩ := q; exact ⟨a, vs, h1, h2, h3.mono le⟩
      | ins c fs => obtain ⟨a, dx, gs, h1, h2, h3⟩ := q; exact ⟨a, dx, gs, h1, h2, h3.mono le⟩
  · have q := r.obj j a o e1 e2
    cases o with
    | lst l => obtain ⟨vs, h2, h3⟩ := q; exact ⟨vs, h2, h3.mono le⟩
    | dk kvs => obtain ⟨vs, h2, h3⟩ := q; exact ⟨vs, h2, h3.mono le⟩
    | dt kvs => obtain ⟨vs, h2, h3⟩ := q; exact ⟨vs, h2, h3.mono le⟩
    | ins c fs => obtain ⟨dx, gs, h2, h3⟩ := q; exact ⟨dx, gs, h2, h3.mono le⟩
  · have down : ∀ m : Nat, (σ.set i (some v))[m]? = some (some (.ref a)) → ((∃ l, (s.env.set i (.val x))[m]? = some (.own l)) ∨ ∃ c fs, (s.env.set i (.val x))[m]? = some (.ins c fs)) →
        σ[m]? = some (some (.ref a)) ∧ ((∃ l, s.env[m]? = some (.own l)) ∨ ∃ c fs, s.env[m]? = some (.ins c fs)) := fun m q1 q2 => by
      rw [own_iff] at q2
      obtain ⟨y, e, hy⟩ := q2
      by_cases hm : i = m
      · subst hm
        rw [List.getElem?_set_self'] at e
        cases q : s.env[i]? with
        | none => rw [q] at e; cases e
        | some z => rw [q] at e; cases e; cases hy
      · rw [List.getElem?_set_ne hm] at e q1
        exact ⟨q1, own_iff.mpr ⟨y, e, hy⟩⟩
    obtain ⟨a1, a2⟩ := down j h1 h3
    obtain ⟨b1, b2⟩ := down k h2 h4
    exact r.one j k a a1 b1 a2 b2
/-- the object of slot i is written anew, or a new object comes to it -/
theorem StR.setOwn (r : StR Θ ρ s σ H) {i : Nat} {p : Addr} {vs : List V} {l : List IV} (hp : H p = none ∨ (σ[i]? = some (some (.ref p)) ∧ ∃ l0, s.env[i]? = some (.own l0)))
    (hl : RepL (vw Θ ρ s.env σ H) vs l) : Stp Θ ρ s σ H ρ { s with env := s.env.set i (.own l) } (σ.set i (some (.ref p))) (upd H p (.lst vs)) := by
  have pE : ∀ a, a ≠ p → upd H p (.lst vs) a = H a := fun a h => upd_ne h
  have pO : ∀ a o, H a = some o → a = p → Ow σ s.env a := fun a o e z => by
    subst z
    rcases hp with hp | ⟨h1, l0, h2⟩
    · rw [hp] at e; cases e
    · exact ⟨i, h1, .inl ⟨l0, h2⟩⟩
  -- the owned slots of the new state: those of the old but i, and i with p
  have hO : ∀ a, Ow (σ.set i (some (.ref p))) (s.env.set i (.own l)) a → a = p ∨ (∃ j : Nat, j ≠ i ∧ σ[j]? = some (some (.ref a)) ∧ ∃ y, s.env[j]? = some y ∧ isOwn y = true) := fun a ⟨j, h1, h2⟩ => by
    rw [own_iff] at h2
    obtain ⟨y, e, hy⟩ := h2
    by_cases hj : i = j
    · subst hj
      rw [List.getElem?_set_self'] at h1
      cases q : σ[i]? with
      | none => rw [q] at h1; cases h1
      | some z => rw [q] at h1; cases h1; exact .inl rfl
    · rw [List.getElem?_set_ne hj] at e h1
      exact .inr ⟨j, fun z => hj z.symm, h1, y, e, hy⟩
  have hO' : ∀ a, Ow (σ.set i (some (.ref p))) (s.env.set i (.own l)) a → a = p ∨ Ow σ s.env a := fun a h => (hO a h).imp id fun ⟨j, _, h1, y, h2, h3⟩ => ⟨j, h1, own_iff.mpr ⟨y, h2, h3⟩⟩
  have pnew : ∀ a, (a ∈ ρ ∨ Θ.F a) → a ≠ p := fun a h z => by
    subst z
    rcases hp with hp | ⟨h1, l0, h2⟩
    · obtain ⟨o, e⟩ := r.tracked (a := a) (h.imp id .inr)
      rw [hp] at e; cases e
    · have ow : Ow σ s.env a := ⟨i, h1, .inl ⟨l0, h2⟩⟩
      rcases h with h | h
      · exact r.sep a ow h
      · exact (r.fo a h).2.2 ow
  have le : Vw.Le (vw Θ ρ s.env σ H) (vw Θ ρ (s.env.set i (.own l)) (σ.set i (some (.ref p))) (upd H p (.lst vs))) := by
    refine ⟨rfl, fun _ _ e => e, fun a o e n => ?_⟩
    have hap : a ≠ p := fun z => n (.inr (.inl (pO a o e z)))
    refine ⟨(pE a hap).trans e, fun q => n ?_⟩
    rcases q with q | q | q
    · exact .inl q
    · rcases hO' a q with z | z
      · exact absurd z hap
      · exact .inr (.inl z)
    · exact .inr (.inr q)
  have oth : ∀ (j : Nat) (y : Slot) (a : Addr), i ≠ j → s.env[j]? = some y → isOwn y = true → σ[j]? = some (some (.ref a)) → a ≠ p := fun j y a hj e hy h1 z => by
    subst z
    rcases hp with hp | ⟨h2, l0, h3⟩
    · obtain ⟨o, q⟩ := r.tracked (a := a) (.inr (.inl ⟨j, h1, own_iff.mpr ⟨y, e, hy⟩⟩))
      rw [hp] at q; cases q
    · exact hj (r.one i j a h2 h1 (.inl ⟨l0, h3⟩) (own_iff.mpr ⟨y, e, hy⟩))
  refine ⟨⟨by simp [r.len], r.slen, fun j y e => ?_, fun j a o e1 e2 => ?_, r.nd, fun a h => ?_, fun j k a h1 h2 h3 h4 => ?_, fun a h => ?_, r.base.trans le, fun a o f q => ?_, fun j c fs q => by
    by_cases hj : i = j
    · subst hj
      have q : (s.env.set i (.own l))[i]? = some (.ins c fs) := q
      rw [List.getElem?_set_self'] at q
      cases z : s.env[i]? with
      | none => rw [z] at q; cases q
      | some y => rw [z] at q; cases q
    · have q : (s.env.set i (.own l))[j]? = some (.ins c fs) := q
      rw [List.getElem?_set_ne hj] at q ⊢
      exact r.self j c fs q⟩, le⟩
  · by_cases hj : i = j
    · subst hj
      have hi : i < s.env.length := by
        have := (List.getElem?_eq_some_iff.mp e).1
        simpa using this
      have e' : (s.env.set i (.own l))[i]? = some (.own l) := by simp [hi]
      have e'' : y = .own l := Option.some.inj (e.symm.trans e')
      subst e''
      exact ⟨p, vs, by simp [r.len, hi], upd_same, hl.mono le⟩
    · have e' : s.env[j]? = some y := by
        have : (s.env.set i (.own l))[j]? = some y := e
        rwa [List.getElem?_set_ne hj] at this
      have q := r.slot j y e'
      have hσ : (σ.set i (some (.ref p)))[j]? = σ[j]? := List.getElem?_set_ne hj
      rw [hσ]
      cases y with
      | emp => trivial
      | val z => obtain ⟨u, h1, h2⟩ := q; exact ⟨u, h1, h2.mono le⟩
      | own l => obtain ⟨a, us, h1, h2, h3⟩ := q; exact ⟨a, us, h1, (pE a (oth j _ a hj e' rfl h1)).trans h2, h3.mono le⟩
      | ins c fs => obtain ⟨a, dx, gs, h1, h2, h3⟩ := q; exact ⟨a, dx, gs, h1, (pE a (oth j _ a hj e' rfl h1)).trans h2, h3.mono le⟩
  · have q := r.obj j a o e1 e2
    have hap : a ≠ p := pnew a (.inl (List.mem_of_getElem? e1))
    cases o with
    | lst l => obtain ⟨vs', h2, h3⟩ := q; exact ⟨vs', (pE a hap).trans h2, h3.mono le⟩
    | dk kvs => obtain ⟨vs', h2, h3⟩ := q; exact ⟨vs', (pE a hap).trans h2, h3.mono le⟩
    | dt kvs => obtain ⟨vs', h2, h3⟩ := q; exact ⟨vs', (pE a hap).trans h2, h3.mono le⟩
    | ins c fs => obtain ⟨dx, gs, h2, h3⟩ := q; exact ⟨dx, gs, (pE a hap).trans h2, h3.mono le⟩
  · rcases hO' a h with z | z
    · exact fun q => pnew a (.inl q) z
    · exact r.sep a z
  · have down : ∀ m : Nat, (σ.set i (some (.ref p)))[m]? = some (some (.ref a)) → ((∃ l', (s.env.set i (.own l))[m]? = some (.own l')) ∨ ∃ c fs, (s.env.set i (.own l))[m]? = some (.ins c fs)) →
        (m = i ∧ a = p) ∨ (m ≠ i ∧ a ≠ p ∧ σ[m]? = some (some (.ref a)) ∧ ((∃ l, s.env[m]? = some (.own l)) ∨ ∃ c fs, s.env[m]? = some (.ins c fs))) := fun m q1 q2 => by
      rw [own_iff] at q2
      obtain ⟨y, e, hy⟩ := q2
      by_cases hm : i = m
      · subst hm
        rw [List.getElem?_set_self'] at q1
        cases q : σ[i]? with
        | none => rw [q] at q1; cases q1
        | some z => rw [q] at q1; cases q1; exact .inl ⟨rfl, rfl⟩
      · rw [List.getElem?_set_ne hm] at e q1
        exact .inr ⟨fun z => hm z.symm, oth m y a hm e hy q1, q1, own_iff.mpr ⟨y, e, hy⟩⟩
    rcases down j h1 h3 with ⟨j1, a1⟩ | ⟨j1, a1, j2, j3⟩
    · rcases down k h2 h4 with ⟨k1, a2⟩ | ⟨k1, a2, k2, k3⟩
      · rw [j1, k1]
      · exact absurd a1 a2
    · rcases down k h2 h4 with ⟨k1, a2⟩ | ⟨k1, a2, k2, k3⟩
      · exact absurd a2 a1
      · exact r.one j k a j2 k2 j3 k3
  · obtain ⟨⟨o, e⟩, n1, n2⟩ := r.fo a h
    have hap : a ≠ p := pnew a (.inr h)
    refine ⟨⟨o, (pE a hap).trans e⟩, n1, fun q => ?_⟩
    rcases hO' a q with z | z
    · exact hap z
    · exact n2 z
  · exact (pE a (pnew a (.inr f))).trans (r.fkeep a o f q)
/-- slot i's own list is from now on a value -/
theorem StR.freeze (r : StR Θ ρ s σ H) {i : Nat} {l : List IV} (e : s.env[i]? = some (.own l)) : Stp Θ ρ s σ H ρ { s with env := s.env.set i (.val (.fl l)) } σ H := by
  obtain ⟨p, vs, h1, h2, h3⟩ := r.slot i _ e
  have h2 : H p = some (.lst vs) := h2
  have hO : ∀ a, Ow σ (s.env.set i (.val (.fl l))) a → a ≠ p ∧ Ow σ s.env a := fun a ⟨j, q1, q2⟩ => by
    rw [own_iff] at q2
    obtain ⟨y, e', hy⟩ := q2
    by_cases hj : i = j
    · subst hj
      rw [List.getElem?_set_self', e] at e'
      cases e'; cases hy
    · rw [List.getElem?_set_ne hj] at e'
      refine ⟨fun z => ?_, ⟨j, q1, own_iff.mpr ⟨y, e', hy⟩⟩⟩
      subst z
      exact hj (r.one i j a h1 q1 (.inl ⟨l, e⟩) (own_iff.mpr ⟨y, e', hy⟩))
  have ow : Ow σ s.env p := ⟨i, h1, .inl ⟨l, e⟩⟩
  have le : Vw.Le (vw Θ ρ s.env σ H) (vw Θ ρ (s.env.set i (.val (.fl l))) σ H) := vw_less fun a h => (hO a h).2
  have free : ¬ (vw Θ ρ (s.env.set i (.val (.fl l))) σ H).L p := fun q => by
    rcases q with q | q | q
    · exact r.sep p ow q
    · exact (hO p q).1 rfl
    · exact (r.fo p q).2.2 ow
  refine ⟨⟨by simp [r.len], r.slen, fun j y e' => ?_, fun j a o e1 e2 => ?_, r.nd, fun a h => r.sep a (hO a h).2, fun j k a q1 q2 q3 q4 => ?_, fun a h => ⟨(r.fo a h).1, (r.fo a h).2.1, fun q => (r.fo a h).2.2 (hO a q).2⟩, r.base.trans le, r.fkeep, fun j c fs q => by
    by_cases hj : i = j
    · subst hj
      have q : (s.env.set i (.val (.fl l)))[i]? = some (.ins c fs) := q
      rw [List.getElem?_set_self', e] at q
      cases q
    · have q : (s.env.set i (.val (.fl l)))[j]? = some (.ins c fs) := q
      rw [List.getElem?_set_ne hj] at q
      exact r.self j c fs q⟩, le⟩
  · by_cases hj : i = j
    · subst hj
      have e2 : (s.env.set i (.val (.fl l)))[i]? = some (.val (.fl l)) := by rw [List.getElem?_set_self', e]; rfl
      have e3 : y = .val (.fl l) := Option.some.inj (e'.symm.trans e2)
      subst e3
      exact ⟨_, h1, .fl (.inr ⟨_, h2, .inl rfl, free⟩) (h3.mono le)⟩
    · have e2 : s.env[j]? = some y := by
        have : (s.env.set i (.val (.fl l)))[j]? = some y := e'
        rwa [List.getElem?_set_ne hj] at this
      have q := r.slot j y e2
      cases y with
      | emp => trivial
      | val z => obtain ⟨u, h1, h2⟩ := q; exact ⟨u, h1, h2.mono le⟩
      | own l => obtain ⟨a, us, h1, h2, h3⟩ := q; exact ⟨a, us, h1, h2, h3.mono le⟩
      | ins c fs => obtain ⟨a, dx, gs, h1, h2, h3⟩ := q; exact ⟨a, dx, gs, h1, h2, h3.mono le⟩
  · have q := r.obj j a o e1 e2
    cases o with
    | lst l => obtain ⟨vs, h2, h3⟩ := q; exact ⟨vs, h2, h3.mono le⟩
    | dk kvs => obtain ⟨vs, h2, h3⟩ := q; exact ⟨vs, h2, h3.mono le⟩
    | dt kvs => obtain ⟨vs, h2, h3⟩ := q; exact ⟨vs, h2, h3.mono le⟩
    | ins c fs => obtain ⟨dx, gs, h2, h3⟩ := q; exact ⟨dx, gs, h2, h3.mono le⟩
  · have down : ∀ m : Nat, ((∃ l', (s.env.set i (.val (.fl l)))[m]? = some (.own l')) ∨ ∃ c fs, (s.env.set i (.val (.fl l)))[m]? = some (.ins c fs)) → ((∃ l, s.env[m]? = some (.own l)) ∨ ∃ c fs, s.env[m]? = some (.ins c fs)) := fun m q2 => by
      rw [own_iff] at q2
      obtain ⟨y, e', hy⟩ := q2
      by_cases hm : i = m
      · subst hm
        rw [List.getElem?_set_self', e] at e'
        cases e'; cases hy
      · rw [List.getElem?_set_ne hm] at e'
        exact own_iff.mpr ⟨y, e', hy⟩
    exact r.one j k a q1 q2 (down j q3) (down k q4)
end Mi
set_option Elab.async false
set_option linter.all false
set_option maxRecDepth 100000
namespace Mi
open PySem L2 PyProof.Rows

variable {Θ : Fx} {ρ ρ' : List Addr} {s s' : S} {σ σ' : L2.St} {H H' : Hp} {X : Cx} {K : PySem.W.Frag}

/-! ### statements -/
inductive Flw where
  | nx | rt (v : IV) | bk | ct
def FlwR (w : Vw) (D : Ends) (σ : L2.St) (H : Hp) : Flw → Prop
  | .nx => D.nx σ H
  | .bk => D.bk σ H
  | .ct => D.ct σ H
  | .rt x => ∀ v, RepV w v x → D.rt v H
def tS (Θ : Fx) (m : M Flw) : TS := fun D σ H => ∃ ρ s, StR Θ ρ s σ H ∧ Out Θ (m s) fun f s' => ∀ ρ' σ' H', Stp Θ ρ s σ H ρ' s' σ' H' → FlwR (vw Θ ρ' s'.env σ' H') D σ' H' f
def mNx : M Flw := M.pure .nx
def mSeq (a b : M Flw) : M Flw := M.bind a fun f => match f with
  | .nx => b
  | f => M.pure f
def setE (i : Nat) (x : Slot) (s : S) : S := { s with env := s.env.set i x }
def mSet (i : Nat) (m : M IV) : M Flw := M.bind m fun v s => .ok .nx (setE i (.val v) s)
def mRet (m : M IV) : M Flw := M.bind m fun v => M.pure (.rt v)
def mRetN : M Flw := M.pure (.rt .non)
def mDrop (m : M IV) : M Flw := M.bind m fun _ => mNx
def mIf (t : M Bool) (a b : M Flw) : M Flw := mIfB t a b
def mBrk : M Flw := M.pure .bk
def mCnt : M Flw := M.pure .ct
def mNever : M Flw := M.no
theorem pureS {f : Flw} {D : Ends} (h : tS Θ (M.pure f) D σ H) : ∃ w, FlwR w D σ H f := by
  obtain ⟨ρ, s, r, o⟩ := h
  exact ⟨_, o ρ σ H r.here⟩
/-- the first part of two, the first an expression's (or a test's) -/
theorem tS.bind {α A : Type} {R : Vw → A → α → Prop} {m : M α} {k : α → M Flw} {D : Ends} (h : tS Θ (M.bind m k) D σ H) :
    tM Θ R m σ H fun a H1 => ∃ ρ s x, StR Θ ρ s σ H1 ∧ R (vw Θ ρ s.env σ H1) a x ∧ Out Θ (k x s) fun f s' => ∀ ρ' σ' H', Stp Θ ρ s σ H1 ρ' s' σ' H' → FlwR (vw Θ ρ' s'.env σ' H') D σ' H' f := by
  obtain ⟨ρ, s, r, o⟩ := h
  exact ⟨ρ, s, r, o.bind.mono fun x s' q ρ' H' a st rr => ⟨ρ', s', x, st.r, rr, q.mono fun y s2 q2 ρ2 σ2 H2 st2 => q2 ρ2 σ2 H2 (st.trans st2)⟩⟩
theorem tS.seq {a b : M Flw} {D : Ends} (h : tS Θ (mSeq a b) D σ H) : tS Θ a { D with nx := tS Θ b D } σ H := by
  obtain ⟨ρ, s, r, o⟩ := h
  refine ⟨ρ, s, r, o.bind.mono fun f s1 q ρ1 σ1 H1 st1 => ?_⟩
  cases f with
  | nx => exact ⟨ρ1, s1, st1.r, q.mono fun f s2 q2 ρ2 σ2 H2 st2 => q2 ρ2 σ2 H2 (st1.trans st2)⟩
  | rt v => exact fun u ru => q ρ1 σ1 H1 st1 u ru
  | bk => exact q ρ1 σ1 H1 st1
  | ct => exact q ρ1 σ1 H1 st1
section
variable {a b c e : Expr} {ma mb mc : M IV} {pos : Pos} {mr : M (List IV)} {es : List Expr} {st : Stmt} {rest : List Stmt} {m n : M Flw} {t : M Bool}
theorem ss_nil : PSs X [] (tS Θ mNx) := pssLe pss_nil fun D σ H h => let ⟨_, q⟩ := pureS h; q
theorem ss_cons (h1 : PS X st (tS Θ m)) (h2 : PSs X rest (tS Θ n)) : PSs X (st :: rest) (tS Θ (mSeq m n)) := pssLe (pss_cons h1 h2) fun D σ H h => h.seq
theorem ss_one (h1 : PS X st (tS Θ m)) : PSs X [st] (tS Θ m) := pss_one h1
theorem s_pass : PS X (.Pass pos) (tS Θ mNx) := psLe ps_pass fun D σ H h => let ⟨_, q⟩ := pureS h; q
theorem s_break : PS X (.Break pos) (tS Θ mBrk) := psLe ps_break fun D σ H h => let ⟨_, q⟩ := pureS h; q
theorem s_continue : PS X (.Continue pos) (tS Θ mCnt) := psLe ps_continue fun D σ H h => let ⟨_, q⟩ := pureS h; q
theorem s_never : PS X st (tS Θ mNever) := psLe ps_never fun D σ H ⟨ρ, s, r, o⟩ => o.elim
theorem ss_never : PSs X rest (tS Θ mNever) := pssLe pss_never fun D σ H ⟨ρ, s, r, o⟩ => o.elim
theorem s_ret (he : PE X e (tE Θ ma)) : PS X (.Return (some e) pos) (tS Θ (mRet ma)) := psLe (ps_ret he) fun D σ H h =>
  (tS.bind (R := RepV) h).imp fun v H1 ⟨ρ1, s1, x, r1, rx, o⟩ => o ρ1 σ H1 r1.here v rx
theorem s_retN : PS X (.Return none pos) (tS Θ mRetN) := psLe ps_retN fun D σ H h => let ⟨_, q⟩ := pureS h; q _ .non
theorem s_drop (he : PE X e (tE Θ ma)) (hs : swapsWith e none pos.line X.env = pure false := by rfl) : PS X (.Expr e pos) (tS Θ (mDrop ma)) := psLe (ps_expr he hs) fun D σ H h =>
  (tS.bind (R := RepV) h).imp fun v H1 ⟨ρ1, s1, x, r1, rx, o⟩ => o ρ1 σ H1 r1.here
theorem s_if {as bs : List Stmt} (hc : PT X c (tT Θ t)) (ha : PSs X as (tS Θ m)) (hb : PSs X bs (tS Θ n)) : PS X (.If c as bs pos) (tS Θ (mIf t m n)) := psLe (ps_if hc ha hb) fun D σ H h =>
  (tS.bind (R := fun _ b x => b = x) h).imp fun v H1 ⟨ρ1, s1, x, r1, rx, o⟩ => by
    subst rx
    cases v with
    | true => rw [if_pos rfl] at o ⊢; exact ⟨ρ1, s1, r1, o⟩
    | false => rw [if_neg Bool.false_ne_true] at o ⊢; exact ⟨ρ1, s1, r1, o⟩
theorem tS_set {i : Nat} {te : TE} {D : Ends} (f : ∀ σ H Q, tE Θ ma σ H Q → te σ H Q) (h : tS Θ (mSet i ma) D σ H) : tAsg te (gName i) D σ H :=
  f _ _ _ ((tS.bind (R := RepV) h).imp fun v H1 ⟨ρ1, s1, x, r1, rx, o⟩ => o ρ1 _ H1 (r1.setVal rx))
theorem s_set {i : Nat} {x : Str} {pos' : Pos} (hN : X.N.Nodup) (hi : X.N[i]? = some x) (hx : Loc X.env.scope x) (he : PE X e (tE Θ ma)) (hs : swapsWith e (some (.Name x pos')) pos.line X.env = pure false := by rfl) (hf : X.fn x = true ∨ X.env.scope.names.lookup x = some .local := by first | exact .inl rfl | exact .inr rfl | assumption) :
    PS X (.Assign [.Name x pos'] e pos) (tS Θ (mSet i ma)) := psLe (ps_set hN hi hx he hs hf) fun D σ H h => tS_set (fun _ _ _ q => q) h

/-! ### new lists, own to a slot -/
def tNw (Θ : Fx) (m : M (List IV)) : TE := fun σ H Q => ∃ ρ s, StR Θ ρ s σ H ∧ Out Θ (m s) fun l s' => ∀ ρ' H0 p vs, Stp Θ ρ s σ H ρ' s' σ H0 → H0 p = none → RepL (vw Θ ρ' s'.env σ H0) vs l → Q (.ref p) (upd H0 p (.lst vs))
def mFl (m : M (List IV)) : M IV := M.bind m fun l => M.pure (.fl l)
def mOwn (i : Nat) (m : M (List IV)) : M Flw := M.bind m fun l s => .ok .nx (setE i (.own l) s)
def mApL (f : List IV → Option (List IV)) (m : M (List IV)) : M (List IV) := M.bind m fun l => M.opt (f l)
theorem tNw_fl {m : M (List IV)} {Q : VK} (h : tE Θ (mFl m) σ H Q) : tNw Θ m σ H Q := by
  obtain ⟨ρ, s, r, o⟩ := h
  refine ⟨ρ, s, r, o.bind.mono fun l s' q ρ' H0 p vs st hp rl => ?_⟩
  obtain ⟨st2, n⟩ := st.r.laid (o := .lst vs) hp
  exact q ρ' _ _ (st.trans st2) (.fl (.inr ⟨_, upd_same, .inl rfl, n⟩) (rl.mono st2.le))
theorem e_new {m : M (List IV)} (he : PE X e (tNw Θ m)) : PE X e (tE Θ (mFl m)) := peLe he fun _ _ _ h => tNw_fl h
theorem tS_own {i : Nat} {m : M (List IV)} {te : TE} {D : Ends} (f : ∀ σ H Q, tNw Θ m σ H Q → te σ H Q) (h : tS Θ (mOwn i m) D σ H) : tAsg te (gName i) D σ H := by
  obtain ⟨ρ, s, r, o⟩ := h
  refine f _ _ _ ⟨ρ, s, r, o.bind.mono fun l s1 q ρ1 H0 p vs st hp rl => ?_⟩
  exact q ρ1 _ _ (st.trans (st.r.setOwn (.inl hp) rl))
theorem s_own {i : Nat} {x : Str} {pos' : Pos} {ml : M (List IV)} (hN : X.N.Nodup) (hi : X.N[i]? = some x) (hx : Loc X.env.scope x) (he : PE X e (tNw Θ ml)) (hs : swapsWith e (some (.Name x pos')) pos.line X.env = pure false := by rfl) (hf : X.fn x = true ∨ X.env.scope.names.lookup x = some .local := by first | exact .inl rfl | exact .inr rfl | assumption) :
    PS X (.Assign [.Name x pos'] e pos) (tS Θ (mOwn i ml)) := psLe (ps_set hN hi hx he hs hf) fun D σ H h => tS_own (fun _ _ _ q => q) h
def szL (l : List IV) : Option (List IV) := if l.length ≤ szl then some l else none
theorem n_lst (h : PA X es (tA Θ mr)) : PE X (.List es pos) (tNw Θ (mApL szL mr)) := peLe (pe_lst h) fun σ H Q ⟨ρ, s, r, o⟩ =>
  ⟨ρ, s, r, o.bind.mono fun l s1 q ρ1 H1 vs st rl => by
    obtain ⟨z, e, q⟩ := q.opt
    unfold szL at e
    split at e
    · cases e; rename_i hz
      exact ⟨by rw [rl.length]; exact le_szl hz, fun p hp => q ρ1 H1 p vs st hp rl⟩
    · cases e⟩
/-- the own list of slot i is a value from here on -/
def mFz {α : Type} (i : Nat) (m : M α) : M α := fun s => match s.env[i]? with
  | some (.own l) => m (setE i (.val (.fl l)) s)
  | _ => .no
theorem ss_fz {i : Nat} (h : PSs X rest (tS Θ m)) : PSs X rest (tS Θ (mFz i m)) := pssLe h fun D σ H ⟨ρ, s, r, o⟩ => by
  unfold mFz at o
  split at o
  · rename_i l e
    exact ⟨ρ, setE i (.val (.fl l)) s, (r.freeze e).r, o.mono fun f s' q ρ' σ' H' st => q ρ' σ' H' ((r.freeze e).trans st)⟩
  · exact o.elim
/-- x.append(e), x own -/
def mApp (i : Nat) (m : M IV) : M Flw := fun s => match s.env[i]? with
  | some (.own _) => M.bind m (fun v s => match s.env[i]? with
    | some (.own l) => if l.length < szl then .ok .nx (setE i (.own (l ++ [v])) s) else .no
    | _ => .no) s
  | _ => .no
theorem set_same {σ : L2.St} {i : Nat} {v : V} (h : σ[i]? = some (some v)) : σ.set i (some v) = σ := by
  apply List.ext_getElem?
  intro j
  by_cases hj : i = j
  · subst hj
    rw [List.getElem?_set_self', h]; rfl
  · rw [List.getElem?_set_ne hj]
theorem lt_szl {n : Nat} (h : n < szl) : n < sizeLine := Nat.lt_of_lt_of_le h szl_le
theorem s_app {i : Nat} {x : Str} {p1 apos cpos : Pos} (hN : X.N[i]? = some x) (hv : Vis X.env.scope x) (ha : PE X a (tE Θ ma)) (hd : (x == ("__debug__" : Str)) = false := by decide)
    (hcd : (x == ("__classdict__" : Str)) = false := by decide) (hbase : attributeBase (.Name x p1) "append" X.env (eval (.Name x p1) X.env) = eval (.Name x p1) X.env := by rfl)
    (hfew : ((backTo cpos (starEach [a] X.env)).all (fun x => !x.1) && (backToKw cpos (keywordEach [] X.env)).all (fun x => x.1.isSome)
      && decide (([a] : List Expr).length + ([] : List Keyword).length + (if ([] : List Keyword).isEmpty then 0 else 1) < 30)) = true := by rfl)
    (hline : (apos.endLine == cpos.line) = true := by rfl) (hs1 : starEach [a] X.env = (false, eval a X.env) :: starEach [] X.env := by rfl) (hplain : (backTo cpos (starEach [] X.env)).any (·.1) = false := by rfl)
    (hs : swapsWith (.Call (.Attribute (.Name x p1) "append" apos) [a] [] cpos) none pos.line X.env = pure false := by rfl) :
    PS X (.Expr (.Call (.Attribute (.Name x p1) "append" apos) [a] [] cpos) pos) (tS Θ (mApp i ma)) :=
  psLe (ps_expr (pe_bm PySem.F.plainAttrs_list PySem.F.slot_list_append PySem.F.type_list_append mt_append (pe_var hN hv hd hcd) (pa_cons ha pa_nil hs1) hbase hfew hline hs1 hplain) hs) fun D σ H ⟨ρ, s, r, o⟩ => by
    unfold mApp at o
    split at o
    · rename_i l0 e0
      obtain ⟨p, vs0, h1, h2, h3⟩ := r.slot i _ e0
      refine ⟨_, h1, .inl ⟨rfl, _, SqL.of h2⟩, ρ, s, r, o.bind.mono fun v s1 q ρ1 H1 vv st rv => ?_⟩
      split at q
      · rename_i l e1
        obtain ⟨p', vs, k1, k2, k3⟩ := st.r.slot i _ e1
        rw [h1] at k1; cases k1
        split at q
        · rename_i hz
          refine ⟨_, _, _, rfl, rfl, k2, by rw [k3.length]; exact lt_szl hz, ?_⟩
          have st2 := st.r.setOwn (p := p) (.inr ⟨h1, l, e1⟩) (k3.append (.cons rv .nil))
          rw [set_same h1] at st2
          exact q ρ1 σ _ (st.trans st2)
        · exact q.elim
      · exact q.elim
    · exact o.elim
end
end Mi
set_option Elab.async false
set_option linter.all false
set_option maxRecDepth 100000
namespace Mi
open PySem L2 PyProof.Rows

variable {Θ : Fx} {ρ ρ' : List Addr} {s s' : S} {σ σ' : L2.St} {H H' : Hp} {X : Cx} {K : PySem.W.Frag}

/-! ### defs -/
def cw (K : PySem.W.Frag) (F : Addr → Prop) (ρ : List Addr) (H : Hp) : Vw := ⟨K, H, fun a => a ∈ ρ ∨ F a, ρ⟩
structure EnR (K : PySem.W.Frag) (F : Addr → Prop) (ρ : List Addr) (μ : List SO) (H : Hp) : Prop where
  slen : ρ.length = μ.length
  obj : ∀ (i : Nat) (a : Addr) (o : SO), ρ[i]? = some a → μ[i]? = some o → SOR (cw K F ρ H) a o
  nd : ∀ (i j : Nat) (a : Addr), ρ[i]? = some a → ρ[j]? = some a → i = j
  fo : ∀ a, F a → (∃ o, H a = some o) ∧ a ∉ ρ
theorem SOR.mono {w w' : Vw} {a : Addr} {o : SO} (le : w.Le w') (h : w'.H a = w.H a) (q : SOR w a o) : SOR w' a o := by
  cases o with
  | lst l => obtain ⟨vs, h2, h3⟩ := q; exact ⟨vs, h.trans h2, h3.mono le⟩
  | dk kvs => obtain ⟨vs, h2, h3⟩ := q; exact ⟨vs, h.trans h2, h3.mono le⟩
  | dt kvs => obtain ⟨vs, h2, h3⟩ := q; exact ⟨vs, h.trans h2, h3.mono le⟩
  | ins c fs => obtain ⟨dx, gs, h2, h3⟩ := q; exact ⟨dx, gs, h.trans h2, h3.mono le⟩
/-- a state within a def, as the caller sees it -/
theorem StR.leC (r : StR Θ ρ s σ H) : (vw Θ ρ s.env σ H).Le (cw Θ.K Θ.F ρ H) := ⟨rfl, fun _ _ e => e, fun a o e n => ⟨e, fun q => n (q.imp id .inr)⟩⟩
theorem StR.en (r : StR Θ ρ s σ H) : EnR Θ.K Θ.F ρ s.sto H :=
  ⟨r.slen, fun i a o e1 e2 => (r.obj i a o e1 e2).mono r.leC rfl, r.nd, fun a h => ⟨(r.fo a h).1, (r.fo a h).2.1⟩⟩
/-- .. and as a callee is to see it -/
def calleeF (Θ : Fx) (s : S) (σ : L2.St) : Addr → Prop := fun a => Ow σ s.env a ∨ Θ.F a
theorem StR.enOw (r : StR Θ ρ s σ H) : EnR Θ.K (calleeF Θ s σ) ρ s.sto H :=
  ⟨r.slen, r.obj, r.nd, fun a h => ⟨r.tracked (.inr h), h.elim (r.sep a) fun f => (r.fo a f).2.1⟩⟩
/-- behind a callee -/
theorem StR.back (r : StR Θ ρ s σ H) {μ' : List SO} (e : EnR Θ.K (calleeF Θ s σ) ρ' μ' H') (le : (cw Θ.K (calleeF Θ s σ) ρ H).Le (cw Θ.K (calleeF Θ s σ) ρ' H')) (k : ∀ a o, calleeF Θ s σ a → H a = some o → H' a = some o) :
    Stp Θ ρ s σ H ρ' { s with sto := μ' } σ H' := by
  have le' : (vw Θ ρ s.env σ H).Le (vw Θ ρ' s.env σ H') := le
  refine ⟨⟨r.len, e.slen, fun i x q => ?_, e.obj, e.nd, fun a h => (e.fo a (.inl h)).2, r.one, fun a h => ⟨(e.fo a (.inr h)).1, (e.fo a (.inr h)).2, (r.fo a h).2.2⟩, r.base.trans le', fun a o f q => k a o (.inr f) (r.fkeep a o f q), r.self⟩, le'⟩
  have z := r.slot i x q
  cases x with
  | emp => trivial
  | val v => obtain ⟨u, h1, h2⟩ := z; exact ⟨u, h1, h2.mono le'⟩
  | own l => obtain ⟨a, vs, h1, h2, h3⟩ := z; exact ⟨a, vs, h1, k a _ (.inl ⟨i, h1, .inl ⟨l, q⟩⟩) h2, h3.mono le'⟩
  | ins c fs => obtain ⟨a, dx, gs, h1, h2, h3⟩ := z; exact ⟨a, dx, gs, h1, k a _ (.inl ⟨i, h1, .inr ⟨c, fs, q⟩⟩) h2, h3.mono le'⟩
inductive RF where
  | ok (v : IV) (μ : List SO) | ex (c : Addr) (fs : List (Str × IV)) (μ : List SO) | no
abbrev Fn := List IV → List SO → RF
/-- an exception's own dict -/
def XDR (w : Vw) (H : Hp) (d : Addr) (fs : List (Str × IV)) : Prop := ∃ gs, H d = some (.xd gs) ∧ ¬ w.L d ∧ RepF w gs fs
def EXof (K : PySem.W.Frag) (F : Addr → Prop) (w0 : Vw) (E : XK) : Addr → List (Str × IV) → S → Prop := fun c fs s => ∀ ρ' H' d, EnR K F ρ' s.sto H' → w0.Le (cw K F ρ' H') → (∀ a o, F a → w0.H a = some o → H' a = some o) →
  XDR (cw K F ρ' H') H' d fs → E (.ref c) (some d) H'
/-- np arguments -/
def ar (np : Nat) (fn : Fn) : Fn := fun xs μ => if xs.length = np then fn xs μ else .no
def spF (K : PySem.W.Frag) (fn : Fn) : Sp := fun vs H Q E => ∃ ρ μ xs F, EnR K F ρ μ H ∧ RepL (cw K F ρ H) vs xs ∧ match fn xs μ with
  | .ok z μ' => ∀ ρ' H' v, EnR K F ρ' μ' H' → (cw K F ρ H).Le (cw K F ρ' H') → (∀ a o, F a → H a = some o → H' a = some o) → RepV (cw K F ρ' H') v z → Q v H'
  | .ex c fs μ' => ∀ ρ' H' d, EnR K F ρ' μ' H' → (cw K F ρ H).Le (cw K F ρ' H') → (∀ a o, F a → H a = some o → H' a = some o) → XDR (cw K F ρ' H') H' d fs → E (.ref c) (some d) H'
  | .no => False
def runF (n : Nat) (m : M Flw) : Fn := fun xs μ => match m ⟨xs.map .val ++ List.replicate (n - xs.length) .emp, μ⟩ with
  | .ok (.rt v) s => .ok v s.sto
  | .ok .nx s => .ok .non s.sto
  | .ex c fs s => .ex c fs s.sto
  | _ => .no
theorem start_ok {N : List Str} {F : Addr → Prop} {vs : List V} {xs : List IV} {μ : List SO} {EX : Addr → List (Str × IV) → S → Prop} (e : EnR K F ρ μ H) (r : RepL (cw K F ρ H) vs xs) (hl : vs.length ≤ N.length) :
    StR ⟨K, F, cw K F ρ H, EX, 0⟩ ρ ⟨xs.map .val ++ List.replicate (N.length - xs.length) .emp, μ⟩ (L2.start N vs) H := by
  have no : ∀ (i : Nat) (y : Slot), (xs.map Slot.val ++ List.replicate (N.length - xs.length) Slot.emp)[i]? = some y → isOwn y = false ∧ ∀ z, y = .val z → xs[i]? = some z := fun i y q => by
    by_cases hi : i < xs.length
    · rw [List.getElem?_append_left (by simpa using hi), List.getElem?_map] at q
      cases e' : xs[i]? with
      | none => rw [e'] at q; cases q
      | some z => rw [e'] at q; cases q; exact ⟨rfl, fun z' h => by cases h; rfl⟩
    · rw [List.getElem?_append_right (by simpa using hi)] at q
      have := List.mem_of_getElem? q
      rw [List.mem_replicate] at this
      rw [this.2]; exact ⟨rfl, fun z h => nomatch h⟩
  have nOw : ∀ a, ¬ Ow (L2.start N vs) (xs.map Slot.val ++ List.replicate (N.length - xs.length) Slot.emp) a := fun a ⟨i, _, h⟩ => by
    rw [own_iff] at h
    obtain ⟨y, h1, h2⟩ := h
    rw [(no i y h1).1] at h2; cases h2
  have le : (cw K F ρ H).Le (vw ⟨K, F, cw K F ρ H, EX, 0⟩ ρ (xs.map Slot.val ++ List.replicate (N.length - xs.length) Slot.emp) (L2.start N vs) H) :=
    ⟨rfl, fun _ _ q => q, fun a o q n => ⟨q, fun z => n (z.imp id fun z => z.elim (fun z => (nOw a z).elim) id)⟩⟩
  have hxl := r.length
  refine ⟨by simp [L2.start, hxl], e.slen, fun i y q => ?_, fun i a o e1 e2 => (e.obj i a o e1 e2).mono le rfl, e.nd, fun a h => (nOw a h).elim, fun i j a _ _ h => ?_, fun a h => ⟨(e.fo a h).1, (e.fo a h).2, nOw a⟩, le, fun a o _ q => q, fun i c fs q => by have := (no i _ q).1; cases this⟩
  · obtain ⟨h1, h2⟩ := no i y q
    cases y with
    | emp => trivial
    | val z =>
      have hz := h2 z rfl
      obtain ⟨v, hv, rv⟩ := r.get hz
      refine ⟨v, ?_, rv.mono le⟩
      have hi : i < vs.length := (List.getElem?_eq_some_iff.mp hv).1
      show (L2.start N vs)[i]? = some (some v)
      unfold L2.start
      rw [List.getElem?_append_left (by simpa using hi), List.getElem?_map, hv]
      rfl
    | own l => cases h1
    | ins c fs => cases h1
  · rw [own_iff] at h
    obtain ⟨y, h1, h2⟩ := h
    rw [(no i y h1).1] at h2; cases h2
section
variable {P : Program} {w : World} {mg : Str → Option Value} {base : Heap} {CX : CXT}
theorem okM {x qual : Str} {st : Stmt} {f : Addr} {fd : FuncData} {N ps : List Str} {k : Nat} {m : M Flw} (F : Fun K x qual st f fd) (S : FnScope N ps (defScope st))
    (hb : ∀ (cdv : Value) (A : Around) (outer : List Env) (s : Shared) (H : Hp) (E : XK) (Θ : Fx), Room k (A.deeper (envOfC qual (defScope st) s.heap.objs.size f cdv)) → Θ.K = K → Θ.EX = EXof K Θ.F Θ.w0 E →
      PSs (cxOf CX P w K mg base N qual (defScope st) f cdv A outer s H E) (defBody st) (tS Θ m)) :
    FnOk P w K mg base CX (k + 1) f fd ps (spF K (ar ps.length (runF N.length m))) := by
  obtain ⟨oc, od, kV, doc, pm, an, cdv, ct, osl, rfl, lk, hcd⟩ := F.ex
  have hlen : ∀ vs H Q E, spF K (ar ps.length (runF N.length m)) vs H Q E → vs.length = ps.length := fun vs H Q E ⟨ρ, μ, xs, FF, en, rl, q⟩ => by
    unfold ar at q
    by_cases hl : xs.length = ps.length
    · rw [rl.length]; exact hl
    · rw [if_neg hl] at q; exact q.elim
  refine fn_of lk hcd S hlen fun A outer s H vs Q E hr hsp => ?_
  have hl := hlen _ _ _ _ hsp
  obtain ⟨ρ, μ, xs, FF, en, rl, q⟩ := hsp
  unfold ar at q
  rw [if_pos (rl.length.symm.trans hl)] at q
  have hle : vs.length ≤ N.length := by
    have := congrArg List.length S.pre
    rw [List.length_take] at this
    omega
  refine ⟨_, hb cdv A outer s H E ⟨K, FF, cw K FF ρ H, EXof K FF (cw K FF ρ H) E, 0⟩ hr rfl rfl, ρ, _, start_ok en rl hle, ?_⟩
  unfold runF at q
  cases e : m ⟨xs.map .val ++ List.replicate (N.length - xs.length) .emp, μ⟩ with
  | no => rw [e] at q; exact q.elim
  | ex c fs s' => rw [e] at q; exact q
  | ok f s' =>
    rw [e] at q
    intro ρ' σ' H' st
    have en' := st.r.en
    have le' : (cw K FF ρ H).Le (cw K FF ρ' H') := st.r.base.trans st.r.leC
    cases f with
    | nx => exact q ρ' H' .non en' le' st.r.fkeep .non
    | rt v => exact fun u ru => q ρ' H' u en' le' st.r.fkeep (ru.mono st.r.leC)
    | bk => exact q.elim
    | ct => exact q.elim
end

/-! ### calls -/
def mCall (fn : Fn) (m : M (List IV)) : M IV := M.bind m fun xs s => match fn xs s.sto with
  | .ok v μ => .ok v { s with sto := μ }
  | .ex c fs μ => .ex c fs { s with sto := μ }
  | .no => .no
theorem call_sp {fn : Fn} {E : XK} {xs : List IV} {vs : List V} {Q : VK} (hK : Θ.K = K) (hE : Θ.EX = EXof K Θ.F Θ.w0 E) (r : StR Θ ρ s σ H) (rl : RepL (vw Θ ρ s.env σ H) vs xs)
    (o : Out Θ (match fn xs s.sto with | .ok v μ => .ok v { s with sto := μ } | .ex c fs μ => .ex c fs { s with sto := μ } | .no => .no) fun x s' => ∀ ρ' H' a, Stp Θ ρ s σ H ρ' s' σ H' → RepV (vw Θ ρ' s'.env σ H') a x → Q a H') :
    spF K fn vs H Q E := by
  subst hK
  refine ⟨ρ, s.sto, xs, calleeF Θ s σ, r.enOw, rl, ?_⟩
  cases e : fn xs s.sto with
  | no => rw [e] at o; exact o.elim
  | ok z μ' =>
    rw [e] at o
    intro ρ' H' v en le k rv
    exact o ρ' H' v (r.back en le k) rv
  | ex c fs μ' =>
    rw [e] at o
    intro ρ' H' d en le k xd
    have o : Θ.EX c fs { s with sto := μ' } := o
    rw [hE] at o
    have st := r.back en le k
    have lc := st.r.leC
    obtain ⟨gs, h1, h2, h3⟩ := xd
    exact o ρ' H' d st.r.en (st.r.base.trans lc) st.r.fkeep ⟨gs, h1, (lc.keep d _ h1 h2).2, h3.mono lc⟩
section
variable {CX : CXT} {E : XK} {k : Nat} {f : Addr} {fd : FuncData} {ps : List Str} {fn : Fn} {x : Str} {p pos : Pos} {e : Expr} {es : List Expr} {mr : M (List IV)}
theorem tE_call {Q : VK} (hK : Θ.K = K) (hE : Θ.EX = EXof K Θ.F Θ.w0 E) (h : tE Θ (mCall fn mr) σ H Q) : tCall (spF K fn) [] E (tA Θ mr) σ H Q :=
  (tM.bind (R := RepL) h).imp fun vs H1 ⟨ρ1, s1, xs, r1, rl, o⟩ => by
    rw [List.append_nil]
    exact call_sp hK hE r1 rl o
theorem e_call (F : FnOk X.prog X.w X.K X.mg X.base CX k f fd ps (spF X.K fn)) (hr : Room k X.A) (hg : Gl X x) (hm : X.mg x = some (.ref f)) (hk : PySem.W.keepIn X.K (.ref f) = true) (hb : L2.Binds X.K fd ps []) (hx : Passes CX X E)
    (hK : Θ.K = X.K) (hE : Θ.EX = EXof X.K Θ.F Θ.w0 E) (ha : PA X (e :: es) (tA Θ mr))
    (hd : (x == ("__debug__" : Str)) = false := by decide) (hs : starEach (e :: es) X.env = (false, eval e X.env) :: starEach es X.env := by rfl) (hpl : (backTo pos (starEach es X.env)).any (·.1) = false := by rfl) :
    PE X (.Call (.Name x p) (e :: es) [] pos) (tE Θ (mCall fn mr)) := peLe (pe_call F hr hg hm hk hb .nil hx ha hd hs hpl) fun _ _ _ h => tE_call hK hE h
theorem e_call0 (F : FnOk X.prog X.w X.K X.mg X.base CX k f fd ps (spF X.K fn)) (hr : Room k X.A) (hg : Gl X x) (hm : X.mg x = some (.ref f)) (hk : PySem.W.keepIn X.K (.ref f) = true) (hb : L2.Binds X.K fd ps []) (hx : Passes CX X E)
    (hK : Θ.K = X.K) (hE : Θ.EX = EXof X.K Θ.F Θ.w0 E) (hd : (x == ("__debug__" : Str)) = false := by decide) : PE X (.Call (.Name x p) [] [] pos) (tE Θ (mCall fn mNil)) := peLe (pe_call0 F hr hg hm hk hb .nil hx hd) fun σ H Q h => by
  obtain ⟨ρ, s, r, o⟩ := tE_call hK hE h
  exact o ρ H [] r.here .nil
end

/-! ### targets -/
/-- only these slots change -/
def Only (ws : List Nat) (σ σ' : L2.St) : Prop := σ'.length = σ.length ∧ ∀ j : Nat, j ∉ ws → σ'[j]? = σ[j]?
theorem Only.refl {ws : List Nat} : Only ws σ σ := ⟨rfl, fun _ _ => rfl⟩
theorem Only.trans {a b : List Nat} {σ1 σ2 : L2.St} (h : Only a σ σ1) (k : Only b σ1 σ2) : Only (a ++ b) σ σ2 :=
  ⟨k.1.trans h.1, fun j hj => (k.2 j fun z => hj (List.mem_append_right _ z)).trans (h.2 j fun z => hj (List.mem_append_left _ z))⟩
def tGt (Θ : Fx) (ws : List Nat) (g : IV → M Unit) : TG := fun v σ H Q => ∃ ρ s x, StR Θ ρ s σ H ∧ RepV (vw Θ ρ s.env σ H) v x ∧ Out Θ (g x s) fun _ s' => ∀ ρ' σ' H', Stp Θ ρ s σ H ρ' s' σ' H' → Only ws σ σ' → Q σ' H'
def tGts (Θ : Fx) (ws : List Nat) (g : List IV → M Unit) : TGs := fun vs σ H Q => ∃ ρ s l, StR Θ ρ s σ H ∧ RepL (vw Θ ρ s.env σ H) vs l ∧ Out Θ (g l s) fun _ s' => ∀ ρ' σ' H', Stp Θ ρ s σ H ρ' s' σ' H' → Only ws σ σ' → Q σ' H'
theorem pgLe {X : Cx} {e : Expr} {t t' : TG} (h : PG X e t) (f : ∀ v σ H Q, t' v σ H Q → t v σ H Q) : PG X e t' := ⟨fun pins s σ H v u Q I r q => h.run pins s σ H v u Q I r (f v σ H Q q)⟩
theorem pgsLe {X : Cx} {e : List Expr} {t t' : TGs} (h : PGs X e t) (f : ∀ v σ H Q, t' v σ H Q → t v σ H Q) : PGs X e t' := ⟨fun pins s σ H v u Q I r q => h.run pins s σ H v u Q I r (f v σ H Q q)⟩
def gSet (i : Nat) : IV → M Unit := fun x s => .ok () (setE i (.val x) s)
def gNl : List IV → M Unit := fun l => match l with
  | [] => M.pure ()
  | _ => M.no
def gCs (g : IV → M Unit) (h : List IV → M Unit) : List IV → M Unit := fun l => match l with
  | x :: r => M.bind (g x) fun _ => h r
  | [] => M.no
def gTp (n : Nat) (g : List IV → M Unit) : IV → M Unit := fun x => match x with
  | .tup l => if l.length = n then g l else M.no
  | _ => M.no
section
variable {pos : Pos} {a : Expr} {es : List Expr} {g : IV → M Unit} {h : List IV → M Unit}
theorem g_name {i : Nat} {x : Str} (hN : X.N.Nodup) (hi : X.N[i]? = some x) (hx : Loc X.env.scope x) (hf : X.fn x = true ∨ X.env.scope.names.lookup x = some .local := by first | exact .inl rfl | exact .inr rfl | assumption) : PG X (.Name x pos) (tGt Θ [i] (gSet i)) :=
  pgLe (pg_name hN hi hx hf) fun v σ H Q ⟨ρ, s, x, r, rx, o⟩ => o ρ _ H (r.setVal rx) ⟨by simp, fun j hj => List.getElem?_set_ne fun z => hj (by simp [z])⟩
theorem gs_nil : PGs X [] (tGts Θ [] gNl) := pgsLe pgs_nil fun vs σ H Q ⟨ρ, s, l, r, rl, o⟩ => by
  cases rl with
  | nil => exact ⟨rfl, o ρ σ H r.here .refl⟩
  | cons _ _ => exact o.elim
theorem gs_cons {ws us : List Nat} (h1 : PG X a (tGt Θ ws g)) (h2 : PGs X es (tGts Θ us h)) (hs : (assignEach (a :: es) X.env).map (·.2) = assign a X.env :: (assignEach es X.env).map (·.2) := by rfl) : PGs X (a :: es) (tGts Θ (ws ++ us) (gCs g h)) :=
  pgsLe (pgs_cons h1 h2 hs) fun vs σ H Q ⟨ρ, s, l, r, rl, o⟩ => by
    cases rl with
    | nil => exact o.elim
    | cons rv rr =>
      exact ⟨_, _, rfl, ρ, s, _, r, rv, o.bind.mono fun _ s1 q ρ1 σ1 H1 st ol => ⟨ρ1, s1, _, st.r, rr.mono st.le, q.mono fun _ s2 q2 ρ2 σ2 H2 st2 ol2 => q2 ρ2 σ2 H2 (st.trans st2) (ol.trans ol2)⟩⟩
theorem g_tup {k n : Nat} {ws : List Nat} (hK : Θ.K = X.K) (hc : X.calm = true) (h1 : PGs X es (tGts Θ ws h)) (hn : (assignEach es X.env).length = n := by rfl) (hst : (assignEach es X.env).findIdx? (·.1) = none := by rfl) : PG X (.Tuple es k pos) (tGt Θ ws (gTp n h)) :=
  pgLe (pg_tup hc h1 hn hst) fun v σ H Q ⟨ρ, s, x, r, rx, o⟩ => by
    cases x with
    | tup l =>
      cases rx with | tup t1 t2 =>
      unfold gTp at o
      dsimp only at o
      split at o
      · rename_i hl
        exact ⟨_, _, rfl, by rw [← hK]; exact t1.sq, t2.length.trans hl, ρ, s, l, r, t2, o⟩
      · exact o.elim
    | _ => exact o.elim
/-- a, b, .. = e -/
def mAsg (m : M IV) (g : IV → M Unit) : M Flw := M.bind m fun v => M.bind (g v) fun _ => mNx
theorem s_asg {tg e : Expr} {ma : M IV} {ws : List Nat} (he : PE X e (tE Θ ma)) (hg : PG X tg (tGt Θ ws g)) (hs : swapsWithSole [tg] e pos.line X.env = pure false := by rfl) (hw : swappedStores [tg] e X.env = pure none := by rfl)
    (h1 : (assignEach [tg] X.env).map (·.2) = [assign tg X.env] := by rfl) : PS X (.Assign [tg] e pos) (tS Θ (mAsg ma g)) := psLe (ps_asg he hg hs hw h1) fun D σ H h =>
  (tS.bind (R := RepV) h).imp fun v H1 ⟨ρ1, s1, x, r1, rx, o⟩ => ⟨ρ1, s1, x, r1, rx, o.bind.mono fun _ s2 q ρ2 σ2 H2 st _ => q ρ2 σ2 H2 st⟩
/-- a, b = x, y (two plain locals) -/
def mPar2 (i j : Nat) (m : M (List IV)) : M Flw := M.bind m fun l s => match l with
  | [x, y] => .ok .nx (setE j (.val y) (setE i (.val x) s))
  | _ => .no
def mPar3 (i j k : Nat) (m : M (List IV)) : M Flw := M.bind m fun l s => match l with
  | [x, y, z] => .ok .nx (setE k (.val z) (setE j (.val y) (setE i (.val x) s)))
  | _ => .no
theorem s_par {i j : Nat} {x y : Str} {a b : Expr} {ma : M (List IV)} {px py pt : Pos} {kt k2 pt2} (hc : X.calm = true) (hN : X.N.Nodup) (hi : X.N[i]? = some x) (hj : X.N[j]? = some y) (hij : i ≠ j)
    (hx : X.env.scope.names.lookup x = some .local) (hy : X.env.scope.names.lookup y = some .local) (ha : PA X [a, b] (tA Θ ma))
    (hw : swappedStores [.Tuple [.Name x px, .Name y py] kt pt] (.Tuple [a, b] k2 pt2) X.env = pure (some [x, y]))
    (hs : swapsWithSole [.Tuple [.Name x px, .Name y py] kt pt] (.Tuple [a, b] k2 pt2) pos.line X.env = pure false := by rfl) :
    PS X (.Assign [.Tuple [.Name x px, .Name y py] kt pt] (.Tuple [a, b] k2 pt2) pos) (tS Θ (mPar2 i j ma)) := psLe (ps_par hc hN hi hj hij hx hy ha hw hs) fun D σ H h =>
  (tS.bind (R := RepL) h).imp fun vs H1 ⟨ρ1, s1, l, r1, rl, o⟩ => by
    cases rl with
    | nil => exact o.elim
    | cons h1 t1 => cases t1 with
      | nil => exact o.elim
      | cons h2 t2 => cases t2 with
        | nil =>
          have st1 := r1.setVal (i := i) h1
          have st2 := st1.r.setVal (i := j) (h2.mono st1.le)
          exact ⟨_, _, rfl, o ρ1 _ H1 (st1.trans st2)⟩
        | cons _ _ => exact o.elim
end
end Mi
set_option Elab.async false
set_option linter.all false
set_option maxRecDepth 100000
namespace Mi
open PySem L2 PyProof.Rows

variable {Θ : Fx} {ρ ρ' : List Addr} {s s' : S} {σ σ' : L2.St} {H H' : Hp} {X : Cx} {K : PySem.W.Frag}

/-! ### what is walked -/
def ItOk (w1 : Vw) (J : It) (l : List IV) : Prop := ∀ w' : Vw, w1.Le w' → (∀ a, w'.L a → ∃ o, w'.H a = some o) →
  (∀ (i : Nat) (x : IV), l[i]? = some x → J.go i w'.H ∧ ∀ v H', J.yld i w'.H v H' → (∀ b o, w'.H b = some o → H' b = some o) ∧ RepV ⟨w'.K, H', w'.L, w'.ρ⟩ v x) ∧ ∀ i : Nat, l.length ≤ i → J.stop i w'.H
def tI (Θ : Fx) (m : M (List IV)) : TI := fun σ H R => ∃ ρ s, StR Θ ρ s σ H ∧ Out Θ (m s) fun l s' => ∀ ρ' H' J, Stp Θ ρ s σ H ρ' s' σ H' → ItOk (vw Θ ρ' s'.env σ H') J l → R J H'
theorem piLe {X : Cx} {tg e : Expr} {t t' : TI} (h : PI X tg e t) (f : ∀ σ H Q, t' σ H Q → t σ H Q) : PI X tg e t' := ⟨fun pins s σ H Q I q => h.run pins s σ H Q I (f σ H Q q)⟩
def mItL (m : M IV) : M (List IV) := M.bind m fun x => match x with
  | .fl l => M.pure l
  | _ => M.no
def mItT (m : M IV) : M (List IV) := M.bind m fun x => match x with
  | .tup l => M.pure l
  | _ => M.no
theorem itl_ok {w : Vw} {a : Addr} {xs : List V} {l : List IV} (h : FzL w a xs) (r : RepL w xs l) : ItOk w (Itl w.K a) l := fun w' le tr => by
  have h' := (h.mono le).sq
  have r' := r.mono le
  rw [le.k] at h'
  refine ⟨fun i x e => ?_, fun i hi => ⟨xs, h', by rw [r.length]; exact hi⟩⟩
  obtain ⟨v, e1, rv⟩ := r'.get e
  refine ⟨⟨xs, v, h', e1⟩, fun u H' y => ?_⟩
  obtain ⟨e2, y⟩ := y
  subst e2
  have := y xs h'
  rw [e1] at this; cases this
  exact ⟨fun _ _ q => q, rv⟩
theorem itt_ok {w : Vw} {a : Addr} {xs : List V} {l : List IV} (h : FzT w a xs) (r : RepL w xs l) : ItOk w (Itt w.K a) l := fun w' le tr => by
  have h' := (h.mono le).sq
  have r' := r.mono le
  rw [le.k] at h'
  refine ⟨fun i x e => ?_, fun i hi => ⟨xs, h', by rw [r.length]; exact hi⟩⟩
  obtain ⟨v, e1, rv⟩ := r'.get e
  refine ⟨⟨xs, v, h', e1⟩, fun u H' y => ?_⟩
  obtain ⟨e2, y⟩ := y
  subst e2
  have := y xs h'
  rw [e1] at this; cases this
  exact ⟨fun _ _ q => q, rv⟩
section
variable {a b c e tg : Expr} {ma mb mc : M IV} {pos p : Pos} {mr : M (List IV)} {es : List Expr}
theorem i_list (hK : Θ.K = X.K) (ha : PE X a (tE Θ ma)) : PI X tg a (tI Θ (mItL ma)) := piLe (pi_list ha) fun σ H R ⟨ρ, s, r, o⟩ =>
  ⟨ρ, s, r, o.bind.mono fun x s1 q ρ1 H1 v st rv => by
    cases x with
    | fl l =>
      cases rv with | fl h1 l1 =>
      have e1 : X.K = (vw Θ ρ1 s1.env σ H1).K := hK.symm
      exact ⟨_, rfl, ⟨_, by rw [e1]; exact h1.sq⟩, by rw [e1]; exact q ρ1 H1 _ st (itl_ok h1 l1)⟩
    | _ => exact q.elim⟩
theorem i_tup (hK : Θ.K = X.K) (ha : PE X a (tE Θ ma)) : PI X tg a (tI Θ (mItT ma)) := piLe (pi_tup ha) fun σ H R ⟨ρ, s, r, o⟩ =>
  ⟨ρ, s, r, o.bind.mono fun x s1 q ρ1 H1 v st rv => by
    cases x with
    | tup l =>
      cases rv with | tup h1 l1 =>
      have e1 : X.K = (vw Θ ρ1 s1.env σ H1).K := hK.symm
      exact ⟨_, rfl, ⟨_, by rw [e1]; exact h1.sq⟩, by rw [e1]; exact q ρ1 H1 _ st (itt_ok h1 l1)⟩
    | _ => exact q.elim⟩
/-- range(n), range(a, b) -/
def rngL (lo : Int) (n : Nat) : List IV := (List.range n).map fun (i : Nat) => IV.int (lo + i)
theorem itr_ok {w : Vw} (lo : Int) (n : Nat) : ItOk w (Itr lo n) (rngL lo n) := fun w' le tr => by
  refine ⟨fun i x e => ?_, fun i hi => (show n ≤ i by simpa [rngL] using hi)⟩
  unfold rngL at e
  rw [List.getElem?_map] at e
  have hi : i < n := by
    cases q : (List.range n)[i]? with
    | none => rw [q] at e; cases e
    | some j => have := (List.getElem?_eq_some_iff.mp q).1; simpa using this
  rw [List.getElem?_range hi] at e
  cases e
  exact ⟨hi, fun v H' y => by obtain ⟨e1, e2⟩ := y; subst e1; subst e2; exact ⟨fun _ _ q => q, .int _⟩⟩
def rng1 : List IV → Option (List IV)
  | [.int j] => if j.natAbs ≤ 4611686018427387 then some (rngL 0 j.toNat) else none
  | _ => none
def rng2 : List IV → Option (List IV)
  | [.int i, .int j] => if i.natAbs ≤ 4611686018427387 ∧ j.natAbs ≤ 4611686018427387 then some (rngL i (j - i).toNat) else none
  | _ => none
theorem i_range1 (hg : Gl X "range") (hm : X.mg "range" = none) (ha : PA X [a] (tA Θ mr)) (hs : starEach [a] X.env = [(false, eval a X.env)] := by rfl) : PI X tg (.Call (.Name "range" p) [a] [] pos) (tI Θ (mApL rng1 mr)) :=
  piLe (pi_range1 hg hm ha hs) fun σ H R ⟨ρ, s, r, o⟩ => ⟨ρ, s, r, o.bind.mono fun l s1 q ρ1 H1 vs st rl => by
    obtain ⟨z, e, q⟩ := q.opt
    unfold rng1 at e
    split at e
    · split at e
      · rename_i hj; cases e
        obtain ⟨v, rfl, rv⟩ := rep1 rl; cases rv
        exact ⟨_, rfl, by omega, by omega, q ρ1 H1 _ st (itr_ok 0 _)⟩
      · cases e
    · cases e⟩
theorem i_range2 (hg : Gl X "range") (hm : X.mg "range" = none) (ha : PA X [a, b] (tA Θ mr)) (hs : starEach [a, b] X.env = [(false, eval a X.env), (false, eval b X.env)] := by rfl) (hs2 : starEach [b] X.env = [(false, eval b X.env)] := by rfl) : PI X tg (.Call (.Name "range" p) [a, b] [] pos) (tI Θ (mApL rng2 mr)) :=
  piLe (pi_range2 hg hm ha hs hs2) fun σ H R ⟨ρ, s, r, o⟩ => ⟨ρ, s, r, o.bind.mono fun l s1 q ρ1 H1 vs st rl => by
    obtain ⟨z, e, q⟩ := q.opt
    unfold rng2 at e
    split at e
    · split at e
      · rename_i hj; cases e
        obtain ⟨v, u, rfl, rv, ru⟩ := rep2 rl; cases rv; cases ru
        exact ⟨_, _, rfl, by omega, q ρ1 H1 _ st (itr_ok _ _)⟩
      · cases e
    · cases e⟩
/-- enumerate(list) -/
def enmL (l : List IV) : List IV := l.zipIdx.map fun p => .tup [.int (p.2 : Nat), p.1]
def enm : List IV → Option (List IV)
  | [.fl l] => some (enmL l)
  | _ => none
theorem ite_ok {w : Vw} {a : Addr} {xs : List V} {l : List IV} (h : FzL w a xs) (r : RepL w xs l) : ItOk w (Ite w.K a) (enmL l) := fun w' le tr => by
  have h' := (h.mono le).sq
  have r' := r.mono le
  rw [le.k] at h'
  refine ⟨fun i x e => ?_, fun i hi => ⟨xs, h', by rw [r.length]; simpa [enmL] using hi⟩⟩
  unfold enmL at e
  rw [List.getElem?_map, List.getElem?_zipIdx] at e
  cases q : l[i]? with
  | none => rw [q] at e; cases e
  | some y =>
    rw [q] at e
    simp only [Option.map_some, Option.some.injEq] at e
    subst e
    obtain ⟨v, e1, rv⟩ := r'.get q
    refine ⟨⟨xs, v, h', e1⟩, fun u H' z => ?_⟩
    obtain ⟨T, x', rfl, hT, rfl, z⟩ := z
    have := z xs h'
    rw [e1] at this; cases this
    have nT : ¬ w'.L T := fun q => by
      obtain ⟨o, q⟩ := tr T q
      rw [hT] at q; cases q
    have le2 : w'.Le ⟨w'.K, upd w'.H T (.tup [.int (i : Nat), v]), w'.L, w'.ρ⟩ := ⟨rfl, fun _ _ q => q, fun b o q n => ⟨by show upd _ _ _ b = _; rw [upd_ne (ne_of_none q hT)]; exact q, n⟩⟩
    refine ⟨fun b o q => by rw [upd_ne (ne_of_none q hT)]; exact q, .tup ⟨upd_same, nT⟩ ?_⟩
    rw [Nat.zero_add]
    exact .cons (.int _) (.cons (rv.mono le2) .nil)
theorem i_enum {kk : Nat} {tpos : Pos} {elts : List Expr} (hK : Θ.K = X.K) (hg : Gl X "enumerate") (hm : X.mg "enumerate" = none) (ha : PA X [e] (tA Θ mr)) (hs : starEach [e] X.env = [(false, eval e X.env)] := by rfl) :
    PI X (.Tuple elts kk tpos) (.Call (.Name "enumerate" p) [e] [] pos) (tI Θ (mApL enm mr)) :=
  piLe (pi_enum hg hm ha hs) fun σ H R ⟨ρ, s, r, o⟩ => ⟨ρ, s, r, o.bind.mono fun l s1 q ρ1 H1 vs st rl => by
    obtain ⟨z, e, q⟩ := q.opt
    unfold enm at e
    split at e
    · cases e
      obtain ⟨v, rfl, rv⟩ := rep1 rl
      cases rv with | fl h1 l1 =>
      have e1 : X.K = (vw Θ ρ1 s1.env σ H1).K := hK.symm
      exact ⟨_, _, rfl, by rw [e1]; exact h1.sq, by rw [e1]; exact q ρ1 H1 _ st (ite_ok h1 l1)⟩
    · cases e⟩
/-- a text's signs -/
def sgnL (z : Str) : List IV := z.cps.toList.map fun c => .str ⟨#[c]⟩
def mItS (m : M IV) : M (List IV) := M.bind m fun x => match x with
  | .str z => M.pure (sgnL z)
  | _ => M.no
theorem its_ok {w : Vw} (z : Str) : ItOk w (Its z) (sgnL z) := fun w' le tr => by
  refine ⟨fun i x e => ?_, fun i hi => by
    have : z.cps.size ≤ i := by simpa [sgnL] using hi
    exact this⟩
  unfold sgnL at e
  rw [List.getElem?_map] at e
  cases q : z.cps.toList[i]? with
  | none => rw [q] at e; cases e
  | some c =>
    rw [q] at e; cases e
    have hi : i < z.cps.size := by
      have := (List.getElem?_eq_some_iff.mp q).1
      simpa using this
    refine ⟨hi, fun v H' y => ?_⟩
    obtain ⟨e1, c', e2, e3⟩ := y
    subst e1; subst e3
    rw [← Array.getElem?_toList, q] at e2
    cases e2
    exact ⟨fun _ _ q => q, .str _⟩
theorem i_str (ha : PE X a (tE Θ ma)) : PI X tg a (tI Θ (mItS ma)) := piLe (pi_str ha) fun σ H R ⟨ρ, s, r, o⟩ =>
  ⟨ρ, s, r, o.bind.mono fun x s1 q ρ1 H1 v st rv => by
    cases x with
    | str z => cases rv; exact ⟨_, rfl, q ρ1 H1 _ st (its_ok z)⟩
    | _ => exact q.elim⟩

/-! ### for, while -/
def forL (g : IV → M Unit) (body : M Flw) : List IV → M Flw
  | [] => mNx
  | x :: r => M.bind (g x) fun _ => M.bind body fun f => match f with
    | .nx => forL g body r
    | .ct => forL g body r
    | .bk => mNx
    | .rt v => M.pure (.rt v)
def mFor (mi : M (List IV)) (g : IV → M Unit) (body : M Flw) : M Flw := M.bind mi (forL g body)
variable {g : IV → M Unit} {m : M Flw} {t : M Bool} {mi : M (List IV)} {ws : List Nat} {body : List Stmt}
theorem s_for (hp : PassesOwn (model X.prog X.w) X.A X.env X.xe) (hc : X.calm = true) (hi : PI X tg e (tI Θ mi)) (hg : PG X tg (tGt Θ ws g)) (hb : PSs X body (tS Θ m))
    (hs : ∀ x, foldedSetIterable e X.env x = pure x := by intro _; rfl) : PS X (.For tg e body [] pos) (tS Θ (mFor mi g m)) := psLe (ps_for hp hc hi hg hb hs) fun D σ H ⟨ρ, s, r, o⟩ => by
  refine ⟨ρ, s, r, o.bind.mono fun l s1 q ρ1 H1 J st it => ?_⟩
  refine ⟨fun i k σ' H' => k = l.length - i ∧ i ≤ l.length ∧ ∃ ρ' s', Stp Θ ρ1 s1 σ H1 ρ' s' σ' H' ∧ Out Θ (forL g m (l.drop i) s') fun f s2 => ∀ ρ2 σ2 H2, Stp Θ ρ' s' σ' H' ρ2 s2 σ2 H2 → FlwR (vw Θ ρ2 s2.env σ2 H2) D σ2 H2 f,
    ⟨l.length, by simp, Nat.zero_le _, ρ1, s1, st.r.here, q.mono fun f s2 q2 ρ2 σ2 H2 st2 => q2 ρ2 σ2 H2 (st.trans st2)⟩, ?_⟩
  rintro i k σ' H' ⟨rfl, hi, ρ', s', st', o'⟩
  have ok := it _ st'.le fun a h => st'.r.tracked h
  by_cases hlt : i < l.length
  · refine .inr ?_
    have ex : l[i]? = some l[i] := by simp [hlt]
    obtain ⟨go, yl⟩ := ok.1 i _ ex
    refine ⟨go, fun σ3 H3 => l.length - (i + 1) = l.length - (i + 1) ∧ i + 1 ≤ l.length ∧ ∃ ρ' s', Stp Θ ρ1 s1 σ H1 ρ' s' σ3 H3 ∧ Out Θ (forL g m (l.drop (i + 1)) s') fun f s2 => ∀ ρ2 σ2 H2, Stp Θ ρ' s' σ3 H3 ρ2 s2 σ2 H2 → FlwR (vw Θ ρ2 s2.env σ2 H2) D σ2 H2 f,
      fun σ3 H3 n3 => ⟨l.length - (i + 1), by omega, n3⟩, fun v H'' y => ?_⟩
    obtain ⟨gr, rv⟩ := yl v H'' y
    have st2 := st'.r.grow gr
    rw [List.drop_eq_getElem_cons hlt] at o'
    refine ⟨ρ', s', l[i], st2.r, rv, o'.bind.mono fun _ s3 q3 ρ3 σ3 H3 st3 _ => ⟨ρ3, s3, st3.r, q3.bind.mono fun f s4 q4 ρ4 σ4 H4 st4 => ?_⟩⟩
    have stA := st2.trans (st3.trans st4)
    cases f with
    | nx => exact ⟨rfl, hlt, ρ4, s4, st'.trans stA, q4.mono fun f s2 q2 ρ2 σ2 H2 st5 => q2 ρ2 σ2 H2 (stA.trans st5)⟩
    | ct => exact ⟨rfl, hlt, ρ4, s4, st'.trans stA, q4.mono fun f s2 q2 ρ2 σ2 H2 st5 => q2 ρ2 σ2 H2 (stA.trans st5)⟩
    | bk => exact q4 ρ4 σ4 H4 stA
    | rt v => exact fun u ru => q4 ρ4 σ4 H4 stA u ru
  · have e' : i = l.length := by omega
    subst e'
    rw [List.drop_length] at o'
    exact .inl ⟨ok.2 _ (Nat.le_refl _), o' ρ' σ' H' st'.r.here⟩
def whileL (t : M Bool) (body : M Flw) : Nat → M Flw
  | 0 => M.no
  | n + 1 => M.bind t fun b => if b = true then M.bind body fun f => match f with
    | .nx => whileL t body n
    | .ct => whileL t body n
    | .bk => mNx
    | .rt v => M.pure (.rt v)
    else mNx
def mWhile (n : Nat) (t : M Bool) (body : M Flw) : M Flw := whileL t body n
theorem s_while {n : Nat} (hp : PassesOwn (model X.prog X.w) X.A X.env X.xe) (hc : PT X c (tT Θ t)) (hb : PSs X body (tS Θ m)) : PS X (.While c body [] pos) (tS Θ (mWhile n t m)) := psLe (ps_while hp hc hb) fun D σ H ⟨ρ, s, r, o⟩ => by
  refine ⟨fun k σ' H' => ∃ ρ' s', Stp Θ ρ s σ H ρ' s' σ' H' ∧ Out Θ (whileL t m k s') fun f s2 => ∀ ρ2 σ2 H2, Stp Θ ρ' s' σ' H' ρ2 s2 σ2 H2 → FlwR (vw Θ ρ2 s2.env σ2 H2) D σ2 H2 f,
    ⟨n, ρ, s, r.here, o⟩, ?_⟩
  rintro k σ' H' ⟨ρ', s', st', o'⟩
  cases k with
  | zero => exact o'.elim
  | succ k =>
    refine ⟨ρ', s', st'.r, o'.bind.mono fun b s3 q3 ρ3 H3 b' st3 eb => ?_⟩
    subst eb
    cases b' with
    | true =>
      rw [if_pos rfl] at q3 ⊢
      refine ⟨fun σ4 H4 => ∃ ρ' s', Stp Θ ρ s σ H ρ' s' σ4 H4 ∧ Out Θ (whileL t m k s') fun f s2 => ∀ ρ2 σ2 H2, Stp Θ ρ' s' σ4 H4 ρ2 s2 σ2 H2 → FlwR (vw Θ ρ2 s2.env σ2 H2) D σ2 H2 f, fun σ4 H4 n4 => ⟨k, Nat.lt_succ_self k, n4⟩, ρ3, s3, st3.r, q3.bind.mono fun f s4 q4 ρ4 σ4 H4 st4 => ?_⟩
      have stA := st3.trans st4
      cases f with
      | nx => exact ⟨ρ4, s4, st'.trans stA, q4.mono fun f s2 q2 ρ2 σ2 H2 st5 => q2 ρ2 σ2 H2 (stA.trans st5)⟩
      | ct => exact ⟨ρ4, s4, st'.trans stA, q4.mono fun f s2 q2 ρ2 σ2 H2 st5 => q2 ρ2 σ2 H2 (stA.trans st5)⟩
      | bk => exact q4 ρ4 σ4 H4 stA
      | rt v => exact fun u ru => q4 ρ4 σ4 H4 stA u ru
    | false =>
      rw [if_neg Bool.false_ne_true] at q3 ⊢
      exact q3 ρ3 σ' H3 st3
end
end Mi
set_option Elab.async false
set_option linter.all false
set_option maxRecDepth 100000
namespace Mi
open PySem L2 PyProof.Rows

variable {Θ : Fx} {ρ ρ' : List Addr} {s s' : S} {σ σ' : L2.St} {H H' : Hp} {X : Cx} {K : PySem.W.Frag}

/-! ### comprehensions -/
/-- the slots matter only where something is known of them -/
theorem StR.congr (r : StR Θ ρ s σ H) (hl : σ'.length = σ.length) (h : ∀ (i : Nat) (x : Slot), s.env[i]? = some x → x ≠ .emp → σ'[i]? = σ[i]?) : Stp Θ ρ s σ H ρ s σ' H := by
  have hO : ∀ a, Ow σ' s.env a → Ow σ s.env a := fun a ⟨i, h1, h2⟩ => by
    have h2' := own_iff.mp h2
    obtain ⟨x, e, hx⟩ := h2'
    exact ⟨i, by rw [← h i x e (by rintro rfl; cases hx)]; exact h1, h2⟩
  have le : Vw.Le (vw Θ ρ s.env σ H) (vw Θ ρ s.env σ' H) := vw_less hO
  refine ⟨⟨hl.trans r.len, r.slen, fun i x e => ?_, fun i a o e1 e2 => (r.obj i a o e1 e2).mono le rfl, r.nd, fun a q => r.sep a (hO a q), fun i j a h1 h2 h3 h4 => ?_, fun a f => ⟨(r.fo a f).1, (r.fo a f).2.1, fun q => (r.fo a f).2.2 (hO a q)⟩, r.base.trans le, r.fkeep, fun i c fs e => by rw [h i _ e (by simp)]; exact r.self i c fs e⟩, le⟩
  · have q := r.slot i x e
    cases x with
    | emp => trivial
    | val v => rw [h i _ e (by simp)]; obtain ⟨u, h1, h2⟩ := q; exact ⟨u, h1, h2.mono le⟩
    | own l => rw [h i _ e (by simp)]; obtain ⟨a, vs, h1, h2, h3⟩ := q; exact ⟨a, vs, h1, h2, h3.mono le⟩
    | ins c fs => rw [h i _ e (by simp)]; obtain ⟨a, dx, gs, h1, h2, h3⟩ := q; exact ⟨a, dx, gs, h1, h2, h3.mono le⟩
  · have d : ∀ k : Nat, ((∃ l, s.env[k]? = some (.own l)) ∨ ∃ c fs, s.env[k]? = some (.ins c fs)) → σ'[k]? = some (some (.ref a)) → σ[k]? = some (some (.ref a)) := fun k z q => by
      obtain ⟨x, e, hx⟩ := own_iff.mp z
      rw [← h k x e (by rintro rfl; cases hx)]; exact q
    exact r.one i j a (d i h3 h1) (d j h4 h2) h3 h4
/-- slots forgotten on the mirror's side -/
def wipeE (ws : List Nat) (env : List Slot) : List Slot := ws.foldr (fun i e => e.set i .emp) env
theorem wipeE_get {env : List Slot} {j : Nat} : ∀ {ws : List Nat} {x : Slot}, (wipeE ws env)[j]? = some x → x ≠ .emp → j ∉ ws ∧ env[j]? = some x
  | [], x, h, _ => ⟨by simp, h⟩
  | i :: ws, x, h, n => by
    have h : ((wipeE ws env).set i .emp)[j]? = some x := h
    by_cases hj : i = j
    · subst hj
      rw [List.getElem?_set_self'] at h
      cases q : (wipeE ws env)[i]? with
      | none => rw [q] at h; cases h
      | some y => rw [q] at h; cases h; exact absurd rfl n
    · rw [List.getElem?_set_ne hj] at h
      obtain ⟨h1, h2⟩ := wipeE_get h n
      exact ⟨by simp only [List.mem_cons, not_or]; exact ⟨fun e => hj e.symm, h1⟩, h2⟩
theorem wipeE_len {env : List Slot} : ∀ {ws : List Nat}, (wipeE ws env).length = env.length
  | [] => rfl
  | i :: ws => by show ((wipeE ws env).set i .emp).length = _; rw [List.length_set, wipeE_len]
theorem StR.wipeE (r : StR Θ ρ s σ H) (ws : List Nat) : Stp Θ ρ s σ H ρ { s with env := wipeE ws s.env } σ H := by
  have d : ∀ (k : Nat) (x : Slot), (Mi.wipeE ws s.env)[k]? = some x → x ≠ .emp → s.env[k]? = some x := fun k x e n => (wipeE_get e n).2
  have dO : ∀ k : Nat, ((∃ l, (Mi.wipeE ws s.env)[k]? = some (.own l)) ∨ ∃ c fs, (Mi.wipeE ws s.env)[k]? = some (.ins c fs)) → ((∃ l, s.env[k]? = some (.own l)) ∨ ∃ c fs, s.env[k]? = some (.ins c fs)) := fun k z => by
    obtain ⟨x, e, hx⟩ := own_iff.mp z
    exact own_iff.mpr ⟨x, d k x e (by rintro rfl; cases hx), hx⟩
  have hO : ∀ a, Ow σ (Mi.wipeE ws s.env) a → Ow σ s.env a := fun a ⟨i, h1, h2⟩ => ⟨i, h1, dO i h2⟩
  have le : Vw.Le (vw Θ ρ s.env σ H) (vw Θ ρ (Mi.wipeE ws s.env) σ H) := vw_less hO
  refine ⟨⟨r.len.trans wipeE_len.symm, r.slen, fun i x e => ?_, fun i a o e1 e2 => (r.obj i a o e1 e2).mono le rfl, r.nd, fun a q => r.sep a (hO a q), fun i j a h1 h2 h3 h4 => r.one i j a h1 h2 (dO i h3) (dO j h4), fun a f => ⟨(r.fo a f).1, (r.fo a f).2.1, fun q => (r.fo a f).2.2 (hO a q)⟩, r.base.trans le, r.fkeep, fun i c fs e => r.self i c fs (d i _ e (by simp))⟩, le⟩
  cases x with
  | emp => trivial
  | val v => have q := r.slot i _ (d i _ e (by simp)); obtain ⟨u, h1, h2⟩ := q; exact ⟨u, h1, h2.mono le⟩
  | own l => have q := r.slot i _ (d i _ e (by simp)); obtain ⟨a, vs, h1, h2, h3⟩ := q; exact ⟨a, vs, h1, h2, h3.mono le⟩
  | ins c fs => have q := r.slot i _ (d i _ e (by simp)); obtain ⟨a, dx, gs, h1, h2, h3⟩ := q; exact ⟨a, dx, gs, h1, h2, h3.mono le⟩
theorem wipe_in {σ : L2.St} {j : Nat} : ∀ {ws : List Nat}, j ∈ ws → j < σ.length → (wipe σ ws)[j]? = some none
  | v :: vs, h, hl => by
    unfold wipe
    by_cases hj : v = j
    · subst hj; rw [List.getElem?_set_self (by rw [wipe_length]; exact hl)]
    · rw [List.getElem?_set_ne hj]
      exact wipe_in (by rcases List.mem_cons.mp h with e | e; exact absurd e.symm hj; exact e) hl
theorem wipe_only {σ σ' : L2.St} {ws us : List Nat} (h : Only us σ σ') (hs : ∀ i ∈ us, i ∈ ws) : wipe σ' ws = wipe σ ws := by
  apply List.ext_getElem?
  intro j
  by_cases hj : j ∈ ws
  · by_cases hl : j < σ.length
    · rw [wipe_in hj hl, wipe_in hj (by rw [h.1]; exact hl)]
    · rw [List.getElem?_eq_none (by rw [wipe_length, h.1]; omega), List.getElem?_eq_none (by rw [wipe_length]; omega)]
  · rw [wipe_out hj, wipe_out hj]; exact h.2 j fun z => hj (hs j z)
theorem wipe_wipe {σ : L2.St} {ws : List Nat} : wipe (wipe σ ws) ws = wipe σ ws := by
  apply List.ext_getElem?
  intro j
  by_cases hj : j ∈ ws
  · by_cases hl : j < σ.length
    · rw [wipe_in hj hl, wipe_in hj (by rw [wipe_length]; exact hl)]
    · rw [List.getElem?_eq_none (by rw [wipe_length, wipe_length]; omega), List.getElem?_eq_none (by rw [wipe_length]; omega)]
  · rw [wipe_out hj]
/-- one more object that must not be touched: the list that is being made -/
def plusF (Θ : Fx) (D : Addr) (w0 : Vw) : Fx := ⟨Θ.K, fun a => Θ.F a ∨ a = D, w0, EXof Θ.K (fun a => Θ.F a ∨ a = D) w0 (fun _ _ _ => False), Θ.me⟩
def erase (H : Hp) (D : Addr) : Hp := fun a => if a = D then none else H a
theorem erase_ne {D a : Addr} (h : a ≠ D) : erase H D a = H a := by unfold erase; rw [if_neg h]
theorem erase_at {D : Addr} : erase H D D = none := by unfold erase; rw [if_pos rfl]
theorem upd_erase {D : Addr} {o : HO} : upd H D o = upd (erase H D) D o := by
  funext b; unfold upd erase; split <;> rfl
theorem StR.plus (r : StR Θ ρ s σ H) {D : Addr} {vs : List V} (hD : H D = none) {w0 : Vw} (hw : w0 = ⟨Θ.K, upd H D (.lst vs), fun a => a ∈ ρ ∨ (Ow σ s.env a ∨ (Θ.F a ∨ a = D)), ρ⟩) :
    StR (plusF Θ D w0) ρ s σ (upd H D (.lst vs)) ∧ (vw Θ ρ s.env σ H).Le (vw (plusF Θ D w0) ρ s.env σ (upd H D (.lst vs))) := by
  have ne : ∀ a o, H a = some o → a ≠ D := fun a o e z => by subst z; rw [hD] at e; cases e
  have le : (vw Θ ρ s.env σ H).Le (vw (plusF Θ D w0) ρ s.env σ (upd H D (.lst vs))) := ⟨rfl, fun _ _ e => e, fun a o e n =>
    ⟨(upd_ne (ne a o e)).trans e, fun q => q.elim (fun q => n (.inl q)) fun q => q.elim (fun q => n (.inr (.inl q))) fun q => q.elim (fun q => n (.inr (.inr q))) fun q => ne a o e q⟩⟩
  have nL : ∀ a, (a ∈ ρ ∨ (Ow σ s.env a ∨ Θ.F a)) → a ≠ D := fun a h => let ⟨o, e⟩ := r.tracked h; ne a o e
  refine ⟨⟨r.len, r.slen, fun i x e => ?_, fun i a o e1 e2 => (r.obj i a o e1 e2).mono le (upd_ne (nL a (.inl (List.mem_of_getElem? e1)))), r.nd, r.sep, r.one, fun a f => ?_, ?_, fun a o _ q => ?_, r.self⟩, le⟩
  · have q := r.slot i x e
    cases x with
    | emp => trivial
    | val v => obtain ⟨u, h1, h2⟩ := q; exact ⟨u, h1, h2.mono le⟩
    | own l => obtain ⟨a, us, h1, h2, h3⟩ := q; exact ⟨a, us, h1, (upd_ne (nL a (.inr (.inl ⟨i, h1, .inl ⟨l, e⟩⟩)))).trans h2, h3.mono le⟩
    | ins c fs => obtain ⟨a, dx, gs, h1, h2, h3⟩ := q; exact ⟨a, dx, gs, h1, (upd_ne (nL a (.inr (.inl ⟨i, h1, .inr ⟨c, fs, e⟩⟩)))).trans h2, h3.mono le⟩
  · rcases f with f | rfl
    · obtain ⟨⟨o, e⟩, h2⟩ := r.fo a f
      exact ⟨⟨o, (upd_ne (ne a o e)).trans e⟩, h2⟩
    · exact ⟨⟨_, upd_same⟩, fun q => nL _ (.inl q) rfl, fun q => nL _ (.inr (.inl q)) rfl⟩
  · subst hw; exact .refl _
  · subst hw; exact q
theorem StR.minus {D : Addr} {w0 : Vw} (r' : StR (plusF Θ D w0) ρ' s' σ' H') (b0 : Vw.Le Θ.w0 w0) (fk : ∀ a o, Θ.F a → Θ.w0.H a = some o → w0.H a = some o) (hD : ∀ a, Θ.F a → a ≠ D) :
    StR Θ ρ' s' σ' (erase H' D) ∧ (vw (plusF Θ D w0) ρ' s'.env σ' H').Le (vw Θ ρ' s'.env σ' (erase H' D)) := by
  have le : (vw (plusF Θ D w0) ρ' s'.env σ' H').Le (vw Θ ρ' s'.env σ' (erase H' D)) := ⟨rfl, fun _ _ e => e, fun a o e n =>
    ⟨(erase_ne fun z => n (.inr (.inr (.inr z)))).trans e, fun q => n (q.imp id fun q => q.imp id .inl)⟩⟩
  have hDD := r'.fo D (.inr rfl)
  have nL : ∀ a, (a ∈ ρ' ∨ Ow σ' s'.env a) → a ≠ D := fun a h z => by
    subst z
    rcases h with h | h
    · exact hDD.2.1 h
    · exact hDD.2.2 h
  refine ⟨⟨r'.len, r'.slen, fun i x e => ?_, fun i a o e1 e2 => (r'.obj i a o e1 e2).mono le (erase_ne (nL a (.inl (List.mem_of_getElem? e1)))), r'.nd, r'.sep, r'.one, fun a f => ?_, b0.trans (r'.base.trans le), fun a o f q => ?_, r'.self⟩, le⟩
  · have q := r'.slot i x e
    cases x with
    | emp => trivial
    | val v => obtain ⟨u, h1, h2⟩ := q; exact ⟨u, h1, h2.mono le⟩
    | own l => obtain ⟨a, us, h1, h2, h3⟩ := q; exact ⟨a, us, h1, (erase_ne (nL a (.inr ⟨i, h1, .inl ⟨l, e⟩⟩))).trans h2, h3.mono le⟩
    | ins c fs => obtain ⟨a, dx, gs, h1, h2, h3⟩ := q; exact ⟨a, dx, gs, h1, (erase_ne (nL a (.inr ⟨i, h1, .inr ⟨c, fs, e⟩⟩))).trans h2, h3.mono le⟩
  · obtain ⟨⟨o, e⟩, h2⟩ := r'.fo a (.inl f)
    exact ⟨⟨o, (erase_ne (hD a f)).trans e⟩, h2⟩
  · exact (erase_ne (hD a f)).trans (r'.fkeep a o (.inl f) (fk a o f q))
/-- what raises is not in a comprehension -/
def nox {α : Type} (m : M α) : M α := fun s => match m s with
  | .ex _ _ _ => .no
  | r => r
theorem Out.nox {Θ' : Fx} {α : Type} {m : M α} {Q : α → S → Prop} (h : Out Θ (nox m s) Q) : Out Θ' (m s) Q := by
  unfold Mi.nox at h
  cases e : m s with
  | ok a s' => rw [e] at h; exact h
  | ex c fs s' => rw [e] at h; exact h.elim
  | no => rw [e] at h; exact h.elim
def wipeM (ws : List Nat) : M Unit := fun s => .ok () { s with env := wipeE ws s.env }
def compL (ws : List Nat) (g : IV → M Unit) (t : M Bool) (e : M IV) : List IV → List IV → M (List IV)
  | [], acc => M.pure acc
  | x :: r, acc => M.bind (nox (g x)) fun _ => M.bind (nox t) fun b => if b = true then M.bind (nox e) fun y => if acc.length < szl then M.bind (wipeM ws) fun _ => compL ws g t e r (acc ++ [y]) else M.no
    else M.bind (wipeM ws) fun _ => compL ws g t e r acc
def mComp (ws : List Nat) (mi : M (List IV)) (g : IV → M Unit) (t : M Bool) (e : M IV) : M (List IV) := M.bind mi fun l => M.bind (wipeM ws) fun _ => compL ws g t e l []
def tYesM : M Bool := M.pure true
end Mi
set_option Elab.async false
set_option linter.all false
set_option maxRecDepth 100000
namespace Mi
open PySem L2 PyProof.Rows

variable {Θ : Fx} {ρ ρ' : List Addr} {s s' : S} {σ σ' : L2.St} {H H' : Hp} {X : Cx} {K : PySem.W.Frag}

abbrev E0X : XK := fun _ _ _ => False
def Sub (K : PySem.W.Frag) (Θ' : Fx) : Prop := Θ'.K = K ∧ Θ'.EX = EXof K Θ'.F Θ'.w0 E0X
theorem upd_at {D : Addr} {o : HO} (h : H D = some o) : H = upd (erase H D) D o := by
  funext b
  unfold upd erase
  split
  · rename_i e; subst e; exact h
  · rfl
theorem tLc_of {l : Nat} {ws us : List Nat} {mi : M (List IV)} {g : IV → M Unit} {t : M Bool} {me : M IV} {Q : VK} (hs : ∀ i ∈ us, i ∈ ws) (h : tNw Θ (mComp ws mi g t me) σ H Q) :
    tLc (tI Θ mi) (fun v σ H Q => ∃ Θ', Sub Θ.K Θ' ∧ tGt Θ' us g v σ H Q) (fun σ H Q => ∃ Θ', Sub Θ.K Θ' ∧ tT Θ' t σ H Q) (fun σ H Q => ∃ Θ', Sub Θ.K Θ' ∧ tE Θ' me σ H Q) ws σ H Q := by
  obtain ⟨ρ, s, r, o⟩ := h
  refine ⟨ρ, s, r, o.bind.mono fun l s1 q ρ1 H1 J st it => fun D hD => ?_⟩
  have q := q.bind
  have q : Out Θ (compL ws g t me l [] { s1 with env := wipeE ws s1.env }) _ := q
  have stw := st.r.wipeE ws
  have wz0 : ∀ (i : Nat) (x : Slot), (wipeE ws s1.env)[i]? = some x → x ≠ .emp → i ∉ ws := fun i x e n => (wipeE_get e n).1
  have stc := stw.r.congr (σ' := wipe σ ws) (wipe_length σ ws) fun i x e n => wipe_out (wz0 i x e n)
  have stA := stw.trans stc
  refine ⟨fun i k H' => k = l.length - i ∧ i ≤ l.length ∧ ∃ ρ' s' H0 acc vs, Stp Θ ρ1 s1 σ H1 ρ' s' (wipe σ ws) H0 ∧ H0 D = none ∧ H' = upd H0 D (.lst vs) ∧ RepL (vw Θ ρ' s'.env (wipe σ ws) H0) vs acc ∧
      (∀ (i : Nat) (x : Slot), s'.env[i]? = some x → x ≠ .emp → i ∉ ws) ∧
      Out Θ (compL ws g t me (l.drop i) acc s') (fun l' s2 => ∀ ρ2 H2 vs', Stp Θ ρ' s' (wipe σ ws) H0 ρ2 s2 (wipe σ ws) H2 → (∀ (i : Nat) (x : Slot), s2.env[i]? = some x → x ≠ .emp → i ∉ ws) → H2 D = none → RepL (vw Θ ρ2 s2.env (wipe σ ws) H2) vs' l' → Q (.ref D) (upd H2 D (.lst vs'))),
    ⟨l.length, by simp, Nat.zero_le _, ρ1, _, H1, [], [], stA, hD, rfl, .nil, wz0, q.mono fun l' s2 q2 ρ2 H2 vs' st2 wz hD2 rl => ?_⟩, ?_⟩
  · have back := st2.r.congr (σ' := σ) (wipe_length σ ws).symm fun i x e n => (wipe_out (wz i x e n)).symm
    exact q2 ρ2 H2 D vs' (st.trans (stA.trans (st2.trans back))) hD2 (rl.mono back.le)
  rintro i k H' ⟨rfl, hi, ρ', s', H0, acc, vs, st', hD0, rfl, rl, wz, o'⟩
  obtain ⟨rP, leP⟩ := st'.r.plus (vs := vs) hD0 rfl
  generalize hw0 : (⟨Θ.K, upd H0 D (.lst vs), fun a => a ∈ ρ' ∨ (Ow (wipe σ ws) s'.env a ∨ (Θ.F a ∨ a = D)), ρ'⟩ : Vw) = w0 at rP leP
  have hw0H : w0.H = upd H0 D (.lst vs) := by rw [← hw0]
  have hSub : Sub Θ.K (plusF Θ D w0) := ⟨rfl, rfl⟩
  have ok := it _ (st'.le.trans leP) fun a h => rP.tracked h
  have b0 : Vw.Le Θ.w0 w0 := by
    have := st'.r.base.trans leP
    rw [← hw0]
    exact this
  have hDF : ∀ a, Θ.F a → a ≠ D := fun a f z => by
    obtain ⟨⟨o, e⟩, _⟩ := st'.r.fo a f
    subst z; rw [hD0] at e; cases e
  have fk : ∀ a o, Θ.F a → Θ.w0.H a = some o → w0.H a = some o := fun a o f e => by
    rw [hw0H, upd_ne (hDF a f)]; exact st'.r.fkeep a o f e
  by_cases hlt : i < l.length
  · refine .inr ?_
    have ex : l[i]? = some l[i] := by simp [hlt]
    obtain ⟨go, yl⟩ := ok.1 i _ ex
    -- from a state behind the turn to the next one
    have again : ∀ {ρ5 s5 σ3 H5} {acc' : List IV} {vs' : List V}, Stp (plusF Θ D w0) ρ' s' (wipe σ ws) (upd H0 D (.lst vs)) ρ5 s5 σ3 H5 → wipe σ3 ws = wipe σ ws → σ3.length = σ.length →
        Stp Θ ρ' s' (wipe σ ws) H0 ρ5 { s5 with env := wipeE ws s5.env } (wipe σ ws) (erase H5 D) ∧ (vw (plusF Θ D w0) ρ5 s5.env σ3 H5).Le (vw Θ ρ5 (wipeE ws s5.env) (wipe σ ws) (erase H5 D)) := fun {ρ5 s5 σ3 H5 acc' vs'} st5 hwp hl => by
      have a1 := st5.r.wipeE ws
      have a2 := a1.r.congr (σ' := wipe σ ws) (by rw [wipe_length, hl]) fun i x e n => by
        rw [← hwp]; exact wipe_out (wipeE_get e n).1
      obtain ⟨a3, a4⟩ := a2.r.minus b0 fk hDF
      exact ⟨⟨a3, leP.trans (st5.le.trans (a1.le.trans (a2.le.trans a4)))⟩, a1.le.trans (a2.le.trans a4)⟩
    refine ⟨go, fun H3 => l.length - (i + 1) = l.length - (i + 1) ∧ i + 1 ≤ l.length ∧ ∃ ρ' s' H0 acc vs, Stp Θ ρ1 s1 σ H1 ρ' s' (wipe σ ws) H0 ∧ H0 D = none ∧ H3 = upd H0 D (.lst vs) ∧ RepL (vw Θ ρ' s'.env (wipe σ ws) H0) vs acc ∧
      (∀ (i : Nat) (x : Slot), s'.env[i]? = some x → x ≠ .emp → i ∉ ws) ∧
      Out Θ (compL ws g t me (l.drop (i + 1)) acc s') (fun l' s2 => ∀ ρ2 H2 vs', Stp Θ ρ' s' (wipe σ ws) H0 ρ2 s2 (wipe σ ws) H2 → (∀ (i : Nat) (x : Slot), s2.env[i]? = some x → x ≠ .emp → i ∉ ws) → H2 D = none → RepL (vw Θ ρ2 s2.env (wipe σ ws) H2) vs' l' → Q (.ref D) (upd H2 D (.lst vs'))),
      fun H3 n3 => ⟨l.length - (i + 1), by omega, n3⟩, fun v H'' y => ?_⟩
    obtain ⟨gr, rv⟩ := yl v H'' y
    have st2 := rP.grow gr
    rw [List.drop_eq_getElem_cons hlt] at o'
    refine ⟨plusF Θ D w0, hSub, ρ', s', l[i], st2.r, rv, o'.bind.nox.mono fun _ s3 q3 ρ3 σ3 H3 st3 ol => ?_⟩
    have hwp : wipe σ3 ws = wipe σ ws := (wipe_only ol hs).trans wipe_wipe
    have hl3 : σ3.length = σ.length := ol.1.trans (wipe_length σ ws)
    refine ⟨hwp, plusF Θ D w0, hSub, ρ3, s3, st3.r, q3.bind.nox.mono fun b s4 q4 ρ4 H4 b' st4 eb => ?_⟩
    subst eb
    have wzN : ∀ (s5 : S) (i : Nat) (x : Slot), (wipeE ws s5.env)[i]? = some x → x ≠ .emp → i ∉ ws := fun s5 i x e n => (wipeE_get e n).1
    cases b' with
    | true =>
      rw [if_pos rfl] at q4 ⊢
      refine ⟨plusF Θ D w0, hSub, ρ4, s4, st4.r, q4.bind.nox.mono fun y s5 q5 ρ5 H5 y' st5 ry => ?_⟩
      have stT := st2.trans (st3.trans (st4.trans st5))
      have hat : H5 D = some (.lst vs) := st5.r.fkeep D _ (.inr rfl) (by show w0.H D = _; rw [hw0H]; exact upd_same)
      obtain ⟨n1, n2⟩ := again (acc' := acc) (vs' := vs) stT hwp hl3
      split at q5
      · rename_i hz
        refine ⟨vs, hat, by rw [rl.length]; exact lt_szl hz, rfl, hlt, ρ5, _, erase H5 D, acc ++ [y], vs ++ [y'], st'.trans n1, erase_at, upd_erase, (rl.mono n1.le).append (.cons (ry.mono n2) .nil), wzN s5, ?_⟩
        exact (show Out Θ (compL ws g t me (l.drop (i + 1)) _ _) _ from q5.bind).mono fun l' s6 q6 ρ6 H6 vs6 st6 => q6 ρ6 H6 vs6 (n1.trans st6)
      · exact q5.elim
    | false =>
      rw [if_neg Bool.false_ne_true] at q4 ⊢
      have stT := st2.trans (st3.trans st4)
      have hat : H4 D = some (.lst vs) := st4.r.fkeep D _ (.inr rfl) (by show w0.H D = _; rw [hw0H]; exact upd_same)
      obtain ⟨n1, n2⟩ := again (acc' := acc) (vs' := vs) stT hwp hl3
      exact ⟨rfl, hlt, ρ4, _, erase H4 D, acc, vs, st'.trans n1, erase_at, upd_at hat, rl.mono n1.le, wzN s4, (show Out Θ (compL ws g t me (l.drop (i + 1)) _ _) _ from q4.bind).mono fun l' s6 q6 ρ6 H6 vs6 st6 => q6 ρ6 H6 vs6 (n1.trans st6)⟩
  · have e' : i = l.length := by omega
    subst e'
    rw [List.drop_length] at o'
    exact .inl ⟨ok.2 _ (Nat.le_refl _), o' ρ' H0 vs st'.r.here wz hD0 rl⟩
theorem pe_ex {e : Expr} {t : Fx → TE} {C : Fx → Prop} (h : ∀ Θ', C Θ' → PE X e (t Θ')) : PE X e (fun σ H Q => ∃ Θ', C Θ' ∧ t Θ' σ H Q) := ⟨fun pins s σ H Q I ⟨Θ', c, q⟩ => (h Θ' c).run pins s σ H Q I q⟩
theorem pg_ex {e : Expr} {t : Fx → TG} {C : Fx → Prop} (h : ∀ Θ', C Θ' → PG X e (t Θ')) : PG X e (fun v σ H Q => ∃ Θ', C Θ' ∧ t Θ' v σ H Q) := ⟨fun pins s σ H v u Q I r ⟨Θ', c, q⟩ => (h Θ' c).run pins s σ H v u Q I r q⟩
theorem pts_ex {es : List Expr} {t : Fx → TT} {C : Fx → Prop} (h : ∀ Θ', C Θ' → PTs X es (t Θ')) : PTs X es (fun σ H Q => ∃ Θ', C Θ' ∧ t Θ' σ H Q) := ⟨fun pins s σ H Q I ⟨Θ', c, q⟩ => (h Θ' c).run pins s σ H Q I q⟩
theorem p_none : PTs X [] (tT Θ tYesM) := ⟨fun pins s σ H Q I q => pts_nil.run pins s σ H Q I (by obtain ⟨ρ, s, r, o⟩ := q; exact o ρ H true r.here rfl)⟩
theorem p_one {c : Expr} {t : M Bool} (h : PT X c (tT Θ t)) : PTs X [c] (tT Θ t) := pts_one h
section
variable {elt tg iter : Expr} {ifs : List Expr} {scope : Scope} {own : List (Str × Nat)} {pos : Pos} {us : List Nat} {mi : M (List IV)} {g : IV → M Unit} {t : M Bool} {me : M IV}
/-- the context of a comprehension's block -/
abbrev BX (X : Cx) (scope : Scope) (s : Shared) (H : Hp) (C : Addr) (cl : List (Str × Addr)) (fp : List Addr) : Cx := X.blk s H scope (compEnvC scope cl C X.env) fp
theorem n_comp (hc : X.calm = true) (hN : X.N.Nodup) (hK : Θ.K = X.K) (hi : PI X tg iter (tI Θ mi)) (ok : BlkOk X.N X.env.scope scope own) (hus : ∀ i ∈ us, i ∈ own.map (·.2))
    (hg : ∀ s H C cl fp Θ', Sub X.K Θ' → PG (BX X scope s H C cl fp) tg (tGt Θ' us g)) (ht : ∀ s H C cl fp Θ', Sub X.K Θ' → PTs (BX X scope s H C cl fp) ifs (tT Θ' t)) (he : ∀ s H C cl fp Θ', Sub X.K Θ' → PE (BX X scope s H C cl fp) elt (tE Θ' me))
    (hs : ∀ x, foldedSetIterable iter X.env x = pure x := by intro _; rfl) : PE X (.ListComp elt [⟨tg, iter, ifs, 0⟩] scope pos) (tNw Θ (mComp (own.map (·.2)) mi g t me)) := by
  rw [← hK] at hg ht he
  exact peLe (pe_lc hc hN hi ok (fun s H C cl fp => pg_ex (hg s H C cl fp)) (fun s H C cl fp => pts_ex (ht s H C cl fp)) (fun s H C cl fp => pe_ex (he s H C cl fp)) hs) fun σ H Q q => tLc_of (l := 0) hus q
/-- name = [..] -/
theorem s_ownC {i : Nat} {y : Str} {py spos : Pos} (hc : X.calm = true) (hN : X.N.Nodup) (hK : Θ.K = X.K) (hy : X.N[i]? = some y) (hyl : X.env.scope.names.lookup y = some .local)
    (hsw : swapsWith (.ListComp elt [⟨tg, iter, ifs, 0⟩] scope pos) (some (.Name y py)) spos.line X.env = pure true) (hi : PI X tg iter (tI Θ mi)) (ok : BlkOk X.N X.env.scope scope own) (hus : ∀ i ∈ us, i ∈ own.map (·.2))
    (hg : ∀ s H C cl fp Θ', Sub X.K Θ' → PG (BX X scope s H C cl fp) tg (tGt Θ' us g)) (ht : ∀ s H C cl fp Θ', Sub X.K Θ' → PTs (BX X scope s H C cl fp) ifs (tT Θ' t)) (he : ∀ s H C cl fp Θ', Sub X.K Θ' → PE (BX X scope s H C cl fp) elt (tE Θ' me))
    (hs : ∀ x, foldedSetIterable iter X.env x = pure x := by intro _; rfl) : PS X (.Assign [.Name y py] (.ListComp elt [⟨tg, iter, ifs, 0⟩] scope pos) spos) (tS Θ (mOwn i (mComp (own.map (·.2)) mi g t me))) := by
  rw [← hK] at hg ht he
  exact psLe (ps_setLc hc hN hy hyl hsw hi ok (fun s H C cl fp => pg_ex (hg s H C cl fp)) (fun s H C cl fp => pts_ex (ht s H C cl fp)) (fun s H C cl fp => pe_ex (he s H C cl fp)) hs) fun D σ H q => tS_own (fun _ _ _ z => tLc_of (l := 0) hus z) q
theorem s_setC {i : Nat} {y : Str} {py spos : Pos} (hc : X.calm = true) (hN : X.N.Nodup) (hK : Θ.K = X.K) (hy : X.N[i]? = some y) (hyl : X.env.scope.names.lookup y = some .local)
    (hsw : swapsWith (.ListComp elt [⟨tg, iter, ifs, 0⟩] scope pos) (some (.Name y py)) spos.line X.env = pure true) (hi : PI X tg iter (tI Θ mi)) (ok : BlkOk X.N X.env.scope scope own) (hus : ∀ i ∈ us, i ∈ own.map (·.2))
    (hg : ∀ s H C cl fp Θ', Sub X.K Θ' → PG (BX X scope s H C cl fp) tg (tGt Θ' us g)) (ht : ∀ s H C cl fp Θ', Sub X.K Θ' → PTs (BX X scope s H C cl fp) ifs (tT Θ' t)) (he : ∀ s H C cl fp Θ', Sub X.K Θ' → PE (BX X scope s H C cl fp) elt (tE Θ' me))
    (hs : ∀ x, foldedSetIterable iter X.env x = pure x := by intro _; rfl) : PS X (.Assign [.Name y py] (.ListComp elt [⟨tg, iter, ifs, 0⟩] scope pos) spos) (tS Θ (mSet i (mFl (mComp (own.map (·.2)) mi g t me)))) := by
  rw [← hK] at hg ht he
  exact psLe (ps_setLc hc hN hy hyl hsw hi ok (fun s H C cl fp => pg_ex (hg s H C cl fp)) (fun s H C cl fp => pts_ex (ht s H C cl fp)) (fun s H C cl fp => pe_ex (he s H C cl fp)) hs) fun D σ H q => tS_set (fun _ _ _ z => tLc_of (l := 0) hus (tNw_fl z)) q
end
end Mi
set_option Elab.async false
set_option linter.all false
set_option maxRecDepth 100000
namespace Mi
open PySem L2 PyProof.Rows

variable {Θ : Fx} {ρ ρ' : List Addr} {s s' : S} {σ σ' : L2.St} {H H' : Hp} {X : Cx} {K : PySem.W.Frag}

/-! ### an own list that is read -/
def scI : IV → Bool
  | .non | .bl _ | .int _ | .str _ => true
  | _ => false
theorem sc_any {w w' : Vw} {v : V} {x : IV} (h : scI x = true) (r : RepV w v x) : RepV w' v x := by
  cases r <;> first | (exact absurd (show false = true from h) Bool.false_ne_true) | constructor
/-- slot i's own list as the first operand; what comes is a scalar -/
def mOwnO (f : IV → IV → Option IV) (i : Nat) (mb : M IV) : M IV := fun s => match s.env[i]? with
  | some (.own _) => M.bind mb (fun y s => match s.env[i]? with
    | some (.own l) => match f (.fl l) y with
      | some z => if scI z = true then .ok z s else .no
      | none => .no
    | _ => .no) s
  | _ => .no
/-- a built-in upon it -/
def mOwnA (f : List IV → Option IV) (i : Nat) : M IV := fun s => match s.env[i]? with
  | some (.own l) => match f [.fl l] with
    | some z => if scI z = true then .ok z s else .no
    | none => .no
  | _ => .no
theorem own_rep {l : List IV} {i : Nat} (r : StR Θ ρ s σ H) (e : s.env[i]? = some (.own l)) : ∃ a, σ[i]? = some (some (.ref a)) ∧ RepV (vw Θ ρ (setE i (.val (.fl l)) s).env σ H) (.ref a) (.fl l) := by
  obtain ⟨a, vs, h1, h2, h3⟩ := r.slot i _ e
  have st := r.freeze e
  obtain ⟨v, k1, k2⟩ := st.r.slot i (.val (.fl l)) (by show (s.env.set i _)[i]? = _; rw [List.getElem?_set_self', e]; rfl)
  rw [h1] at k1; cases k1
  exact ⟨a, h1, k2⟩
theorem tE_ownO {r2 : R2} {f : IV → IV → Option IV} {i : Nat} {mb : M IV} {Q : VK} (hr : OpS Θ r2 f) (h : tE Θ (mOwnO f i mb) σ H Q) : tOp r2 (tVar i) (tE Θ mb) σ H Q := by
  obtain ⟨ρ, s, r, o⟩ := h
  unfold mOwnO at o
  split at o
  · rename_i l0 e0
    obtain ⟨a, h1, _⟩ := own_rep r e0
    refine ⟨_, h1, ρ, s, r, o.bind.mono fun y s1 q ρ1 H1 yv st ry => ?_⟩
    split at q
    · rename_i l e1
      obtain ⟨a', k1, k2⟩ := own_rep st.r e1
      rw [h1] at k1; cases k1
      split at q
      · rename_i z ez
        split at q
        · rename_i hz
          have fz := st.r.freeze e1
          exact hr ρ1 _ σ H1 (.fl l) y _ yv z Q fz.r k2 (ry.mono fz.le) ez fun H2 v g rv => q ρ1 H2 v (st.trans (st.r.grow g)) (sc_any hz rv)
        · exact q.elim
      · exact q.elim
    · exact q.elim
  · exact o.elim
theorem tE_ownA {rc : List V → Hp → VK → Prop} {f : List IV → Option IV} {i : Nat} {Q : VK} (hr : CaS Θ rc f) (h : tE Θ (mOwnA f i) σ H Q) : tCB rc (tCons (tVar i) tNil) σ H Q := by
  obtain ⟨ρ, s, r, o⟩ := h
  unfold mOwnA at o
  split at o
  · rename_i l e1
    obtain ⟨a, h1, k2⟩ := own_rep r e1
    refine ⟨_, h1, ?_⟩
    split at o
    · rename_i z ez
      split at o
      · rename_i hz
        have fz := r.freeze e1
        exact hr ρ _ σ H [.fl l] [.ref a] z Q fz.r (.cons k2 .nil) ez fun H2 v g rv => o ρ H2 v (r.grow g) (sc_any hz rv)
      · exact o.elim
    · exact o.elim
  · exact o.elim
/-- found[k], found own -/
def mOwnIx (i : Nat) (mb : M IV) : M IV := fun s => match s.env[i]? with
  | some (.own _) => M.bind mb (fun y s => match s.env[i]?, y with
    | some (.own l), .int k => match atI l k with
      | some z => .ok z s
      | none => .no
    | _, _ => .no) s
  | _ => .no
theorem tE_ownIx {i : Nat} {mb : M IV} {Q : VK} (hK : Θ.K = K) (h : tE Θ (mOwnIx i mb) σ H Q) : tOp (rIx K) (tVar i) (tE Θ mb) σ H Q := by
  obtain ⟨ρ, s, r, o⟩ := h
  unfold mOwnIx at o
  split at o
  · rename_i l0 e0
    obtain ⟨a, h1, _⟩ := own_rep r e0
    refine ⟨_, h1, ρ, s, r, o.bind.mono fun y s1 q ρ1 H1 yv st ry => ?_⟩
    split at q
    · rename_i l k e1
      obtain ⟨a', vs, k1, k2, k3⟩ := st.r.slot i _ e1
      rw [h1] at k1; cases k1
      split at q
      · rename_i z ez
        obtain ⟨v, e2, rv⟩ := atI_rep k3 ez
        cases ry
        exact .inl ⟨_, vs, k, v, rfl, rfl, SqL.of k2, e2, q ρ1 H1 v st rv⟩
      · exact q.elim
    · exact q.elim
  · exact o.elim
section
variable {a b c e : Expr} {ma mb mc : M IV} {pos p p1 : Pos} {mr : M (List IV)} {es : List Expr} {i : Nat} {x y : Str}
theorem e_ownIx (hK : Θ.K = X.K) (hN : X.N[i]? = some x := by rfl) (hv : Vis X.env.scope x := by first | exact Or.inl rfl | exact Or.inr (Or.inl rfl) | exact Or.inr (Or.inr rfl)) (hb : PE X b (tE Θ mb)) (hs : PlainIx b) (hd : (x == ("__debug__" : Str)) = false := by decide) (hcd : (x == ("__classdict__" : Str)) = false := by decide) :
    PE X (.Subscript (.Name x p1) b pos) (tE Θ (mOwnIx i mb)) := peLe (pe_ix ix_seq (pe_var hN hv hd hcd) hb hs) fun _ _ _ h => tE_ownIx hK h
theorem e_ownCmp {op : CmpOp} {r : R2} {f : IV → IV → Option IV} (hN : X.N[i]? = some x := by rfl) (hv : Vis X.env.scope x := by first | exact Or.inl rfl | exact Or.inr (Or.inl rfl) | exact Or.inr (Or.inr rfl)) (ho : OpR X (compareOp op) r) (hr : OpS Θ r f) (hb : PE X b (tE Θ mb)) (hm : behindInMarks op b = false) (hd : (x == ("__debug__" : Str)) = false := by decide) (hcd : (x == ("__classdict__" : Str)) = false := by decide) :
    PE X (.Compare (.Name x p1) [op] [b] pos) (tE Θ (mOwnO f i mb)) := peLe (pe_cmpR ho (pe_var hN hv hd hcd) hb hm) fun _ _ _ h => tE_ownO hr h
theorem t_ownCmp {op : CmpOp} {r : R2} {f : IV → IV → Option IV} (hN : X.N[i]? = some x := by rfl) (hv : Vis X.env.scope x := by first | exact Or.inl rfl | exact Or.inr (Or.inl rfl) | exact Or.inr (Or.inr rfl)) (ho : OpR X (compareOp op) r) (hr : OpS Θ r f) (hb : PE X b (tE Θ mb)) (hm : behindInMarks op b = false) (hd : (x == ("__debug__" : Str)) = false := by decide) (hcd : (x == ("__classdict__" : Str)) = false := by decide) :
    PT X (.Compare (.Name x p1) [op] [b] pos) (tT Θ (mTst (mOwnO f i mb))) := ptLe (pt_cmpR ho (pe_var hN hv hd hcd) hb hm) fun σ H Q q => tst_of q fun _ z => tE_ownO hr z
theorem e_ownB {id : String} {r : List V → Hp → VK → Prop} {f : List IV → Option IV} (hN : X.N[i]? = some y := by rfl) (hv : Vis X.env.scope y := by first | exact Or.inl rfl | exact Or.inr (Or.inl rfl) | exact Or.inr (Or.inr rfl)) (hc : CallR X (.builtin id) r) (hr : CaS Θ r f) (hg : Gl X x) (hm : X.mg x = none) (hvv : bootBuiltins x = some (.builtin id)) (hn : x ≠ "__name__" := by decide) (hdb : (x == ("__debug__" : Str)) = false := by decide)
    (hd : (y == ("__debug__" : Str)) = false := by decide) (hcd : (y == ("__classdict__" : Str)) = false := by decide) : PE X (.Call (.Name x p) [.Name y p1] [] pos) (tE Θ (mOwnA f i)) :=
  peLe (pe_callB hc hg hm hvv (pa_cons (pe_var hN hv hd hcd) pa_nil) hn hdb) fun _ _ _ q => tE_ownA hr q
theorem e_ownTy {T : String} {r : List V → Hp → VK → Prop} {f : List IV → Option IV} (hN : X.N[i]? = some y := by rfl) (hv : Vis X.env.scope y := by first | exact Or.inl rfl | exact Or.inr (Or.inl rfl) | exact Or.inr (Or.inr rfl)) (hc : CallR X (.type T) r) (hr : CaS Θ r f) (hg : Gl X x) (hm : X.mg x = none) (hvv : bootBuiltins x = some (.type T)) (hn : x ≠ "__name__" := by decide) (hdb : (x == ("__debug__" : Str)) = false := by decide)
    (hd : (y == ("__debug__" : Str)) = false := by decide) (hcd : (y == ("__classdict__" : Str)) = false := by decide) : PE X (.Call (.Name x p) [.Name y p1] [] pos) (tE Θ (mOwnA f i)) :=
  peLe (pe_callTy hc hg hm hvv (pa_cons (pe_var hN hv hd hcd) pa_nil) hn hdb) fun _ _ _ q => tE_ownA hr q
end

/-! ### lists of the store -/
theorem StR.setSto (r : StR Θ ρ s σ H) {j : Nat} {a : Addr} {l0 l : List IV} {vs : List V} (e : ρ[j]? = some a) (e0 : s.sto[j]? = some (.lst l0)) (hl : RepL (vw Θ ρ s.env σ H) vs l) :
    Stp Θ ρ s σ H ρ { s with sto := s.sto.set j (.lst l) } σ (upd H a (.lst vs)) := by
  have am : a ∈ ρ := List.mem_of_getElem? e
  have le : (vw Θ ρ s.env σ H).Le (vw Θ ρ s.env σ (upd H a (.lst vs))) := ⟨rfl, fun _ _ q => q, fun b o q n => ⟨(upd_ne fun z => n (.inl (by rw [z]; exact am))).trans q, n⟩⟩
  refine ⟨⟨r.len, by simp [r.slen], fun i x q => ?_, fun i b o e1 e2 => ?_, r.nd, r.sep, r.one, fun b f => ?_, r.base.trans le, fun b o f q => ?_, r.self⟩, le⟩
  · have z := r.slot i x q
    cases x with
    | emp => trivial
    | val v => obtain ⟨u, h1, h2⟩ := z; exact ⟨u, h1, h2.mono le⟩
    | own k => obtain ⟨b, us, h1, h2, h3⟩ := z; exact ⟨b, us, h1, (upd_ne fun z => r.sep b ⟨i, h1, .inl ⟨k, q⟩⟩ (by rw [z]; exact am)).trans h2, h3.mono le⟩
    | ins c fs => obtain ⟨b, dx, gs, h1, h2, h3⟩ := z; exact ⟨b, dx, gs, h1, (upd_ne fun z => r.sep b ⟨i, h1, .inr ⟨c, fs, q⟩⟩ (by rw [z]; exact am)).trans h2, h3.mono le⟩
  · by_cases hj : j = i
    · subst hj
      rw [e] at e1; cases e1
      have e2 : (s.sto.set j (.lst l))[j]? = some o := e2
      rw [List.getElem?_set_self', e0] at e2
      cases e2
      exact ⟨vs, upd_same, hl.mono le⟩
    · have e2 : (s.sto.set j (.lst l))[i]? = some o := e2
      rw [List.getElem?_set_ne hj] at e2
      exact (r.obj i b o e1 e2).mono le (upd_ne fun z => hj (r.nd j i a e (by rw [← z]; exact e1)))
  · obtain ⟨⟨o, q⟩, n1, n2⟩ := r.fo b f
    exact ⟨⟨o, (upd_ne fun z => n1 (by rw [z]; exact am)).trans q⟩, n1, n2⟩
  · exact (upd_ne fun z => (r.fo b f).2.1 (by rw [z]; exact am)).trans (r.fkeep b o f q)
theorem StR.alloc (r : StR Θ ρ s σ H) {p : Addr} {l : List IV} {vs : List V} (hp : H p = none) (hl : RepL (vw Θ ρ s.env σ H) vs l) :
    Stp Θ ρ s σ H (ρ ++ [p]) { s with sto := s.sto ++ [.lst l] } σ (upd H p (.lst vs)) := by
  have ne : ∀ a o, H a = some o → a ≠ p := fun a o e z => by subst z; rw [hp] at e; cases e
  have nL : ∀ a, (a ∈ ρ ∨ (Ow σ s.env a ∨ Θ.F a)) → a ≠ p := fun a h => let ⟨o, e⟩ := r.tracked h; ne a o e
  have le : (vw Θ ρ s.env σ H).Le (vw Θ (ρ ++ [p]) s.env σ (upd H p (.lst vs))) := ⟨rfl, fun i a q => by
      have q : ρ[i]? = some a := q
      show (ρ ++ [p])[i]? = some a
      rw [List.getElem?_append_left (List.getElem?_eq_some_iff.mp q).1]; exact q, fun b o q n => ⟨(upd_ne (ne b o q)).trans q, fun z => by
      rcases z with z | z
      · rcases List.mem_append.mp z with z | z
        · exact n (.inl z)
        · exact ne b o q (by simpa using z)
      · exact n (.inr z)⟩⟩
  have at_ : ∀ (i : Nat) (a : Addr), (ρ ++ [p])[i]? = some a → ρ[i]? = some a ∨ (i = ρ.length ∧ a = p) := fun i a q => by
    by_cases hi : i < ρ.length
    · rw [List.getElem?_append_left hi] at q; exact .inl q
    · rw [List.getElem?_append_right (by omega)] at q
      have : i - ρ.length = 0 := by
        have := (List.getElem?_eq_some_iff.mp q).1
        simp at this; omega
      rw [this] at q
      simp at q
      exact .inr ⟨by omega, q.symm⟩
  refine ⟨⟨r.len, by simp [r.slen], fun i x q => ?_, fun i b o e1 e2 => ?_, fun i j a h1 h2 => ?_, fun a h z => ?_, r.one, fun b f => ?_, r.base.trans le, fun b o f q => ?_, r.self⟩, le⟩
  · have z := r.slot i x q
    cases x with
    | emp => trivial
    | val v => obtain ⟨u, h1, h2⟩ := z; exact ⟨u, h1, h2.mono le⟩
    | own k => obtain ⟨b, us, h1, h2, h3⟩ := z; exact ⟨b, us, h1, (upd_ne (nL b (.inr (.inl ⟨i, h1, .inl ⟨k, q⟩⟩)))).trans h2, h3.mono le⟩
    | ins c fs => obtain ⟨b, dx, gs, h1, h2, h3⟩ := z; exact ⟨b, dx, gs, h1, (upd_ne (nL b (.inr (.inl ⟨i, h1, .inr ⟨c, fs, q⟩⟩)))).trans h2, h3.mono le⟩
  · have e2 : (s.sto ++ [.lst l])[i]? = some o := e2
    rcases at_ i b e1 with e1 | ⟨rfl, rfl⟩
    · have hi : i < s.sto.length := by rw [← r.slen]; exact (List.getElem?_eq_some_iff.mp e1).1
      rw [List.getElem?_append_left hi] at e2
      exact (r.obj i b o e1 e2).mono le (upd_ne (nL b (.inl (List.mem_of_getElem? e1))))
    · rw [r.slen, List.getElem?_append_right (Nat.le_refl _), Nat.sub_self] at e2
      simp at e2
      subst e2
      exact ⟨vs, upd_same, hl.mono le⟩
  · rcases at_ i a h1 with k1 | ⟨k1, k1'⟩
    · rcases at_ j a h2 with k2 | ⟨k2, k2'⟩
      · exact r.nd i j a k1 k2
      · exact absurd k2' (nL _ (.inl (List.mem_of_getElem? k1)))
    · rcases at_ j a h2 with k2 | ⟨k2, _⟩
      · exact absurd k1' (nL _ (.inl (List.mem_of_getElem? k2)))
      · rw [k1, k2]
  · rcases List.mem_append.mp z with z | z
    · exact r.sep a h z
    · exact nL a (.inr (.inl h)) (by simpa using z)
  · obtain ⟨⟨o, q⟩, n1, n2⟩ := r.fo b f
    refine ⟨⟨o, (upd_ne (ne b o q)).trans q⟩, fun z => ?_, n2⟩
    rcases List.mem_append.mp z with z | z
    · exact n1 z
    · exact ne b o q (by simpa using z)
  · exact (upd_ne (nL b (.inr (.inr f)))).trans (r.fkeep b o f q)
/-- a new list that lives in the store -/
def mRf (m : M (List IV)) : M IV := M.bind m fun l s => .ok (.ref s.sto.length) { s with sto := s.sto ++ [.lst l] }
theorem e_newR {e : Expr} {m : M (List IV)} (he : PE X e (tNw Θ m)) : PE X e (tE Θ (mRf m)) := peLe he fun σ H Q ⟨ρ, s, r, o⟩ =>
  ⟨ρ, s, r, o.bind.mono fun l s1 q ρ1 H0 p vs st hp rl => by
    have st2 := st.r.alloc hp rl
    refine q _ _ _ (st.trans st2) (.ref ?_)
    show (ρ1 ++ [p])[s1.sto.length]? = some p
    rw [← st.r.slen, List.getElem?_append_right (Nat.le_refl _), Nat.sub_self]; rfl⟩
def ixS (μ : List SO) : IV → IV → Option IV
  | .ref j, .int k => match μ[j]? with
    | some (.lst l) => atI l k
    | _ => none
  | x, y => ixV x y
def mIx (ma mb : M IV) : M IV := M.bind ma fun x => M.bind mb fun y s => match ixS s.sto x y with
  | some z => .ok z s
  | none => .no
section
variable {a b c e : Expr} {ma mb mc : M IV} {pos p p1 : Pos} {mr : M (List IV)} {es : List Expr} {i : Nat} {x y : Str}
theorem e_ixM (hK : Θ.K = X.K) (ha : PE X a (tE Θ ma)) (hb : PE X b (tE Θ mb)) (hs : PlainIx b) : PE X (.Subscript a b pos) (tE Θ (mIx ma mb)) :=
  peLe (pe_ix ix_seq ha hb hs) fun σ H Q h => by
    refine (tM.bind (R := RepV) h).imp fun x H1 ⟨ρ1, s1, xi, r1, rx, o1⟩ => ?_
    refine ⟨ρ1, s1, r1, o1.bind.mono fun yi s2 q ρ2 H2 y st2 ry => ?_⟩
    split at q
    · rename_i z ez
      unfold ixS at ez
      split at ez
      · rename_i j k
        split at ez
        · rename_i l el
          cases ry
          cases rx with | ref hj =>
          have hj2 := st2.le.pre _ _ hj
          obtain ⟨vs, h1, h2⟩ := st2.r.obj j _ _ hj2 el
          obtain ⟨v, e2, rv⟩ := atI_rep h2 ez
          exact .inl ⟨_, vs, k, v, rfl, rfl, SqL.of h1, e2, q ρ2 H2 v st2 rv⟩
        · cases ez
      · exact ixV_ok hK ρ2 s2 σ H2 xi yi x y z Q st2.r (rx.mono st2.le) ry ez fun H3 v g rv => q ρ2 H3 v (st2.trans (st2.r.grow g)) rv
    · exact q.elim
/-- o[i] = v, o a list of the store -/
def mSetIx (mv mo mi : M IV) : M Flw := M.bind mv fun v => M.bind mo fun o => M.bind mi fun i s => match o, i with
  | .ref j, .int k => match s.sto[j]? with
    | some (.lst l) => match ixN l.length k with
      | some n => .ok .nx { s with sto := s.sto.set j (.lst (l.set n v)) }
      | none => .no
    | _ => .no
  | _, _ => .no
theorem s_setIx (hv : PE X e (tE Θ mc)) (ho : PE X a (tE Θ ma)) (hi : PE X b (tE Θ mb)) (hs : swapsWithSole [.Subscript a b p] e pos.line X.env = pure false := by rfl) (hw : swappedStores [.Subscript a b p] e X.env = pure none := by rfl)
    (h1 : (assignEach [.Subscript a b p] X.env).map (·.2) = [assign (.Subscript a b p) X.env] := by rfl)
    (hq : ∀ v, assign (.Subscript a b p) X.env v = (do
      let ov ← holding [v] (eval a X.env)
      let iv ← holding [v, ov] (eval b X.env)
      standAt p
      holding [v, ov, iv] (setItem ov iv v)
      release [v, ov, iv] []) := by intro _; rfl) : PS X (.Assign [.Subscript a b p] e pos) (tS Θ (mSetIx mc ma mb)) :=
  psLe (ps_asg hv (pg_sub ho hi set_list hq) hs hw h1) fun D σ H h => (tS.bind (R := RepV) h).imp fun v H1 ⟨ρ1, s1, vi, r1, rv, o1⟩ =>
    ⟨ρ1, s1, r1, o1.bind.mono fun oi s2 q2 ρ2 H2 o st2 ro => ⟨ρ2, s2, st2.r, q2.bind.mono fun ii s3 q3 ρ3 H3 iv st3 ri => by
      split at q3
      · rename_i j k
        split at q3
        · rename_i l el
          split at q3
          · rename_i n en
            cases ri
            cases ro with | ref hj =>
            have hj3 := st3.le.pre _ _ hj
            obtain ⟨vs, h1, h2⟩ := st3.r.obj j _ _ hj3 el
            have st4 := st3.r.setSto hj3 el (h2.set ((rv.mono st2.le).mono st3.le) n)
            exact ⟨_, vs, k, n, rfl, rfl, h1, by rw [h2.length]; exact en, q3 ρ3 σ _ (st2.trans (st3.trans st4))⟩
          · exact q3.elim
        · exact q3.elim
      · exact q3.elim⟩⟩
end
end Mi
set_option Elab.async false
set_option linter.all false
set_option maxRecDepth 100000
namespace Mi
open PySem L2 PyProof.Rows

variable {Θ : Fx} {ρ ρ' : List Addr} {s s' : S} {σ σ' : L2.St} {H H' : Hp} {X : Cx} {K : PySem.W.Frag}

/-! ### an instance that is being made -/
/-- slot i's own object is written anew -/
theorem StR.setIns (r : StR Θ ρ s σ H) {i : Nat} {p c dx : Addr} {fs0 fs : List (Str × IV)} {gs : List (Str × V)} (h1 : σ[i]? = some (some (.ref p))) (h2 : s.env[i]? = some (.ins c fs0))
    (hl : RepF (vw Θ ρ s.env σ H) gs fs) : Stp Θ ρ s σ H ρ (setE i (.ins c fs) s) σ (upd H p (.ins c dx gs)) := by
  have pE : ∀ a, a ≠ p → upd H p (.ins c dx gs) a = H a := fun a h => upd_ne h
  have ow : Ow σ s.env p := ⟨i, h1, .inr ⟨c, fs0, h2⟩⟩
  have hO : ∀ a, Ow σ (s.env.set i (.ins c fs)) a → Ow σ s.env a := fun a ⟨j, q1, q2⟩ => by
    by_cases hj : i = j
    · subst hj; rw [h1] at q1; cases q1; exact ow
    · rw [List.getElem?_set_ne hj] at q2; exact ⟨j, q1, q2⟩
  have le : Vw.Le (vw Θ ρ s.env σ H) (vw Θ ρ (s.env.set i (.ins c fs)) σ (upd H p (.ins c dx gs))) := by
    refine ⟨rfl, fun _ _ e => e, fun a o e n => ?_⟩
    have hap : a ≠ p := fun z => n (.inr (.inl (by rw [z]; exact ow)))
    exact ⟨(pE a hap).trans e, fun q => n (q.imp id fun q => q.imp (hO a) id)⟩
  have oth : ∀ (j : Nat) (y : Slot) (a : Addr), i ≠ j → s.env[j]? = some y → isOwn y = true → σ[j]? = some (some (.ref a)) → a ≠ p := fun j y a hj e hy q z => by
    subst z
    exact hj (r.one i j a h1 q (.inr ⟨c, fs0, h2⟩) (own_iff.mpr ⟨y, e, hy⟩))
  have hi : i < s.env.length := (List.getElem?_eq_some_iff.mp h2).1
  refine ⟨⟨by simp [setE, r.len], r.slen, fun j y e => ?_, fun j a o e1 e2 => ?_, r.nd, fun a h => r.sep a (hO a h), fun j k a q1 q2 q3 q4 => ?_, fun a h => ?_, r.base.trans le, fun a o f q => ?_, fun j c' fs' q => by
    by_cases hj : i = j
    · subst hj; exact r.self i c fs0 h2
    · have q : (s.env.set i (.ins c fs))[j]? = some (.ins c' fs') := q
      rw [List.getElem?_set_ne hj] at q
      exact r.self j c' fs' q⟩, le⟩
  · by_cases hj : i = j
    · subst hj
      have e' : (s.env.set i (.ins c fs))[i]? = some (.ins c fs) := by simp [hi]
      have e'' : y = .ins c fs := Option.some.inj (e.symm.trans e')
      subst e''
      exact ⟨p, dx, gs, h1, upd_same, hl.mono le⟩
    · have e' : s.env[j]? = some y := by
        have : (s.env.set i (.ins c fs))[j]? = some y := e
        rwa [List.getElem?_set_ne hj] at this
      have q := r.slot j y e'
      cases y with
      | emp => trivial
      | val z => obtain ⟨u, h1, h2⟩ := q; exact ⟨u, h1, h2.mono le⟩
      | own l => obtain ⟨a, us, k1, k2, k3⟩ := q; exact ⟨a, us, k1, (pE a (oth j _ a hj e' rfl k1)).trans k2, k3.mono le⟩
      | ins c fs => obtain ⟨a, dx, gs, k1, k2, k3⟩ := q; exact ⟨a, dx, gs, k1, (pE a (oth j _ a hj e' rfl k1)).trans k2, k3.mono le⟩
  · exact (r.obj j a o e1 e2).mono le (pE a fun z => r.sep p ow (by rw [← z]; exact List.mem_of_getElem? e1))
  · have d : ∀ m : Nat, ((∃ l, (s.env.set i (.ins c fs))[m]? = some (.own l)) ∨ ∃ c' fs', (s.env.set i (.ins c fs))[m]? = some (.ins c' fs')) → ((∃ l, s.env[m]? = some (.own l)) ∨ ∃ c fs, s.env[m]? = some (.ins c fs)) := fun m z => by
      by_cases hm : i = m
      · subst hm; exact .inr ⟨c, fs0, h2⟩
      · rw [List.getElem?_set_ne hm] at z; exact z
    exact r.one j k a q1 q2 (d j q3) (d k q4)
  · obtain ⟨⟨o, e⟩, n1, n2⟩ := r.fo a h
    have hap : a ≠ p := fun z => n2 (by rw [z]; exact ow)
    exact ⟨⟨o, (pE a hap).trans e⟩, n1, fun q => n2 (hO a q)⟩
  · exact (pE a fun z => (r.fo a f).2.2 (by rw [z]; exact ow)).trans (r.fkeep a o f q)
inductive RI where
  | ok (fs : List (Str × IV)) (μ : List SO) | ex (c : Addr) (fs : List (Str × IV)) (μ : List SO) | no
abbrev FnI := List IV → List SO → RI
def spI (K : PySem.W.Frag) (C : Addr) (fn : FnI) : Sp := fun vs H Q E => ∃ x dx ws H0 ρ μ xs F, vs = .ref x :: ws ∧ H0 x = none ∧ H0 dx = none ∧ dx ≠ x ∧ H = upd (upd H0 dx (.own x)) x (.ins C dx []) ∧ EnR K F ρ μ H0 ∧ RepL (cw K F ρ H0) ws xs ∧ match fn xs μ with
  | .ok fs μ' => ∀ ρ' H' dx' gs, EnR K F ρ' μ' H' → (cw K F ρ H0).Le (cw K F ρ' H') → (∀ a o, F a → H0 a = some o → H' a = some o) → H' x = some (.ins C dx' gs) → ¬ (cw K F ρ' H').L x → RepF (cw K F ρ' H') gs fs → Q .non H'
  | .ex c fs μ' => ∀ ρ' H' d, EnR K F ρ' μ' H' → (cw K F ρ H0).Le (cw K F ρ' H') → (∀ a o, F a → H0 a = some o → H' a = some o) → XDR (cw K F ρ' H') H' d fs → E (.ref c) (some d) H'
  | .no => False
def endI (C : Addr) (f : Flw) (o : Option Slot) (μ : List SO) : RI := match o with
  | some (.ins c fs) => if c = C then (match f with | .nx => .ok fs μ | .rt .non => .ok fs μ | _ => .no) else .no
  | _ => .no
def runI (n np : Nat) (C : Addr) (m : M Flw) : FnI := fun xs μ => if xs.length + 1 = np then (match m ⟨.ins C [] :: (xs.map .val ++ List.replicate (n - 1 - xs.length) .emp), μ⟩ with
  | .ok f s => endI C f s.env[0]? s.sto
  | .ex c fs s => .ex c fs s.sto
  | .no => .no) else .no
theorem start_okI {N : List Str} {F : Addr → Prop} {ws : List V} {xs : List IV} {μ : List SO} {EX : Addr → List (Str × IV) → S → Prop} {x dx C : Addr} {H0 : Hp} (e : EnR K F ρ μ H0) (r : RepL (cw K F ρ H0) ws xs) (hl : ws.length + 1 ≤ N.length) (hx : H0 x = none) (hd : H0 dx = none) (hn : dx ≠ x) :
    StR ⟨K, F, cw K F ρ H0, EX, x⟩ ρ ⟨.ins C [] :: (xs.map .val ++ List.replicate (N.length - 1 - xs.length) .emp), μ⟩ (L2.start N (.ref x :: ws)) (upd (upd H0 dx (.own x)) x (.ins C dx [])) := by
  have hxl := r.length
  have ne : ∀ a o, H0 a = some o → a ≠ x ∧ a ≠ dx := fun a o q => ⟨fun z => (by rw [z, hx] at q; cases q), fun z => (by rw [z, hd] at q; cases q)⟩
  have kp : ∀ a o, H0 a = some o → upd (upd H0 dx (.own x)) x (.ins C dx []) a = some o := fun a o q => by rw [upd_ne (ne a o q).1, upd_ne (ne a o q).2]; exact q
  have env1 : ∀ (i : Nat) (y : Slot), (xs.map Slot.val ++ List.replicate (N.length - 1 - xs.length) Slot.emp)[i]? = some y → isOwn y = false ∧ ∀ z, y = .val z → xs[i]? = some z := fun i y q => by
    by_cases hi : i < xs.length
    · rw [List.getElem?_append_left (by simpa using hi), List.getElem?_map] at q
      cases e' : xs[i]? with
      | none => rw [e'] at q; cases q
      | some z => rw [e'] at q; cases q; exact ⟨rfl, fun z' h => by cases h; rfl⟩
    · rw [List.getElem?_append_right (by simpa using hi)] at q
      have := List.mem_of_getElem? q
      rw [List.mem_replicate] at this
      rw [this.2]; exact ⟨rfl, fun z h => nomatch h⟩
  have st0 : (L2.start N (.ref x :: ws))[0]? = some (some (.ref x)) := by unfold L2.start; rfl
  have hO : ∀ a, Ow (L2.start N (.ref x :: ws)) (.ins C [] :: (xs.map Slot.val ++ List.replicate (N.length - 1 - xs.length) Slot.emp)) a → a = x := fun a ⟨i, h1, h2⟩ => by
    rw [own_iff] at h2
    obtain ⟨y, h2, h3⟩ := h2
    cases i with
    | zero => rw [st0] at h1; cases h1; rfl
    | succ i =>
      rw [List.getElem?_cons_succ] at h2
      rw [(env1 i y h2).1] at h3; cases h3
  have le : (cw K F ρ H0).Le (vw ⟨K, F, cw K F ρ H0, EX, x⟩ ρ (.ins C [] :: (xs.map Slot.val ++ List.replicate (N.length - 1 - xs.length) Slot.emp)) (L2.start N (.ref x :: ws)) (upd (upd H0 dx (.own x)) x (.ins C dx []))) :=
    ⟨rfl, fun _ _ q => q, fun a o q n => ⟨kp a o q, fun z => z.elim (fun z => n (.inl z)) fun z => z.elim (fun z => (ne a o q).1 (hO a z)) fun z => n (.inr z)⟩⟩
  refine ⟨by simp [L2.start]; omega, e.slen, fun i y q => ?_, fun i a o e1 e2 => ?_, e.nd, fun a h z => ?_, fun i j a h1 h2 h3 h4 => ?_, fun a h => ?_, le, fun a o _ q => kp a o q, fun i c fs q => by
    cases i with
    | zero => exact st0
    | succ i => have q : (xs.map Slot.val ++ List.replicate (N.length - 1 - xs.length) Slot.emp)[i]? = some (.ins c fs) := q
                have := (env1 i _ q).1
                cases this⟩
  · cases i with
    | zero =>
      have q : some (Slot.ins C []) = some y := q
      cases q
      exact ⟨x, dx, [], st0, upd_same, .nil⟩
    | succ i =>
      have q : (xs.map Slot.val ++ List.replicate (N.length - 1 - xs.length) Slot.emp)[i]? = some y := q
      obtain ⟨h1, h2⟩ := env1 i y q
      cases y with
      | emp => trivial
      | val z =>
        have hz := h2 z rfl
        obtain ⟨v, hv, rv⟩ := r.get hz
        refine ⟨v, ?_, rv.mono le⟩
        have hi : i < ws.length := (List.getElem?_eq_some_iff.mp hv).1
        show (L2.start N (.ref x :: ws))[i + 1]? = some (some v)
        unfold L2.start
        rw [List.map_cons, List.cons_append, List.getElem?_cons_succ, List.getElem?_append_left (by simpa using hi), List.getElem?_map, hv]
        rfl
      | own l => cases h1
      | ins c fs => cases h1
  · have q := e.obj i a o e1 e2
    have hk : ∃ u, H0 a = some u := by
      cases o with
      | lst l => obtain ⟨vs, h2, _⟩ := q; exact ⟨_, h2⟩
      | dk kvs => obtain ⟨vs, h2, _⟩ := q; exact ⟨_, h2⟩
      | dt kvs => obtain ⟨vs, h2, _⟩ := q; exact ⟨_, h2⟩
      | ins c fs => obtain ⟨dx', gs, h2, _⟩ := q; exact ⟨_, h2⟩
    obtain ⟨u, hu⟩ := hk
    exact q.mono le (by rw [show (cw K F ρ H0).H a = some u from hu]; exact kp a u hu)
  · have := hO a h; subst this
    obtain ⟨i, hi, e'⟩ := List.mem_iff_getElem.mp z
    have e'' : ρ[i]? = some a := List.getElem?_eq_some_iff.mpr ⟨hi, e'⟩
    have hs : i < μ.length := by rw [← e.slen]; exact hi
    have q := e.obj i a μ[i] e'' (by simp [hs])
    cases e3 : μ[i] with
    | lst l => rw [e3] at q; obtain ⟨vs, h2, _⟩ := q; have h2 : H0 a = _ := h2; rw [hx] at h2; cases h2
    | dk kvs => rw [e3] at q; obtain ⟨vs, h2, _⟩ := q; have h2 : H0 a = _ := h2; rw [hx] at h2; cases h2
    | dt kvs => rw [e3] at q; obtain ⟨vs, h2, _⟩ := q; have h2 : H0 a = _ := h2; rw [hx] at h2; cases h2
    | ins c fs => rw [e3] at q; obtain ⟨dx', gs, h2, _⟩ := q; have h2 : H0 a = _ := h2; rw [hx] at h2; cases h2
  · have d : ∀ i : Nat, ((∃ l, (Slot.ins C [] :: (xs.map Slot.val ++ List.replicate (N.length - 1 - xs.length) Slot.emp))[i]? = some (.own l)) ∨ ∃ c fs, (Slot.ins C [] :: (xs.map Slot.val ++ List.replicate (N.length - 1 - xs.length) Slot.emp))[i]? = some (.ins c fs)) → i = 0 := fun i z => by
      obtain ⟨y, z1, z2⟩ := own_iff.mp z
      cases i with
      | zero => rfl
      | succ i => rw [List.getElem?_cons_succ] at z1; rw [(env1 i y z1).1] at z2; cases z2
    rw [d i h3, d j h4]
  · obtain ⟨⟨o, q⟩, n1⟩ := e.fo a h
    exact ⟨⟨o, kp a o q⟩, n1, fun z => (ne a o q).1 (hO a z)⟩
section
variable {P : Program} {w : World} {mg : Str → Option Value} {base : Heap} {CX : CXT}
theorem okI {x qual : Str} {st : Stmt} {f C : Addr} {fd : FuncData} {N ps : List Str} {k : Nat} {m : M Flw} (F : Fun K x qual st f fd) (S : FnScope N ps (defScope st))
    (hb : ∀ (cdv : Value) (A : Around) (outer : List Env) (s : Shared) (H : Hp) (E : XK) (Θ : Fx), Room k (A.deeper (envOfC qual (defScope st) s.heap.objs.size f cdv)) → Θ.K = K → Θ.EX = EXof K Θ.F Θ.w0 E →
      PSs (cxOf CX P w K mg base N qual (defScope st) f cdv A outer s H E) (defBody st) (tS Θ m)) :
    FnOk P w K mg base CX (k + 1) f fd ps (spI K C (runI N.length ps.length C m)) := by
  obtain ⟨oc, od, kV, doc, pm, an, cdv, ct, osl, rfl, lk, hcd⟩ := F.ex
  have hlen : ∀ vs H Q E, spI K C (runI N.length ps.length C m) vs H Q E → vs.length = ps.length := fun vs H Q E ⟨x, dx, ws, H0, ρ, μ, xs, FF, e, _, _, _, _, en, rl, q⟩ => by
    subst e
    unfold runI at q
    by_cases hl : xs.length + 1 = ps.length
    · rw [List.length_cons, rl.length]; exact hl
    · rw [if_neg hl] at q; exact q.elim
  refine fn_of lk hcd S hlen fun A outer s H vs Q E hr hsp => ?_
  have hl := hlen _ _ _ _ hsp
  obtain ⟨x, dx, ws, H0, ρ, μ, xs, FF, rfl, hx, hd, hn, rfl, en, rl, q⟩ := hsp
  have hle : ws.length + 1 ≤ N.length := by
    have := congrArg List.length S.pre
    rw [List.length_take] at this
    rw [List.length_cons] at hl
    omega
  unfold runI at q
  rw [if_pos (by rw [List.length_cons, rl.length] at hl; exact hl)] at q
  refine ⟨_, hb cdv A outer s _ E ⟨K, FF, cw K FF ρ H0, EXof K FF (cw K FF ρ H0) E, x⟩ hr rfl rfl, ρ, _, start_okI (C := C) en rl hle hx hd hn, ?_⟩
  cases e : m ⟨.ins C [] :: (xs.map .val ++ List.replicate (N.length - 1 - xs.length) .emp), μ⟩ with
  | no => rw [e] at q; exact q.elim
  | ex c fs s' => rw [e] at q; exact q
  | ok f s' =>
    rw [e] at q
    dsimp only at q
    intro ρ' σ' H' st
    have en' := st.r.en
    have le' : (cw K FF ρ H0).Le (cw K FF ρ' H') := st.r.base.trans st.r.leC
    cases e0 : s'.env[0]? with
    | none => rw [e0] at q; exact q.elim
    | some y =>
      rw [e0] at q
      cases y with
      | ins c fs =>
        unfold endI at q
        dsimp only at q
        by_cases hc : c = C
        · rw [if_pos hc] at q
          subst hc
          obtain ⟨a, dx', gs, h1, h2, h3⟩ := st.r.slot 0 _ e0
          have h4 := st.r.self 0 c fs e0
          rw [h1] at h4
          have h5 : a = x := by injection h4 with h4; injection h4 with h4; injection h4
          subst h5
          have ow : Ow σ' s'.env a := ⟨0, h1, .inr ⟨c, fs, e0⟩⟩
          have nL : ¬ (cw K FF ρ' H').L a := fun z => z.elim (st.r.sep a ow) fun z => (st.r.fo a z).2.2 ow
          have fk : ∀ b o, FF b → H0 b = some o → H' b = some o := fun b o f e => st.r.fkeep b o f e
          cases f with
          | nx => exact q ρ' H' dx' gs en' le' fk h2 nL (h3.mono st.r.leC)
          | rt v =>
            cases v with
            | non => exact fun u ru => by cases ru; exact q ρ' H' dx' gs en' le' fk h2 nL (h3.mono st.r.leC)
            | _ => exact q.elim
          | bk => exact q.elim
          | ct => exact q.elim
        · rw [if_neg hc] at q; exact q.elim
      | _ => exact q.elim
end
/-! ### C(..): a new instance, a value from then on -/
def mMake (C : Addr) (fn : FnI) (m : M (List IV)) : M IV := M.bind m fun xs s => match fn xs s.sto with
  | .ok fs μ => .ok (.obj C fs) { s with sto := μ }
  | .ex c fs μ => .ex c fs { s with sto := μ }
  | .no => .no
/-- .. an object of the store -/
def mMakeR (C : Addr) (fn : FnI) (m : M (List IV)) : M IV := M.bind m fun xs s => match fn xs s.sto with
  | .ok fs μ => .ok (.ref μ.length) { s with sto := μ ++ [.ins C fs] }
  | .ex c fs μ => .ex c fs { s with sto := μ }
  | .no => .no
section
variable {CX : CXT} {E : XK} {k : Nat} {f C : Addr} {fd : FuncData} {ps : List Str} {fn : FnI} {x : Str} {p pos : Pos} {e : Expr} {es : List Expr} {mr : M (List IV)}
theorem tE_make {Q : VK} (hK : Θ.K = K) (hE : Θ.EX = EXof K Θ.F Θ.w0 E) (h : tE Θ (mMake C fn mr) σ H Q) : tMake C (spI K C fn) [] E (tA Θ mr) σ H Q :=
  (tM.bind (R := RepL) h).imp fun vs H1 ⟨ρ1, s1, xs, r1, rl, o⟩ => by
    subst hK
    intro x dx hx hd hn
    rw [List.append_nil]
    refine ⟨x, dx, vs, H1, ρ1, s1.sto, xs, calleeF Θ s1 σ, rfl, hx, hd, hn, rfl, r1.enOw, rl, ?_⟩
    cases e : fn xs s1.sto with
    | no => rw [e] at o; exact o.elim
    | ok fs μ' =>
      rw [e] at o
      intro ρ' H' dx' gs en le k hxx nL rf
      exact ⟨rfl, o ρ' H' (.ref x) (r1.back en le k) (.obj hxx nL rf)⟩
    | ex c fs μ' =>
      rw [e] at o
      intro ρ' H' d en le k xd
      have o : Θ.EX c fs { s1 with sto := μ' } := o
      rw [hE] at o
      have st := r1.back en le k
      have lc := st.r.leC
      obtain ⟨gs, h1, h2, h3⟩ := xd
      exact o ρ' H' d st.r.en (st.r.base.trans lc) st.r.fkeep ⟨gs, h1, (lc.keep d _ h1 h2).2, h3.mono lc⟩
theorem e_make (M : Mk X.K C f) (F : FnOk X.prog X.w X.K X.mg X.base CX k f fd ps (spI X.K C fn)) (hr : Room (k + 1) X.A) (hg : Gl X x) (hm : X.mg x = some (.ref C)) (hb : L2.Binds X.K fd ps []) (hx : Passes CX X E)
    (hK : Θ.K = X.K) (hE : Θ.EX = EXof X.K Θ.F Θ.w0 E) (ha : PA X (e :: es) (tA Θ mr))
    (hd : (x == ("__debug__" : Str)) = false := by decide) (hs : starEach (e :: es) X.env = (false, eval e X.env) :: starEach es X.env := by rfl) (hpl : (backTo pos (starEach es X.env)).any (·.1) = false := by rfl) :
    PE X (.Call (.Name x p) (e :: es) [] pos) (tE Θ (mMake C fn mr)) := peLe (pe_make M F hr hg hm hb .nil hx ha hd hs hpl) fun _ _ _ h => tE_make hK hE h
end
/-! ### fields -/
section
variable {C : Addr} {f : Str} {o value : Expr} {mo mv : M IV} {pos pos' : Pos}
def fldOf (C : Addr) (f : Str) (x : IV) (s : S) : Option IV := match x with
  | .obj c fs => if c = C then fs.lookup f else none
  | .ref j => match s.sto[j]? with
    | some (.ins c fs) => if c = C then fs.lookup f else none
    | _ => none
  | _ => none
def mFld (C : Addr) (f : Str) (m : M IV) : M IV := M.bind m fun x s => match fldOf C f x s with
  | some v => .ok v s
  | none => .no
theorem e_fld (hK : Θ.K = X.K) (cl : Cls X.K C) (na : NoAttr X.K C f) (ho : PE X o (tE Θ mo)) (hb : attributeBase o f X.env (eval o X.env) = eval o X.env := by rfl) : PE X (.Attribute o f pos) (tE Θ (mFld C f mo)) :=
  peLe (pe_fld ho hb) fun σ H Q h => (tM.bind (R := RepV) h).imp fun x H1 ⟨ρ1, s1, xi, r1, rx, o1⟩ => by
    split at o1
    · rename_i v ev
      unfold fldOf at ev
      split at ev
      · split at ev
        · rename_i hc; subst hc
          cases rx with | obj h1 h2 h3 =>
          obtain ⟨u, k1, k2⟩ := h3.lookup ev
          exact ⟨_, _, _, _, u, rfl, h1, cl, na, k1, o1 ρ1 H1 u r1.here k2⟩
        · cases ev
      · split at ev
        · rename_i c fs el
          split at ev
          · rename_i hc; subst hc
            cases rx with | ref hj =>
            obtain ⟨dx, gs, h1, h2⟩ := r1.obj _ _ _ hj el
            obtain ⟨u, k1, k2⟩ := h2.lookup ev
            exact ⟨_, _, _, _, u, rfl, h1, cl, na, k1, o1 ρ1 H1 u r1.here k2⟩
          · cases ev
        · cases ev
      · cases ev
    · exact o1.elim
/-- self.f = e in an __init__ (self in slot 0) -/
def mSelf (C : Addr) (f : Str) (mv : M IV) : M Flw := M.bind mv fun v s => match s.env[(0 : Nat)]? with
  | some (.ins c fs) => if c = C ∧ fs.length < 100 then .ok .nx (setE 0 (.ins c (putI f v fs)) s) else .no
  | _ => .no
theorem s_self {x : Str} {p1 : Pos} (hN : X.N[0]? = some x := by rfl) (hvv : Vis X.env.scope x := by first | exact Or.inl rfl | exact Or.inr (Or.inl rfl) | exact Or.inr (Or.inr rfl)) (cl : Cls X.K C) (na : NoAttr X.K C f) (hv : PE X value (tE Θ mv))
    (hs : swapsWith value (some (.Attribute (.Name x p1) f pos')) pos.line X.env = pure false := by rfl)
    (hd : (x == ("__debug__" : Str)) = false := by decide) (hcd : (x == ("__classdict__" : Str)) = false := by decide) : PS X (.Assign [.Attribute (.Name x p1) f pos'] value pos) (tS Θ (mSelf C f mv)) := by
  refine psLe (ps_fld (pe_var hN hvv hd hcd) hv hs) fun D σ H h => (tS.bind (R := RepV) h).imp fun v H1 ⟨ρ1, s1, vi, r1, rv, o1⟩ => ?_
  split at o1
  · rename_i c fs e0
    split at o1
    · rename_i hz
      obtain ⟨a, dx, gs, h1, h2, h3⟩ := r1.slot 0 _ e0
      obtain ⟨hc, hz⟩ := hz
      subst hc
      refine ⟨_, h1, a, c, dx, gs, rfl, h2, cl, na, by rw [h3.length]; omega, ?_⟩
      exact o1 ρ1 σ _ (r1.setIns h1 e0 (h3.putI rv))
    · exact o1.elim
  · exact o1.elim
end
end Mi
set_option Elab.async false
set_option linter.all false
set_option maxRecDepth 100000
namespace Mi
open PySem L2 PyProof.Rows

variable {Θ : Fx} {ρ ρ' : List Addr} {s s' : S} {σ σ' : L2.St} {H H' : Hp} {X : Cx} {K : PySem.W.Frag}

/-! ### a * b -/
theorem list_mulW (l : Addr) (items : Array Value) (n : Nat) (sl : Array (Option Value)) (x : Int) (u : Tok) (hc0 : ¬(!Builtin.List.listFitsIndex x) = true) (hc1 : ¬items.size * x.toNat > (2 ^ 63 - 1) / 8) (hc2 : ¬Builtin.List.listTooLong (items.size * x.toNat) = true) :
    Meets (Builtin.«list.__mul__» ⟨[.ref l, .int x u], []⟩) (fun _ R s => s.heap.get? l = some { cls := .type "list", dict := none, data := .seq items n, slots := sl } ∧ R (.ok (.ret (Value.ref s.heap.objs.size))) { s with heap := s.heap.push { cls := Value.type "list", data := Data.seq (List.foldl (fun x1 x2 => x1 ++ x2) #[] (List.replicate (if items.isEmpty = true then 0 else x.toNat) items)) }, toks := s.toks }) :=
  .of_wp fun prog w A R s h => by
    obtain ⟨hp, g, d, tk, os⟩ := s; obtain ⟨hl, h⟩ := h
    have hsz := PySem.AutoListH.joined_fits hc2
    wp_walk; refine wpAny_ite_false (decide_eq_false (Nat.not_lt.mpr hsz)) ?_; wp_walk; exact ⟨_, rfl, h⟩
theorem rmulW (a : Int) (t : Tok) (l : Addr) (items : Array Value) (n : Nat) (sl : Array (Option Value)) :
    Meets (Builtin.«int.__rmul__» ⟨[.int a t, .ref l], []⟩) (fun _ R s => s.heap.get? l = some { cls := .type "list", dict := none, data := .seq items n, slots := sl } ∧ R (.ok (.ret Value.notImplemented)) s) :=
  .of_wp fun prog w A R s h => by obtain ⟨hp, g, d, tk, os⟩ := s; obtain ⟨hl, h⟩ := h; wp_walk; exact ⟨_, rfl, h⟩
def rRepR (K : PySem.W.Frag) : R2 := fun x y H Q => ∃ l k xs, x = .ref l ∧ y = .int k ∧ SqL K H l xs ∧ -(2 ^ 63) ≤ k ∧ k < 2 ^ 63 ∧ xs.length * k.toNat ≤ sizeLine ∧
  ∀ p, H p = none → Q (.ref p) (upd H p (.lst (List.replicate k.toNat xs).flatten))
theorem op_repR : OpR X (binaryOp .Mult) (rRepR X.K) := by
  intro pins s σ H x y v u Q I rx ry h
  obtain ⟨l, k, xs, rfl, rfl, hH, h1, h2, hz, q⟩ := h
  cases rx
  obtain ⟨t, rfl⟩ := ry
  obtain ⟨z, its, n, sl, r, hl, e⟩ := lstZ I hH
  have hlen : its.toArray.size * k.toNat ≤ sizeLine := by rw [List.size_toArray, ← hl]; exact hz
  have hcap : ¬ its.toArray.size * k.toNat > (2 ^ 63 - 1) / 8 := by
    have : (sizeLine : Nat) ≤ (2 ^ 63 - 1) / 8 := by decide
    omega
  have hfit : ¬ (!Builtin.List.listFitsIndex k) = true := by
    rw [fitsIndex_both h1 h2]
    exact Bool.false_ne_true
  have hlong : ¬ Builtin.List.listTooLong (its.toArray.size * k.toNat) = true := by
    rw [notLongL hlen]
    exact Bool.false_ne_true
  have hnew : List.foldl (fun x1 x2 => x1 ++ x2) #[] (List.replicate (if its.toArray.isEmpty = true then 0 else k.toNat) its.toArray) = (List.replicate k.toNat its).flatten.toArray := by
    have f0 : ∀ m : Nat, List.foldl (fun x1 x2 => x1 ++ x2) #[] (List.replicate m its.toArray) = (List.replicate m its).flatten.toArray := fun m => by
      have := foldl_rep its m []
      rw [List.nil_append] at this
      exact this
    rw [f0]
    cases its with
    | nil => simp
    | cons a r' => rw [if_neg (by simp)]
  refine wpAny_binaryOp_repeat_ref (T := "list") (U := "int") (by decide) ⟨_, e, rfl⟩ (fun s' => typeIs_int s' k t) noFill_list_mul F.fills_int_mul F.slot_int_rmul repeat_list F.slot_int_index.lookup
    (call_meets F.slot_int_rmul (typeIs_int s k t) F.entry_int_rmul (F.args_int_rmul_2 _ _) (rmulW k t l its.toArray n sl)
      ⟨e, rfl, ⟨_, e, rfl⟩, call_meets F.slot_list_mul ⟨_, e, rfl⟩ F.entry_list_mul (F.args_list_mul_2 _ _) (list_mulW l its.toArray n sl k t hfit hcap hlong) ⟨e, ?_⟩⟩)
  rw [hnew]
  exact ⟨.ref _, _, I.lnew (t' := s.toks) (r.rep k.toNat) (by rw [PyProof.Rows.lm_len_rep_flat, Nat.mul_comm]; exact hz), rfl, q _ I.fresh⟩
def mulV : IV → IV → Option IV
  | .int i, .int j => if i.natAbs < 18446744073709551616 ∨ j.natAbs < 18446744073709551616 then some (.int (i * j)) else none
  | .fl l, .int k => if k.natAbs ≤ 1000000000 ∧ l.length * k.toNat ≤ szl then some (.fl (List.replicate k.toNat l).flatten) else none
  | _, _ => none
def rMulV (K : PySem.W.Frag) : R2 := fun x y H Q => rI CMul (fun i j => .int (i * j)) x y H Q ∨ rRepR K x y H Q
theorem op_mulV : OpR X (binaryOp .Mult) (rMulV X.K) := op_mul.or op_repR
theorem mulV_ok {K : PySem.W.Frag} (hK : Θ.K = K) : OpS Θ (rMulV K) mulV := by
  intro ρ s σ H x y xv yv z Q r rx ry e b
  subst hK
  unfold mulV at e
  split at e
  · split at e
    · cases rx; cases ry; cases e; rename_i h
      exact .inl ⟨_, _, rfl, rfl, h.imp (fun h => by omega) (fun h => by omega), b.now r (.int _)⟩
    · cases e
  · split at e
    · rename_i h; cases e
      cases ry
      cases rx with | fl h1 l1 =>
      exact .inr ⟨_, _, _, rfl, rfl, h1.sq, by omega, by omega, by rw [l1.length]; exact le_szl h.2, fun p hp => b.fl r hp (l1.flat _)⟩
    · cases e
  · cases e

/-! ### a table of the module: keys texts, values ints -/
structure KTab (K : PySem.W.Frag) (w : World) (d : Addr) (tab : List (Str × Int)) : Prop where
  kd : ∃ es n, KDict K w d es n
  get : ∀ z, match tab.lookup z with
    | none => PySem.W.nsIn K d z = some none
    | some i => ∃ t, PySem.W.nsIn K d z = some (some (.int i t))
def tabV (tab : List (Str × Int)) : IV → Option IV
  | .str z => (tab.lookup z).map .int
  | _ => none
def tabIn (neg : Bool) (tab : List (Str × Int)) : IV → Option IV
  | .str z => some (.bl (if neg then (tab.lookup z).isNone else (tab.lookup z).isSome))
  | _ => none
section
variable {a b c e : Expr} {ma mb mc : M IV} {pos p1 p2 : Pos} {d : Addr} {tab : List (Str × Int)} {x : Str}
theorem e_mul (hK : Θ.K = X.K) (ha : PE X a (tE Θ ma)) (hb : PE X b (tE Θ mb)) : PE X (.BinOp a .Mult b pos) (tE Θ (mOp mulV ma mb)) := e_op op_mulV (mulV_ok hK) ha hb
theorem pe_d (hg : Gl X x) (hm : X.mg x = some (.ref d)) (hd : (x == ("__debug__" : Str)) = false := by decide) : PE X (.Name x p1) (tC (.ref d)) := pe_glob hg hm rfl hd
theorem e_tabIn (T : KTab X.K X.w d tab) (ha : PE X a (tE Θ ma)) (hg : Gl X x) (hm : X.mg x = some (.ref d)) (hd : (x == ("__debug__" : Str)) = false := by decide) : PE X (.Compare a [.In] [.Name x p1] pos) (tE Θ (mUn (tabIn false tab) ma)) := by
  obtain ⟨es, n, D⟩ := T.kd
  refine peLe (pe_cmpR (op_in_kd D) ha (pe_d hg hm hd) (by with_unfolding_all rfl)) fun σ H Q h => (tM.bind (R := RepV) h).imp fun xv H1 ⟨ρ1, s1, xi, r1, rx, o1⟩ => ?_
  obtain ⟨z, e, q⟩ := o1.opt
  unfold tabIn at e
  split at e
  · rename_i z
    cases rx; cases e
    have g := T.get z
    cases e2 : tab.lookup z with
    | none => rw [e2] at g q; exact ⟨_, none, rfl, rfl, g, q ρ1 H1 _ r1.here (.bl _)⟩
    | some i => rw [e2] at g q; obtain ⟨t, g⟩ := g; exact ⟨_, _, rfl, rfl, g, q ρ1 H1 _ r1.here (.bl _)⟩
  · cases e
theorem e_tabNin (T : KTab X.K X.w d tab) (ha : PE X a (tE Θ ma)) (hg : Gl X x) (hm : X.mg x = some (.ref d)) (hd : (x == ("__debug__" : Str)) = false := by decide) : PE X (.Compare a [.NotIn] [.Name x p1] pos) (tE Θ (mUn (tabIn true tab) ma)) := by
  obtain ⟨es, n, D⟩ := T.kd
  refine peLe (pe_cmpR (op_notIn_kd D) ha (pe_d hg hm hd) (by with_unfolding_all rfl)) fun σ H Q h => (tM.bind (R := RepV) h).imp fun xv H1 ⟨ρ1, s1, xi, r1, rx, o1⟩ => ?_
  obtain ⟨z, e, q⟩ := o1.opt
  unfold tabIn at e
  split at e
  · rename_i z
    cases rx; cases e
    have g := T.get z
    cases e2 : tab.lookup z with
    | none => rw [e2] at g q; exact ⟨_, none, rfl, rfl, g, q ρ1 H1 _ r1.here (.bl _)⟩
    | some i => rw [e2] at g q; obtain ⟨t, g⟩ := g; exact ⟨_, _, rfl, rfl, g, q ρ1 H1 _ r1.here (.bl _)⟩
  · cases e
theorem t_tabIn (T : KTab X.K X.w d tab) (ha : PE X a (tE Θ ma)) (hg : Gl X x) (hm : X.mg x = some (.ref d)) (hd : (x == ("__debug__" : Str)) = false := by decide) : PT X (.Compare a [.In] [.Name x p1] pos) (tT Θ (mTst (mUn (tabIn false tab) ma))) := by
  obtain ⟨es, n, D⟩ := T.kd
  refine ptLe (pt_cmpR (op_in_kd D) ha (pe_d hg hm hd) (by with_unfolding_all rfl)) fun σ H Q h => tst_of h fun Q' h => (tM.bind (R := RepV) h).imp fun xv H1 ⟨ρ1, s1, xi, r1, rx, o1⟩ => ?_
  obtain ⟨z, e, q⟩ := o1.opt
  unfold tabIn at e
  split at e
  · rename_i z
    cases rx; cases e
    have g := T.get z
    cases e2 : tab.lookup z with
    | none => rw [e2] at g q; exact ⟨_, none, rfl, rfl, g, q ρ1 H1 _ r1.here (.bl _)⟩
    | some i => rw [e2] at g q; obtain ⟨t, g⟩ := g; exact ⟨_, _, rfl, rfl, g, q ρ1 H1 _ r1.here (.bl _)⟩
  · cases e
theorem t_tabNin (T : KTab X.K X.w d tab) (ha : PE X a (tE Θ ma)) (hg : Gl X x) (hm : X.mg x = some (.ref d)) (hd : (x == ("__debug__" : Str)) = false := by decide) : PT X (.Compare a [.NotIn] [.Name x p1] pos) (tT Θ (mTst (mUn (tabIn true tab) ma))) := by
  obtain ⟨es, n, D⟩ := T.kd
  refine ptLe (pt_cmpR (op_notIn_kd D) ha (pe_d hg hm hd) (by with_unfolding_all rfl)) fun σ H Q h => tst_of h fun Q' h => (tM.bind (R := RepV) h).imp fun xv H1 ⟨ρ1, s1, xi, r1, rx, o1⟩ => ?_
  obtain ⟨z, e, q⟩ := o1.opt
  unfold tabIn at e
  split at e
  · rename_i z
    cases rx; cases e
    have g := T.get z
    cases e2 : tab.lookup z with
    | none => rw [e2] at g q; exact ⟨_, none, rfl, rfl, g, q ρ1 H1 _ r1.here (.bl _)⟩
    | some i => rw [e2] at g q; obtain ⟨t, g⟩ := g; exact ⟨_, _, rfl, rfl, g, q ρ1 H1 _ r1.here (.bl _)⟩
  · cases e
theorem e_tab (T : KTab X.K X.w d tab) (ha : PE X a (tE Θ ma)) (hg : Gl X x) (hm : X.mg x = some (.ref d)) (hs : PlainIx a) (hd : (x == ("__debug__" : Str)) = false := by decide) : PE X (.Subscript (.Name x p1) a pos) (tE Θ (mUn (tabV tab) ma)) := by
  obtain ⟨es, n, D⟩ := T.kd
  refine peLe (pe_ix ix_kdict (pe_d hg hm hd) ha hs) fun σ H Q h => (tM.bind (R := RepV) h).imp fun xv H1 ⟨ρ1, s1, xi, r1, rx, o1⟩ => ?_
  obtain ⟨z, e, q⟩ := o1.opt
  unfold tabV at e
  split at e
  · rename_i z
    cases rx
    have g := T.get z
    cases e2 : tab.lookup z with
    | none => rw [e2] at e; cases e
    | some i =>
      rw [e2] at g e
      cases e
      obtain ⟨t, g⟩ := g
      exact ⟨d, z, .int i, rfl, rfl, ⟨es, n, _, D.at_, D.lit, g, ⟨t, rfl⟩⟩, q ρ1 H1 _ r1.here (.int _)⟩
  · cases e
end
/-! ### x.pop(), x own; tuple(x) -/
def mPop (i : Nat) : M IV := fun s => match s.env[i]? with
  | some (.own l) => match l.getLast? with
    | some v => .ok v (setE i (.own l.dropLast) s)
    | none => .no
  | _ => .no
theorem tE_pop {i : Nat} {Q : VK} (h : tE Θ (mPop i) σ H Q) : tBM0 K "list" rPop (tVar i) σ H Q := by
  obtain ⟨ρ, s, r, o⟩ := h
  unfold mPop at o
  split at o
  · rename_i l e0
    obtain ⟨a, vs, h1, h2, h3⟩ := r.slot i _ e0
    split at o
    · rename_i v ev
      refine ⟨_, h1, .inl ⟨rfl, _, SqL.of h2⟩, ?_⟩
      rw [List.getLast?_eq_getElem?] at ev
      obtain ⟨u, k1, k2⟩ := h3.get ev
      have st := r.setOwn (p := a) (.inr ⟨h1, l, e0⟩) h3.dropLast
      rw [set_same h1] at st
      exact ⟨a, vs, u, rfl, rfl, h2, by rw [h3.length]; exact k1, o ρ _ u st (k2.mono st.le)⟩
    · exact o.elim
  · exact o.elim
def mOwnTup (i : Nat) : M IV := fun s => match s.env[i]? with
  | some (.own l) => .ok (.tup l) s
  | _ => .no
section
variable {a b c e : Expr} {ma mb mc : M IV} {pos p p1 p2 apos cpos : Pos} {x y : Str} {i : Nat} {mr : M (List IV)}
theorem e_pop (hN : X.N[i]? = some x := by rfl) (hv : Vis X.env.scope x := by first | exact Or.inl rfl | exact Or.inr (Or.inl rfl) | exact Or.inr (Or.inr rfl)) (hd : (x == ("__debug__" : Str)) = false := by decide) (hcd : (x == ("__classdict__" : Str)) = false := by decide)
    (hbase : attributeBase (.Name x p1) "pop" X.env (eval (.Name x p1) X.env) = eval (.Name x p1) X.env := by rfl) (hline : (apos.endLine == cpos.line) = true := by rfl) :
    PE X (.Call (.Attribute (.Name x p1) "pop" apos) [] [] cpos) (tE Θ (mPop i)) :=
  peLe (pe_bm0 PySem.F.plainAttrs_list PySem.F.slot_list_pop PySem.F.type_list_pop mt_pop (pe_var hN hv hd hcd) hbase hline) fun σ H Q h => tE_pop h
theorem e_ownTup (hN : X.N[i]? = some y := by rfl) (hv : Vis X.env.scope y := by first | exact Or.inl rfl | exact Or.inr (Or.inl rfl) | exact Or.inr (Or.inr rfl)) (hg : Gl X x) (hm : X.mg x = none) (hvv : bootBuiltins x = some (.type "tuple")) (hn : x ≠ "__name__" := by decide) (hdb : (x == ("__debug__" : Str)) = false := by decide)
    (hd : (y == ("__debug__" : Str)) = false := by decide) (hcd : (y == ("__classdict__" : Str)) = false := by decide) : PE X (.Call (.Name x p) [.Name y p1] [] pos) (tE Θ (mOwnTup i)) :=
  peLe (pe_callTy call_tuple_of hg hm hvv (pa_cons (pe_var hN hv hd hcd) pa_nil) hn hdb) fun σ H Q ⟨ρ, s, r, o⟩ => by
    unfold mOwnTup at o
    split at o
    · rename_i l e0
      obtain ⟨a, vs, h1, h2, h3⟩ := r.slot i _ e0
      refine ⟨_, h1, a, vs, rfl, .inl ⟨SqL.of h2, fun q hq => ?_⟩⟩
      obtain ⟨st, n⟩ := r.laid (o := .tup vs) hq
      exact o ρ _ _ st (.tup ⟨upd_same, n⟩ (h3.mono st.le))
    · exact o.elim

/-! ### a, b = .., new lists among them -/
def mParVN (i j : Nat) (m1 : M IV) (m2 : M (List IV)) : M Flw := M.bind m1 fun v => M.bind m2 fun l s => .ok .nx (setE j (.own l) (setE i (.val v) s))
def mParNV (i j : Nat) (m1 : M (List IV)) (m2 : M IV) : M Flw := M.bind m1 fun l => M.bind (nox m2) fun v s => .ok .nx (setE j (.val v) (setE i (.own l) s))
def mParNN (i j : Nat) (m1 : M (List IV)) (m2 : M (List IV)) : M Flw := M.bind m1 fun l => M.bind (nox m2) fun k s => .ok .nx (setE j (.own k) (setE i (.own l) s))
def mParVVN (i j k : Nat) (m1 m2 : M IV) (m3 : M (List IV)) : M Flw := M.bind m1 fun v => M.bind m2 fun u => M.bind m3 fun l s => .ok .nx (setE k (.own l) (setE j (.val u) (setE i (.val v) s)))
/-- two names at once: as the swapped stores do, or by a tuple that is laid and unpacked -/
def t2 (i j : Nat) (ta : TA) : TS := fun D σ H => ta σ H fun vs H1 => ∃ v w, vs = [v, w] ∧ ∀ H2, (∀ a o, H1 a = some o → H2 a = some o) → D.nx ((σ.set i (some v)).set j (some w)) H2
theorem t2_par {j : Nat} {ta : TA} {D : Ends} (mono : ∀ Q Q' : List V → Hp → Prop, (∀ vs H, Q vs H → Q' vs H) → ta σ H Q → ta σ H Q') (h : t2 i j ta D σ H) : tPar i j ta D σ H :=
  mono _ _ (fun vs H1 ⟨v, w, e, q⟩ => ⟨v, w, e, q H1 fun _ _ z => z⟩) h
theorem t2_asg {j : Nat} {ta : TA} {D : Ends} (mono : ∀ Q Q' : List V → Hp → Prop, (∀ vs H, Q vs H → Q' vs H) → ta σ H Q → ta σ H Q') (h : t2 i j ta D σ H) : tAsg (tTup ta) (gTup K 2 (gCons (gName i) (gCons (gName j) gNil))) D σ H :=
  mono _ _ (fun vs H1 ⟨v, w, e, q⟩ => by
    subst e
    exact ⟨by show 2 ≤ sizeLine; rw [sizeLine_eq]; decide, fun T hT => ⟨T, [v, w], rfl, SqT.of upd_same, rfl, v, [w], rfl, w, [], rfl, rfl, q _ (grow_new hT)⟩⟩) h
theorem StR.to (r : Stp Θ ρ s σ H ρ' s' σ' H') {H2 : Hp} (g : ∀ a o, H' a = some o → H2 a = some o) : Stp Θ ρ s σ H ρ' s' σ' H2 := r.trans (r.r.grow g)
theorem p_par {j : Nat} {px py pt : Pos} {kt k2 pt2} {ta : TA} {m : M Flw} (hc : X.calm = true) (hN : X.N.Nodup) (hi : X.N[i]? = some x) (hj : X.N[j]? = some y) (hij : i ≠ j)
    (hx : X.env.scope.names.lookup x = some .local) (hy : X.env.scope.names.lookup y = some .local) (ha : PA X [a, b] ta) (mono : ∀ σ H, ∀ Q Q' : List V → Hp → Prop, (∀ vs H, Q vs H → Q' vs H) → ta σ H Q → ta σ H Q')
    (f : ∀ D σ H, tS Θ m D σ H → t2 i j ta D σ H) (hw : swappedStores [.Tuple [.Name x px, .Name y py] kt pt] (.Tuple [a, b] k2 pt2) X.env = pure (some [x, y]))
    (hs : swapsWithSole [.Tuple [.Name x px, .Name y py] kt pt] (.Tuple [a, b] k2 pt2) pos.line X.env = pure false := by rfl) :
    PS X (.Assign [.Tuple [.Name x px, .Name y py] kt pt] (.Tuple [a, b] k2 pt2) pos) (tS Θ m) := psLe (ps_par hc hN hi hj hij hx hy ha hw hs) fun D σ H h => t2_par (mono σ H) (f D σ H h)
theorem p_asg {j : Nat} {px py pt : Pos} {kt k2 pt2} {ta : TA} {m : M Flw} (hc : X.calm = true) (hN : X.N.Nodup) (hi : X.N[i]? = some x) (hj : X.N[j]? = some y)
    (hx : Loc X.env.scope x) (hy : Loc X.env.scope y) (ha : PA X [a, b] ta) (mono : ∀ σ H, ∀ Q Q' : List V → Hp → Prop, (∀ vs H, Q vs H → Q' vs H) → ta σ H Q → ta σ H Q')
    (f : ∀ D σ H, tS Θ m D σ H → t2 i j ta D σ H) (hw : swappedStores [.Tuple [.Name x px, .Name y py] kt pt] (.Tuple [a, b] k2 pt2) X.env = pure none) (hf : X.fn x = true) (hf2 : X.fn y = true)
    (hs : swapsWithSole [.Tuple [.Name x px, .Name y py] kt pt] (.Tuple [a, b] k2 pt2) pos.line X.env = pure false := by rfl)
    (h1 : (assignEach [.Tuple [.Name x px, .Name y py] kt pt] X.env).map (·.2) = [assign (.Tuple [.Name x px, .Name y py] kt pt) X.env] := by rfl)
    (h2 : (assignEach [.Name x px, .Name y py] X.env).map (·.2) = assign (.Name x px) X.env :: (assignEach [.Name y py] X.env).map (·.2) := by rfl) (h3 : (assignEach [.Name y py] X.env).map (·.2) = assign (.Name y py) X.env :: (assignEach [] X.env).map (·.2) := by rfl)
    (hn : (assignEach [.Name x px, .Name y py] X.env).length = 2 := by rfl) (hst : (assignEach [.Name x px, .Name y py] X.env).findIdx? (·.1) = none := by rfl) :
    PS X (.Assign [.Tuple [.Name x px, .Name y py] kt pt] (.Tuple [a, b] k2 pt2) pos) (tS Θ m) :=
  psLe (ps_asg (pe_tup ha) (pg_tup hc (pgs_cons (pg_name hN hi hx (.inl hf)) (pgs_cons (pg_name hN hj hy (.inl hf2)) pgs_nil h3) h2) hn hst) hs hw h1) fun D σ H h => t2_asg (mono σ H) (f D σ H h)
theorem monoE {m : M IV} : ∀ σ H, ∀ Q Q' : VK, (∀ v H, Q v H → Q' v H) → tE Θ m σ H Q → tE Θ m σ H Q' := fun σ H Q Q' f h => h.imp f
theorem monoN {m : M (List IV)} : ∀ σ H, ∀ Q Q' : VK, (∀ v H, Q v H → Q' v H) → tNw Θ m σ H Q → tNw Θ m σ H Q' := fun σ H Q Q' f ⟨ρ, s, r, o⟩ => ⟨ρ, s, r, o.mono fun l s1 q ρ1 H0 p vs st hp rl => f _ _ (q ρ1 H0 p vs st hp rl)⟩
theorem monoX {t : Fx → TE} {C : Fx → Prop} (h : ∀ Θ' σ H, ∀ Q Q' : VK, (∀ v H, Q v H → Q' v H) → t Θ' σ H Q → t Θ' σ H Q') : ∀ σ H, ∀ Q Q' : VK, (∀ v H, Q v H → Q' v H) → (∃ Θ', C Θ' ∧ t Θ' σ H Q) → ∃ Θ', C Θ' ∧ t Θ' σ H Q' := fun σ H Q Q' f ⟨Θ', c, q⟩ => ⟨Θ', c, h Θ' σ H Q Q' f q⟩
theorem mono2 {t u : TE} (h : ∀ σ H, ∀ Q Q' : VK, (∀ v H, Q v H → Q' v H) → t σ H Q → t σ H Q') (k : ∀ σ H, ∀ Q Q' : VK, (∀ v H, Q v H → Q' v H) → u σ H Q → u σ H Q') :
    ∀ σ H, ∀ Q Q' : List V → Hp → Prop, (∀ vs H, Q vs H → Q' vs H) → tCons t (tCons u tNil) σ H Q → tCons t (tCons u tNil) σ H Q' := fun σ H Q Q' f z => h σ H _ _ (fun v H1 z => k σ H1 _ _ (fun u H2 z => f _ _ z) z) z
theorem t2_VN {j : Nat} {ml : M (List IV)} {D : Ends} (h : tS Θ (mParVN i j ma ml) D σ H) : t2 i j (tCons (tE Θ ma) (tCons (tNw Θ ml) tNil)) D σ H :=
  (tS.bind (R := RepV) h).imp fun v H1 ⟨ρ1, s1, vi, r1, rv, o⟩ => ⟨ρ1, s1, r1, o.bind.mono fun l s2 q ρ2 H0 p vs st2 hp rl => by
    refine ⟨v, .ref p, rfl, fun H9 g => ?_⟩
    have st3 := st2.r.setVal (i := i) (rv.mono st2.le)
    have st4 := st3.r.setOwn (i := j) (.inl hp) (rl.mono st3.le)
    exact q ρ2 _ _ (StR.to (st2.trans (st3.trans st4)) g)⟩
theorem s_parVN {j : Nat} {px py pt : Pos} {kt k2 pt2} {ml : M (List IV)} (hc : X.calm = true) (hN : X.N.Nodup) (hi : X.N[i]? = some x) (hj : X.N[j]? = some y) (hij : i ≠ j)
    (hx : X.env.scope.names.lookup x = some .local) (hy : X.env.scope.names.lookup y = some .local) (ha : PE X a (tE Θ ma)) (hb : PE X b (tNw Θ ml))
    (hw : swappedStores [.Tuple [.Name x px, .Name y py] kt pt] (.Tuple [a, b] k2 pt2) X.env = pure (some [x, y]))
    (hs : swapsWithSole [.Tuple [.Name x px, .Name y py] kt pt] (.Tuple [a, b] k2 pt2) pos.line X.env = pure false := by rfl) (h1 : starEach [a, b] X.env = (false, eval a X.env) :: starEach [b] X.env := by rfl) (h2 : starEach [b] X.env = (false, eval b X.env) :: starEach [] X.env := by rfl) :
    PS X (.Assign [.Tuple [.Name x px, .Name y py] kt pt] (.Tuple [a, b] k2 pt2) pos) (tS Θ (mParVN i j ma ml)) := p_par hc hN hi hj hij hx hy (pa_cons ha (pa_cons hb pa_nil h2) h1) (mono2 monoE monoN) (fun D σ H h => t2_VN h) hw hs
theorem s_asgVN {j : Nat} {px py pt : Pos} {kt k2 pt2} {ml : M (List IV)} (hc : X.calm = true) (hN : X.N.Nodup) (hi : X.N[i]? = some x) (hj : X.N[j]? = some y)
    (hx : Loc X.env.scope x) (hy : Loc X.env.scope y) (ha : PE X a (tE Θ ma)) (hb : PE X b (tNw Θ ml))
    (hw : swappedStores [.Tuple [.Name x px, .Name y py] kt pt] (.Tuple [a, b] k2 pt2) X.env = pure none) (hf : X.fn x = true) (hf2 : X.fn y = true)
    (hs : swapsWithSole [.Tuple [.Name x px, .Name y py] kt pt] (.Tuple [a, b] k2 pt2) pos.line X.env = pure false := by rfl)
    (h1' : (assignEach [.Tuple [.Name x px, .Name y py] kt pt] X.env).map (·.2) = [assign (.Tuple [.Name x px, .Name y py] kt pt) X.env] := by rfl)
    (h2' : (assignEach [.Name x px, .Name y py] X.env).map (·.2) = assign (.Name x px) X.env :: (assignEach [.Name y py] X.env).map (·.2) := by rfl) (h3' : (assignEach [.Name y py] X.env).map (·.2) = assign (.Name y py) X.env :: (assignEach [] X.env).map (·.2) := by rfl)
    (hn : (assignEach [.Name x px, .Name y py] X.env).length = 2 := by rfl) (hst : (assignEach [.Name x px, .Name y py] X.env).findIdx? (·.1) = none := by rfl)
    (h1 : starEach [a, b] X.env = (false, eval a X.env) :: starEach [b] X.env := by rfl) (h2 : starEach [b] X.env = (false, eval b X.env) :: starEach [] X.env := by rfl) :
    PS X (.Assign [.Tuple [.Name x px, .Name y py] kt pt] (.Tuple [a, b] k2 pt2) pos) (tS Θ (mParVN i j ma ml)) := p_asg hc hN hi hj hx hy (pa_cons ha (pa_cons hb pa_nil h2) h1) (mono2 monoE monoN) (fun D σ H h => t2_VN h) hw hf hf2 hs h1' h2' h3' hn hst
theorem s_parVVN {j k : Nat} {z : Str} {px py pz pt : Pos} {kt k2 pt2} {ml : M (List IV)} (hc : X.calm = true) (hN : X.N.Nodup) (hi : X.N[i]? = some x) (hj : X.N[j]? = some y) (hk : X.N[k]? = some z) (hij : i ≠ j) (hik : i ≠ k) (hjk : j ≠ k)
    (hx : X.env.scope.names.lookup x = some .local) (hy : X.env.scope.names.lookup y = some .local) (hz : X.env.scope.names.lookup z = some .local) (ha : PE X a (tE Θ ma)) (hb : PE X b (tE Θ mb)) (hcc : PE X c (tNw Θ ml))
    (hw : swappedStores [.Tuple [.Name x px, .Name y py, .Name z pz] kt pt] (.Tuple [a, b, c] k2 pt2) X.env = pure (some [x, y, z]))
    (hs : swapsWithSole [.Tuple [.Name x px, .Name y py, .Name z pz] kt pt] (.Tuple [a, b, c] k2 pt2) pos.line X.env = pure false := by rfl) (h1 : starEach [a, b, c] X.env = (false, eval a X.env) :: starEach [b, c] X.env := by rfl) (h2 : starEach [b, c] X.env = (false, eval b X.env) :: starEach [c] X.env := by rfl) (h3 : starEach [c] X.env = (false, eval c X.env) :: starEach [] X.env := by rfl) :
    PS X (.Assign [.Tuple [.Name x px, .Name y py, .Name z pz] kt pt] (.Tuple [a, b, c] k2 pt2) pos) (tS Θ (mParVVN i j k ma mb ml)) := psLe (ps_par3 hc hN hi hj hk hij hik hjk hx hy hz (pa_cons ha (pa_cons hb (pa_cons hcc pa_nil h3) h2) h1) hw hs) fun D σ H h =>
  (tS.bind (R := RepV) h).imp fun v H1 ⟨ρ1, s1, vi, r1, rv, o⟩ => ⟨ρ1, s1, r1, o.bind.mono fun ui s2 q ρ2 H2 u st2 ru => ⟨ρ2, s2, st2.r, q.bind.mono fun l s3 q ρ3 H0 p vs st3 hp rl => by
    refine ⟨v, u, .ref p, rfl, ?_⟩
    have st4 := st3.r.setVal (i := i) ((rv.mono st2.le).mono st3.le)
    have st5 := st4.r.setVal (i := j) ((ru.mono st3.le).mono st4.le)
    have st6 := st5.r.setOwn (i := k) (.inl hp) ((rl.mono st4.le).mono st5.le)
    exact q ρ3 _ _ (st2.trans (st3.trans (st4.trans (st5.trans st6))))⟩⟩
/-- with a new list kept aside -/
theorem aside (r : StR Θ ρ s σ H) {p : Addr} {vs : List V} (hp : H p = none) : ∃ w0, StR (plusF Θ p w0) ρ s σ (upd H p (.lst vs)) ∧ (vw Θ ρ s.env σ H).Le (vw (plusF Θ p w0) ρ s.env σ (upd H p (.lst vs))) ∧
    ∀ {ρ2 s2 σ2 H2}, StR (plusF Θ p w0) ρ2 s2 σ2 H2 → H2 p = some (.lst vs) ∧ StR Θ ρ2 s2 σ2 (erase H2 p) ∧ (vw (plusF Θ p w0) ρ2 s2.env σ2 H2).Le (vw Θ ρ2 s2.env σ2 (erase H2 p)) := by
  obtain ⟨h1, h2⟩ := r.plus (vs := vs) hp rfl
  refine ⟨_, h1, h2, fun {ρ2 s2 σ2 H2} r2 => ?_⟩
  have hD : ∀ a, Θ.F a → a ≠ p := fun a f z => by
    obtain ⟨⟨o, e⟩, _⟩ := r.fo a f
    rw [z, hp] at e; cases e
  exact ⟨r2.fkeep p _ (.inr rfl) upd_same, r2.minus (r.base.trans h2) (fun a o f e => (upd_ne (hD a f)).trans (r.fkeep a o f e)) hD⟩
theorem t2_NV {j : Nat} {ml : M (List IV)} {D : Ends} (h : tS Θ (mParNV i j ml mb) D σ H) : t2 i j (tCons (tNw Θ ml) (tCons (fun σ H Q => ∃ Θ', Sub Θ.K Θ' ∧ tE Θ' mb σ H Q) tNil)) D σ H := by
  obtain ⟨ρ, s, r, o⟩ := h
  refine ⟨ρ, s, r, o.bind.mono fun l s1 q ρ1 H1 p vs st1 hp rl => ?_⟩
  obtain ⟨w0, rP, leP, back⟩ := aside st1.r (vs := vs) hp
  refine ⟨plusF Θ p w0, ⟨rfl, rfl⟩, ρ1, s1, rP, q.bind.nox.mono fun vi s2 q ρ2 H2 v st2 rv => ?_⟩
  refine ⟨.ref p, v, rfl, fun H9 g => ?_⟩
  obtain ⟨hat, r3, le3⟩ := back st2.r
  have e3 := upd_at hat
  have leT : (vw Θ ρ1 s1.env σ H1).Le (vw Θ ρ2 s2.env σ (erase H2 p)) := leP.trans (st2.le.trans le3)
  have st4 := r3.setOwn (i := i) (.inl erase_at) (rl.mono leT)
  rw [← e3] at st4
  have st5 := st4.r.setVal (i := j) ((rv.mono le3).mono st4.le)
  have stT : Stp Θ ρ1 s1 σ H1 ρ2 s2 σ (erase H2 p) := ⟨r3, leT⟩
  exact q ρ2 _ _ (StR.to (st1.trans (stT.trans (st4.trans st5))) g)
theorem s_parNV {j : Nat} {px py pt : Pos} {kt k2 pt2} {ml : M (List IV)} (hK : Θ.K = X.K) (hc : X.calm = true) (hN : X.N.Nodup) (hi : X.N[i]? = some x) (hj : X.N[j]? = some y) (hij : i ≠ j)
    (hx : X.env.scope.names.lookup x = some .local) (hy : X.env.scope.names.lookup y = some .local) (ha : PE X a (tNw Θ ml)) (hb : ∀ Θ', Sub X.K Θ' → PE X b (tE Θ' mb))
    (hw : swappedStores [.Tuple [.Name x px, .Name y py] kt pt] (.Tuple [a, b] k2 pt2) X.env = pure (some [x, y]))
    (hs : swapsWithSole [.Tuple [.Name x px, .Name y py] kt pt] (.Tuple [a, b] k2 pt2) pos.line X.env = pure false := by rfl) (h1 : starEach [a, b] X.env = (false, eval a X.env) :: starEach [b] X.env := by rfl) (h2 : starEach [b] X.env = (false, eval b X.env) :: starEach [] X.env := by rfl) :
    PS X (.Assign [.Tuple [.Name x px, .Name y py] kt pt] (.Tuple [a, b] k2 pt2) pos) (tS Θ (mParNV i j ml mb)) := by
  rw [← hK] at hb
  exact p_par hc hN hi hj hij hx hy (pa_cons ha (pa_cons (pe_ex hb) pa_nil h2) h1) (mono2 monoN (monoX fun Θ' => monoE)) (fun D σ H h => t2_NV h) hw hs
theorem s_asgNV {j : Nat} {px py pt : Pos} {kt k2 pt2} {ml : M (List IV)} (hK : Θ.K = X.K) (hc : X.calm = true) (hN : X.N.Nodup) (hi : X.N[i]? = some x) (hj : X.N[j]? = some y) (hx : Loc X.env.scope x) (hy : Loc X.env.scope y) (ha : PE X a (tNw Θ ml)) (hb : ∀ Θ', Sub X.K Θ' → PE X b (tE Θ' mb))
    (hw : swappedStores [.Tuple [.Name x px, .Name y py] kt pt] (.Tuple [a, b] k2 pt2) X.env = pure none) (hf : X.fn x = true) (hf2 : X.fn y = true)
    (hs : swapsWithSole [.Tuple [.Name x px, .Name y py] kt pt] (.Tuple [a, b] k2 pt2) pos.line X.env = pure false := by rfl)
    (h1' : (assignEach [.Tuple [.Name x px, .Name y py] kt pt] X.env).map (·.2) = [assign (.Tuple [.Name x px, .Name y py] kt pt) X.env] := by rfl)
    (h2' : (assignEach [.Name x px, .Name y py] X.env).map (·.2) = assign (.Name x px) X.env :: (assignEach [.Name y py] X.env).map (·.2) := by rfl) (h3' : (assignEach [.Name y py] X.env).map (·.2) = assign (.Name y py) X.env :: (assignEach [] X.env).map (·.2) := by rfl)
    (hn : (assignEach [.Name x px, .Name y py] X.env).length = 2 := by rfl) (hst : (assignEach [.Name x px, .Name y py] X.env).findIdx? (·.1) = none := by rfl)
    (h1 : starEach [a, b] X.env = (false, eval a X.env) :: starEach [b] X.env := by rfl) (h2 : starEach [b] X.env = (false, eval b X.env) :: starEach [] X.env := by rfl) :
    PS X (.Assign [.Tuple [.Name x px, .Name y py] kt pt] (.Tuple [a, b] k2 pt2) pos) (tS Θ (mParNV i j ml mb)) := by
  rw [← hK] at hb
  exact p_asg hc hN hi hj hx hy (pa_cons ha (pa_cons (pe_ex hb) pa_nil h2) h1) (mono2 monoN (monoX fun Θ' => monoE)) (fun D σ H h => t2_NV h) hw hf hf2 hs h1' h2' h3' hn hst
theorem t2_NN {j : Nat} {ml mk : M (List IV)} {D : Ends} (h : tS Θ (mParNN i j ml mk) D σ H) : t2 i j (tCons (tNw Θ ml) (tCons (fun σ H Q => ∃ Θ', Sub Θ.K Θ' ∧ tNw Θ' mk σ H Q) tNil)) D σ H := by
  obtain ⟨ρ, s, r, o⟩ := h
  refine ⟨ρ, s, r, o.bind.mono fun l s1 q ρ1 H1 p vs st1 hp rl => ?_⟩
  obtain ⟨w0, rP, leP, back⟩ := aside st1.r (vs := vs) hp
  refine ⟨plusF Θ p w0, ⟨rfl, rfl⟩, ρ1, s1, rP, q.bind.nox.mono fun k s2 q ρ2 H2 p2 us st2 hp2 rk => ?_⟩
  refine ⟨.ref p, .ref p2, rfl, fun H9 g => ?_⟩
  obtain ⟨hat, r3, le3⟩ := back st2.r
  have e3 := upd_at hat
  have leT : (vw Θ ρ1 s1.env σ H1).Le (vw Θ ρ2 s2.env σ (erase H2 p)) := leP.trans (st2.le.trans le3)
  have st4 := r3.setOwn (i := i) (.inl erase_at) (rl.mono leT)
  rw [← e3] at st4
  have st5 := st4.r.setOwn (i := j) (.inl hp2) ((rk.mono le3).mono st4.le)
  have stT : Stp Θ ρ1 s1 σ H1 ρ2 s2 σ (erase H2 p) := ⟨r3, leT⟩
  exact q ρ2 _ _ (StR.to (st1.trans (stT.trans (st4.trans st5))) g)
theorem s_parNN {j : Nat} {px py pt : Pos} {kt k2 pt2} {ml mk : M (List IV)} (hK : Θ.K = X.K) (hc : X.calm = true) (hN : X.N.Nodup) (hi : X.N[i]? = some x) (hj : X.N[j]? = some y) (hij : i ≠ j)
    (hx : X.env.scope.names.lookup x = some .local) (hy : X.env.scope.names.lookup y = some .local) (ha : PE X a (tNw Θ ml)) (hb : ∀ Θ', Sub X.K Θ' → PE X b (tNw Θ' mk))
    (hw : swappedStores [.Tuple [.Name x px, .Name y py] kt pt] (.Tuple [a, b] k2 pt2) X.env = pure (some [x, y]))
    (hs : swapsWithSole [.Tuple [.Name x px, .Name y py] kt pt] (.Tuple [a, b] k2 pt2) pos.line X.env = pure false := by rfl) (h1 : starEach [a, b] X.env = (false, eval a X.env) :: starEach [b] X.env := by rfl) (h2 : starEach [b] X.env = (false, eval b X.env) :: starEach [] X.env := by rfl) :
    PS X (.Assign [.Tuple [.Name x px, .Name y py] kt pt] (.Tuple [a, b] k2 pt2) pos) (tS Θ (mParNN i j ml mk)) := by
  rw [← hK] at hb
  exact p_par hc hN hi hj hij hx hy (pa_cons ha (pa_cons (pe_ex hb) pa_nil h2) h1) (mono2 monoN (monoX fun Θ' => monoN)) (fun D σ H h => t2_NN h) hw hs
theorem s_asgNN {j : Nat} {px py pt : Pos} {kt k2 pt2} {ml mk : M (List IV)} (hK : Θ.K = X.K) (hc : X.calm = true) (hN : X.N.Nodup) (hi : X.N[i]? = some x) (hj : X.N[j]? = some y) (hx : Loc X.env.scope x) (hy : Loc X.env.scope y) (ha : PE X a (tNw Θ ml)) (hb : ∀ Θ', Sub X.K Θ' → PE X b (tNw Θ' mk))
    (hw : swappedStores [.Tuple [.Name x px, .Name y py] kt pt] (.Tuple [a, b] k2 pt2) X.env = pure none) (hf : X.fn x = true) (hf2 : X.fn y = true)
    (hs : swapsWithSole [.Tuple [.Name x px, .Name y py] kt pt] (.Tuple [a, b] k2 pt2) pos.line X.env = pure false := by rfl)
    (h1' : (assignEach [.Tuple [.Name x px, .Name y py] kt pt] X.env).map (·.2) = [assign (.Tuple [.Name x px, .Name y py] kt pt) X.env] := by rfl)
    (h2' : (assignEach [.Name x px, .Name y py] X.env).map (·.2) = assign (.Name x px) X.env :: (assignEach [.Name y py] X.env).map (·.2) := by rfl) (h3' : (assignEach [.Name y py] X.env).map (·.2) = assign (.Name y py) X.env :: (assignEach [] X.env).map (·.2) := by rfl)
    (hn : (assignEach [.Name x px, .Name y py] X.env).length = 2 := by rfl) (hst : (assignEach [.Name x px, .Name y py] X.env).findIdx? (·.1) = none := by rfl)
    (h1 : starEach [a, b] X.env = (false, eval a X.env) :: starEach [b] X.env := by rfl) (h2 : starEach [b] X.env = (false, eval b X.env) :: starEach [] X.env := by rfl) :
    PS X (.Assign [.Tuple [.Name x px, .Name y py] kt pt] (.Tuple [a, b] k2 pt2) pos) (tS Θ (mParNN i j ml mk)) := by
  rw [← hK] at hb
  exact p_asg hc hN hi hj hx hy (pa_cons ha (pa_cons (pe_ex hb) pa_nil h2) h1) (mono2 monoN (monoX fun Θ' => monoN)) (fun D σ H h => t2_NN h) hw hf hf2 hs h1' h2' h3' hn hst
end
end Mi
set_option Elab.async false
set_option linter.all false
set_option maxRecDepth 100000
namespace Mi
open PySem L2 PyProof.Rows

variable {Θ : Fx} {ρ ρ' : List Addr} {s s' : S} {σ σ' : L2.St} {H H' : Hp} {X : Cx} {K : PySem.W.Frag}

/-! ### defs from which nothing is raised -/
section
variable {P : Program} {w : World} {mg : Str → Option Value} {base : Heap}
theorem okM0 {x qual : Str} {st : Stmt} {f : Addr} {fd : FuncData} {N ps : List Str} {k : Nat} {m : M Flw} (F : Fun K x qual st f fd) (S : FnScope N ps (defScope st))
    (hb : ∀ (cdv : Value) (A : Around) (outer : List Env) (s : Shared) (H : Hp) (E : XK) (Θ : Fx), Room k (A.deeper (envOfC qual (defScope st) s.heap.objs.size f cdv)) → Θ.K = K → Θ.EX = EXof K Θ.F Θ.w0 E →
      PSs (cxOf CX0 P w K mg base N qual (defScope st) f cdv A outer s H E).nox (defBody st) (tS Θ m)) :
    FnOk P w K mg base CX0 (k + 1) f fd ps (spF K (ar ps.length (runF N.length m))) := okM F S fun cdv A outer s H E Θ hr hK hE => (hb cdv A outer s H E Θ hr hK hE).nox
theorem okI0 {x qual : Str} {st : Stmt} {f C : Addr} {fd : FuncData} {N ps : List Str} {k : Nat} {m : M Flw} (F : Fun K x qual st f fd) (S : FnScope N ps (defScope st))
    (hb : ∀ (cdv : Value) (A : Around) (outer : List Env) (s : Shared) (H : Hp) (E : XK) (Θ : Fx), Room k (A.deeper (envOfC qual (defScope st) s.heap.objs.size f cdv)) → Θ.K = K → Θ.EX = EXof K Θ.F Θ.w0 E →
      PSs (cxOf CX0 P w K mg base N qual (defScope st) f cdv A outer s H E).nox (defBody st) (tS Θ m)) :
    FnOk P w K mg base CX0 (k + 1) f fd ps (spI K C (runI N.length ps.length C m)) := okI F S fun cdv A outer s H E Θ hr hK hE => (hb cdv A outer s H E Θ hr hK hE).nox
end
theorem okNo {P : Program} {w : World} {mg : Str → Option Value} {base : Heap} {CX : CXT} {f : Addr} {fd : FuncData} {ps : List Str} {k : Nat} : FnOk P w K mg base CX k f fd ps (spF K fun _ _ => .no) :=
  ⟨fun _ _ _ _ ⟨_, _, _, _, _, _, q⟩ => q.elim, fun _ _ _ _ _ _ _ _ _ _ _ _ _ ⟨_, _, _, _, _, _, q⟩ => q.elim⟩
/-- a def as the top left it -/
structure FnB (K : PySem.W.Frag) (mg : Str → Option Value) (x : Str) (st : Stmt) (ps : List Str) (f : Addr) (fd : FuncData) : Prop where
  g : mg x = some (.ref f)
  F : Fun K x x st f fd
  b : L2.Binds K fd ps []
/-- a class's __init__ -/
structure InB (K : PySem.W.Frag) (mg : Str → Option Value) (x : Str) (st : Stmt) (qual : Str) (ps : List Str) (C f : Addr) (fd : FuncData) : Prop where
  g : mg x = some (.ref C)
  mK : Mk K C f
  F : Fun K "__init__" qual st f fd
  b : L2.Binds K fd ps []
section
variable {k j : Nat} {f C : Addr} {fd : FuncData} {ps : List Str} {fn : Fn} {fi : FnI} {x qual : Str} {st : Stmt} {p pos : Pos} {e a : Expr} {es : List Expr} {mr : M (List IV)} {E : XK} {i : Int}
theorem c_call (B : FnB X.K X.mg x st ps f fd) (G : FnOk X.prog X.w X.K X.mg X.base CX0 k f fd ps (spF X.K fn)) (hr : Room j X.A) (hjk : k ≤ j) (hg : Gl X x) (hK : Θ.K = X.K) (hE : Θ.EX = EXof X.K Θ.F Θ.w0 E) (ha : PA X (e :: es) (tA Θ mr))
    (hd : (x == ("__debug__" : Str)) = false := by decide) (hs : starEach (e :: es) X.env = (false, eval e X.env) :: starEach es X.env := by rfl) (hpl : (backTo pos (starEach es X.env)).any (·.1) = false := by rfl) :
    PE X (.Call (.Name x p) (e :: es) [] pos) (tE Θ (mCall fn mr)) := e_call G (hr.mono hjk) hg B.g B.F.kp B.b (fun _ _ _ _ _ _ _ h => h.elim) hK hE ha hd hs hpl
theorem c_call0 (B : FnB X.K X.mg x st ps f fd) (G : FnOk X.prog X.w X.K X.mg X.base CX0 k f fd ps (spF X.K fn)) (hr : Room j X.A) (hjk : k ≤ j) (hg : Gl X x) (hK : Θ.K = X.K) (hE : Θ.EX = EXof X.K Θ.F Θ.w0 E)
    (hd : (x == ("__debug__" : Str)) = false := by decide) : PE X (.Call (.Name x p) [] [] pos) (tE Θ (mCall fn mNil)) := e_call0 G (hr.mono hjk) hg B.g B.F.kp B.b (fun _ _ _ _ _ _ _ h => h.elim) hK hE hd
theorem c_make (B : InB X.K X.mg x st qual ps C f fd) (G : FnOk X.prog X.w X.K X.mg X.base CX0 k f fd ps (spI X.K C fi)) (hr : Room j X.A) (hjk : k + 1 ≤ j) (hg : Gl X x) (hK : Θ.K = X.K) (hE : Θ.EX = EXof X.K Θ.F Θ.w0 E) (ha : PA X (e :: es) (tA Θ mr))
    (hd : (x == ("__debug__" : Str)) = false := by decide) (hs : starEach (e :: es) X.env = (false, eval e X.env) :: starEach es X.env := by rfl) (hpl : (backTo pos (starEach es X.env)).any (·.1) = false := by rfl) :
    PE X (.Call (.Name x p) (e :: es) [] pos) (tE Θ (mMake C fi mr)) := e_make B.mK G (hr.mono hjk) hg B.g B.b (fun _ _ _ _ _ _ _ h => h.elim) hK hE ha hd hs hpl
theorem e_gint (h : ∃ t, X.mg x = some (.int i t)) (hg : Gl X x) (hd : (x == ("__debug__" : Str)) = false := by decide) : PE X (.Name x p) (tE Θ (mC (.int i))) := by
  obtain ⟨t, h⟩ := h
  exact peLe (pe_glob hg h (v := .int i) ⟨t, rfl⟩ hd) fun _ _ _ h => tE_C (fun _ => .int _) h
theorem e_bty {n : String} (hg : Gl X x) (hm : X.mg x = none) (hv : bootBuiltins x = some (.type n)) (hn : x ≠ "__name__" := by decide) (hd : (x == ("__debug__" : Str)) = false := by decide) : PE X (.Name x p) (tE Θ (mC (.ty n))) :=
  peLe (pe_bltn hg hm hv (v := .ty n) rfl hn hd) fun _ _ _ h => tE_C (fun _ => .ty _) h
theorem e_gadr {C : Addr} (hK : Θ.K = X.K) (hm : X.mg x = some (.ref C)) (ho : ∃ o, X.K.lookup C = some o) (hg : Gl X x) (hd : (x == ("__debug__" : Str)) = false := by decide) : PE X (.Name x p) (tE Θ (mC (.adr C))) :=
  peLe (pe_glob hg hm (v := .ref C) rfl hd) fun σ H Q h => by
    obtain ⟨ρ, s, r, o⟩ := h
    exact o ρ H _ r.here (.adr (by rw [show (vw Θ ρ s.env σ H).K = X.K from hK]; exact ho))
/-- a new dict that is never looked at -/
theorem e_fd : PE X (.Dict [] [] pos) (tE Θ (mC .fd)) := peLe pe_dnewK fun σ H Q ⟨ρ, s, r, o⟩ => by
  intro d hd
  obtain ⟨st, n⟩ := r.laid (o := .dK []) hd
  exact o ρ _ _ st (.fd upd_same n)
end

section
theorem s_par3 {i j k : Nat} {x y z : Str} {a b c : Expr} {ma : M (List IV)} {px py pz pt pos : Pos} {kt k2 pt2} (hc : X.calm = true) (hN : X.N.Nodup) (hi : X.N[i]? = some x) (hj : X.N[j]? = some y) (hl : X.N[k]? = some z) (hij : i ≠ j) (hil : i ≠ k) (hjl : j ≠ k)
    (hx : X.env.scope.names.lookup x = some .local) (hy : X.env.scope.names.lookup y = some .local) (hz : X.env.scope.names.lookup z = some .local) (ha : PA X [a, b, c] (tA Θ ma))
    (hw : swappedStores [.Tuple [.Name x px, .Name y py, .Name z pz] kt pt] (.Tuple [a, b, c] k2 pt2) X.env = pure (some [x, y, z]))
    (hs : swapsWithSole [.Tuple [.Name x px, .Name y py, .Name z pz] kt pt] (.Tuple [a, b, c] k2 pt2) pos.line X.env = pure false := by rfl) :
    PS X (.Assign [.Tuple [.Name x px, .Name y py, .Name z pz] kt pt] (.Tuple [a, b, c] k2 pt2) pos) (tS Θ (mPar3 i j k ma)) := psLe (ps_par3 hc hN hi hj hl hij hil hjl hx hy hz ha hw hs) fun D σ H h =>
  (tS.bind (R := RepL) h).imp fun vs H1 ⟨ρ1, s1, l, r1, rl, o⟩ => by
    cases rl with
    | nil => exact o.elim
    | cons h1 t1 => cases t1 with
      | nil => exact o.elim
      | cons h2 t2 => cases t2 with
        | nil => exact o.elim
        | cons h3 t3 => cases t3 with
          | nil =>
            have st1 := r1.setVal (i := i) h1
            have st2 := st1.r.setVal (i := j) (h2.mono st1.le)
            have st3 := st2.r.setVal (i := k) (h3.mono (st1.trans st2).le)
            exact ⟨_, _, _, rfl, o ρ1 _ H1 ((st1.trans st2).trans st3)⟩
          | cons _ _ => exact o.elim
end
end Mi
set_option Elab.async false
set_option linter.all false
set_option maxRecDepth 100000
namespace Mi
open PySem L2 PyProof.Rows

variable {K : PySem.W.Frag}

/-! ### the end: the law's promise, a table of the top -/
theorem en_nil {K : PySem.W.Frag} (H : Hp) : EnR K (fun _ => False) [] [] H := ⟨rfl, fun i a o e => by simp at e, fun i j a e => by simp at e, fun a h => h.elim⟩
def spLaw (K : PySem.W.Frag) : Sp := fun vs H Q _ => ∃ (a : Addr) (ns : List Int), vs = [.ref a] ∧ SqL K H a (ns.map V.int) ∧ ns.length ≤ 63 ∧ L2.Only H ∧ ∀ H', Q (.bl true) H'
theorem rep_ints (w : Vw) : ∀ ns : List Int, RepL w (ns.map V.int) (ns.map IV.int)
  | [] => .nil
  | n :: ns => .cons (.int n) (rep_ints w ns)
theorem law_in {fn : Fn} (h : ∀ ns : List Int, ns.length ≤ 63 → ∃ μ, fn [.fl (ns.map .int)] [] = .ok (.bl true) μ) (vs : List V) (H : Hp) (Q : VK) (E : XK) (q : spLaw K vs H Q E) : spF K fn vs H Q E := by
  obtain ⟨a, ns, rfl, hS, hl, hO, k⟩ := q
  obtain ⟨μ, e⟩ := h ns hl
  refine ⟨[], [], [.fl (ns.map .int)], fun _ => False, en_nil H, .cons (.fl ?_ (rep_ints _ ns)) .nil, ?_⟩
  · rcases hS with hS | hS
    · rcases hS with hS | ⟨o, hS⟩
      · rcases hO a with z | ⟨o, xs, z⟩
        · rw [hS] at z; cases z
        · rw [hS] at z; cases z
      · exact .inr ⟨_, hS, .inr ⟨o, rfl⟩, fun z => z.elim (fun z => by cases z) id⟩
    · exact .inl hS
  · rw [e]
    intro ρ' H' v _ _ _ rv
    cases rv
    exact k H'
def TabE (P : Params) : List (Str × Int) → List DictEntry → Prop
  | [], [] => True
  | p :: r, e :: s => (∃ t, e.key = .str p.1 t) ∧ e.hash = PyData.keyHash P p.1 ∧ (∃ t, e.val = .int p.2 t) ∧ TabE P r s
  | _, _ => False
theorem tabE_keys {P : Params} : ∀ {tab : List (Str × Int)} {es : List DictEntry}, TabE P tab es → PySem.W.KeysLit P es
  | [], [], _ => trivial
  | p :: r, e :: s, ⟨⟨t, h1⟩, h2, _, h4⟩ => ⟨⟨p.1, t, h1, h2⟩, tabE_keys h4⟩
  | [], _ :: _, h => h.elim
  | _ :: _, [], h => h.elim
theorem tabE_get {P : Params} (z : Str) : ∀ {tab : List (Str × Int)} {es : List DictEntry}, TabE P tab es → match tab.lookup z with
    | none => es.find? (·.key.isStr z) = none ∧ es.any (·.refKey) = false
    | some i => ∃ e t, es.find? (·.key.isStr z) = some e ∧ e.val = .int i t
  | [], [], _ => ⟨rfl, rfl⟩
  | p :: r, e :: s, ⟨⟨t, h1⟩, h2, ⟨u, h3⟩, h4⟩ => by
    have ih := tabE_get z h4
    obtain ⟨x, i⟩ := p
    have hk : e.key.isStr z = (x == z) := by rw [PySem.W.isStr_of, show e.key = .str x t from h1]; rfl
    have hr : e.refKey = false := by unfold DictEntry.refKey; rw [show e.key = .str x t from h1]
    rw [List.lookup_cons]
    by_cases hx : z = x
    · subst hx
      rw [show (z == z) = true from by simp]
      exact ⟨e, u, by rw [List.find?_cons, hk]; simp, h3⟩
    · have hx' : (x == z) = false := by simpa using fun q => hx q.symm
      rw [show (z == x) = false from by simpa using hx]
      show match r.lookup z with
        | none => _
        | some i => _
      cases q : r.lookup z with
      | none =>
        rw [q] at ih
        exact ⟨by rw [List.find?_cons, hk, hx']; exact ih.1, by rw [List.any_cons, hr]; exact ih.2⟩
      | some j =>
        rw [q] at ih
        obtain ⟨e', t', k1, k2⟩ := ih
        exact ⟨e', t', by rw [List.find?_cons, hk, hx']; exact k1, k2⟩
  | [], _ :: _, h => h.elim
  | _ :: _, [], h => h.elim
theorem ktab_of {w : World} {d : Addr} {tab : List (Str × Int)} {es : Array DictEntry} {n : Nat} (l : K.lookup d = some ⟨.type "dict", none, .dict es n, #[]⟩) (e : TabE w.params tab es.toList) (z : (d == sysModules) = false) : KTab K w d tab := by
  refine ⟨⟨es, n, l, tabE_keys e, z⟩, fun x => ?_⟩
  have g := tabE_get x e
  unfold PySem.W.nsIn
  rw [l]
  cases q : tab.lookup x with
  | none =>
    rw [q] at g
    show (match es.toList.find? (·.key.isStr x) with
      | some e => some (some e.val)
      | none => if es.toList.any (·.refKey) then none else some none) = some none
    rw [g.1, g.2]
    rfl
  | some i =>
    rw [q] at g
    obtain ⟨e', t, k1, k2⟩ := g
    refine ⟨t, ?_⟩
    show (match es.toList.find? (·.key.isStr x) with
      | some e => some (some e.val)
      | none => if es.toList.any (·.refKey) then none else some none) = some (some (.int i t))
    rw [k1]
    exact congrArg (fun v => some (some v)) k2
theorem walkM {l : PySem.W.OpenLaw} {q : Program} {loose : List Str} {XP : (Str → Option Value) → Heap → Prop} {YP : World → Heap → Prop} {d : DefRec} {K : Params → PySem.W.Frag} {k : Nat} {x : Str} (hn : l.most = some 63) (hdf : d.params.defaults = []) (hr : Room k callerA)
    (hY : ∀ (w : World) (h : Heap), YP w h → (K w.params).In h)
    (F : ∀ (w : World) (mg : Str → Option Value) (fa : Addr) (h : Heap), (K w.params).In h → h.Ns mainGlobals mg → mg d.name = some (.ref fa) →
      ∃ fd : FuncData, (∀ (s : Shared) (u : Value), BindsTo s fd ⟨[u], []⟩ [(x, u)]) ∧ ∀ base : Heap, (K w.params).In base → base.Ns mainGlobals mg → FnOk l.prog w (K w.params) mg base CX0 k fa fd [x] (spLaw (K w.params))) :
    PySem.W.WalkO q loose XP YP l.row.toRowW d [] (fun f vs => PySem.call f vs) :=
  L2.walk_of (n := 63) (k := k) (x := x) (CX := fun _ => CX0) (sp := fun w => spLaw (K w.params)) hn (by decide) hdf hr hY F (fun _ _ a ns hl hO hS => ⟨a, ns, rfl, hS, hl, hO, fun _ => rfl⟩) fun _ _ _ _ _ z => z
end Mi
set_option Elab.async false
set_option linter.all false
set_option maxRecDepth 100000
namespace Mi
open PySem L2 PyProof.Rows

variable {Θ : Fx} {ρ ρ' : List Addr} {s s' : S} {σ σ' : L2.St} {H H' : Hp} {X : Cx} {K : PySem.W.Frag}

section
variable {a b c e : Expr} {ma mb mc mv : M IV} {pos p p1 : Pos} {mr : M (List IV)} {tg : Expr} {x : Str}
/-! ### new lists by operators -/
def mulL : IV → IV → Option (List IV)
  | .fl l, .int k => if k.natAbs ≤ 1000000000 ∧ l.length * k.toNat ≤ szl then some (List.replicate k.toNat l).flatten else none
  | _, _ => none
def addL : IV → IV → Option (List IV)
  | .fl a, .fl b => if a.length + b.length ≤ szl then some (a ++ b) else none
  | _, _ => none
def mOpL (f : IV → IV → Option (List IV)) (a b : M IV) : M (List IV) := M.bind a fun x => M.bind b fun y => M.opt (f x y)
theorem n_mul (hK : Θ.K = X.K) (ha : PE X a (tE Θ ma)) (hb : PE X b (tE Θ mb)) : PE X (.BinOp a .Mult b pos) (tNw Θ (mOpL mulL ma mb)) :=
  peLe (pe_op op_repR ha hb) fun σ H Q ⟨ρ, s, r, o⟩ => ⟨ρ, s, r, o.bind.mono fun x s1 q ρ1 H1 v st1 rx =>
    ⟨ρ1, s1, st1.r, q.bind.mono fun y s2 q2 ρ2 H2 u st2 ry => by
      obtain ⟨z, e, q3⟩ := q2.opt
      unfold mulL at e
      split at e
      · split at e
        · rename_i h; cases e
          have rx' := rx.mono st2.le
          cases ry
          cases rx' with | fl h1 l1 =>
          have hq := h1.sq
          refine ⟨_, _, _, rfl, rfl, by rw [← hK]; exact hq, by omega, by omega, by rw [l1.length]; exact le_szl h.2, fun p hp => q3 ρ2 H2 p _ (st1.trans st2) hp (l1.flat _)⟩
        · cases e
      · cases e⟩⟩
theorem n_add (hK : Θ.K = X.K) (ha : PE X a (tE Θ ma)) (hb : PE X b (tE Θ mb)) : PE X (.BinOp a .Add b pos) (tNw Θ (mOpL addL ma mb)) :=
  peLe (pe_op op_catR ha hb) fun σ H Q ⟨ρ, s, r, o⟩ => ⟨ρ, s, r, o.bind.mono fun x s1 q ρ1 H1 v st1 rx =>
    ⟨ρ1, s1, st1.r, q.bind.mono fun y s2 q2 ρ2 H2 u st2 ry => by
      obtain ⟨z, e, q3⟩ := q2.opt
      unfold addL at e
      split at e
      · split at e
        · rename_i h; cases e
          have rx' := rx.mono st2.le
          cases ry with | fl h2 l2 =>
          cases rx' with | fl h1 l1 =>
          have hq1 := h1.sq
          have hq2 := h2.sq
          refine ⟨_, _, _, _, rfl, rfl, by rw [← hK]; exact hq1, by rw [← hK]; exact hq2, by rw [l1.length, l2.length]; exact le_szl h, fun p hp => q3 ρ2 H2 p _ (st1.trans st2) hp (l1.append l2)⟩
        · cases e
      · cases e⟩⟩
def listL : List IV → Option (List IV)
  | [.fl l] => some l
  | [.tup l] => some l
  | _ => none
theorem n_list (hK : Θ.K = X.K) (hg : Gl X x) (hm : X.mg x = none) (hv : bootBuiltins x = some (.type "list")) (ha : PA X [e] (tA Θ mr)) (hn : x ≠ "__name__" := by decide) (hdb : (x == ("__debug__" : Str)) = false := by decide)
    (he : starEach [e] X.env = (false, eval e X.env) :: starEach [] X.env := by rfl) (hpl : (backTo pos (starEach [] X.env)).any (·.1) = false := by rfl) : PE X (.Call (.Name x p) [e] [] pos) (tNw Θ (mApL listL mr)) :=
  peLe (pe_callTy call_list_of hg hm hv ha hn hdb he hpl) fun σ H Q ⟨ρ, s, r, o⟩ => ⟨ρ, s, r, o.bind.mono fun l s1 q ρ1 H1 vs st rl => by
    obtain ⟨z, e, q⟩ := q.opt
    unfold listL at e
    split at e
    · obtain ⟨v, rfl, rv⟩ := rep1 rl; cases e
      cases rv with | fl h1 l1 => exact ⟨_, _, rfl, .inl (by rw [← hK]; exact h1.sq), fun p hp => q ρ1 H1 p _ st hp l1⟩
    · obtain ⟨v, rfl, rv⟩ := rep1 rl; cases e
      cases rv with | tup h1 l1 => exact ⟨_, _, rfl, .inr (by rw [← hK]; exact h1.sq), fun p hp => q ρ1 H1 p _ st hp l1⟩
    · cases e⟩
/-! ### x[k] = v, x own -/
def mOwnSet (i : Nat) (mv mk : M IV) : M Flw := M.bind mv fun v s => match s.env[i]? with
  | some (.own _) => M.bind mk (fun k s => match s.env[i]?, k with
    | some (.own l), .int k => match ixN l.length k with
      | some n => .ok .nx (setE i (.own (l.set n v)) s)
      | none => .no
    | _, _ => .no) s
  | _ => .no
theorem s_ownSet {i : Nat} (hN : X.N[i]? = some x) (hvv : Vis X.env.scope x) (hv : PE X e (tE Θ mv)) (hi : PE X b (tE Θ mb)) (hd : (x == ("__debug__" : Str)) = false := by decide) (hcd : (x == ("__classdict__" : Str)) = false := by decide)
    (hs : swapsWithSole [.Subscript (.Name x p1) b p] e pos.line X.env = pure false := by rfl) (hw : swappedStores [.Subscript (.Name x p1) b p] e X.env = pure none := by rfl)
    (h1 : (assignEach [.Subscript (.Name x p1) b p] X.env).map (·.2) = [assign (.Subscript (.Name x p1) b p) X.env] := by rfl)
    (hq : ∀ v, assign (.Subscript (.Name x p1) b p) X.env v = (do
      let ov ← holding [v] (eval (.Name x p1) X.env)
      let iv ← holding [v, ov] (eval b X.env)
      standAt p
      holding [v, ov, iv] (setItem ov iv v)
      release [v, ov, iv] []) := by intro _; rfl) : PS X (.Assign [.Subscript (.Name x p1) b p] e pos) (tS Θ (mOwnSet i mv mb)) :=
  psLe (ps_asg hv (pg_sub (pe_var hN hvv hd hcd) hi set_list hq) hs hw h1) fun D σ H h => (tS.bind (R := RepV) h).imp fun v H1 ⟨ρ1, s1, vi, r1, rv, o1⟩ => by
    split at o1
    · rename_i l0 e0
      obtain ⟨a, vs0, h1, h2, h3⟩ := r1.slot i _ e0
      refine ⟨_, h1, ρ1, s1, r1, o1.bind.mono fun ki s2 q ρ2 H2 kv st2 rk => ?_⟩
      split at q
      · rename_i l k e1
        obtain ⟨a', vs, k1, k2, k3⟩ := st2.r.slot i _ e1
        rw [h1] at k1; cases k1
        cases rk
        split at q
        · rename_i n en
          refine ⟨_, vs, k, n, rfl, rfl, k2, by rw [k3.length]; exact en, ?_⟩
          have st3 := st2.r.setOwn (p := a) (.inr ⟨h1, l, e1⟩) (k3.set (rv.mono st2.le) n)
          rw [set_same h1] at st3
          exact q ρ2 σ _ (st2.trans st3)
        · exact q.elim
      · exact q.elim
    · exact o1.elim
/-! ### range(a, b, -1) -/
def rngD (lo : Int) (n : Nat) : List IV := (List.range n).map fun (i : Nat) => IV.int (lo + i * (-1))
def rng3 : List IV → Option (List IV)
  | [.int i, .int j, .int (-1)] => if i.natAbs ≤ 4611686018427387 ∧ j.natAbs ≤ 4611686018427387 then some (rngD i (i - j).toNat) else none
  | _ => none
theorem itc_ok {w : Vw} (lo : Int) (n : Nat) : ItOk w (Itc lo (-1) n) (rngD lo n) := fun w' le tr => by
  refine ⟨fun i x e => ?_, fun i hi => (show n ≤ i by simpa [rngD] using hi)⟩
  unfold rngD at e
  rw [List.getElem?_map] at e
  have hi : i < n := by
    cases q : (List.range n)[i]? with
    | none => rw [q] at e; cases e
    | some j => have := (List.getElem?_eq_some_iff.mp q).1; simpa using this
  rw [List.getElem?_range hi] at e
  cases e
  exact ⟨hi, fun v H' y => by obtain ⟨e1, e2⟩ := y; subst e1; subst e2; exact ⟨fun _ _ q => q, .int _⟩⟩
theorem i_range3 (hg : Gl X "range") (hm : X.mg "range" = none) (ha : PA X [a, b, c] (tA Θ mr)) (hs : starEach [a, b, c] X.env = (false, eval a X.env) :: starEach [b, c] X.env := by rfl) (hpl : (backTo pos (starEach [b, c] X.env)).any (·.1) = false := by rfl) :
    PI X tg (.Call (.Name "range" p) [a, b, c] [] pos) (tI Θ (mApL rng3 mr)) :=
  piLe (pi_range3 hg hm ha hs hpl) fun σ H R ⟨ρ, s, r, o⟩ => ⟨ρ, s, r, o.bind.mono fun l s1 q ρ1 H1 vs st rl => by
    obtain ⟨z, e, q⟩ := q.opt
    unfold rng3 at e
    split at e
    · split at e
      · rename_i hj; cases e
        cases rl with | cons h1 t1 => cases t1 with | cons h2 t2 => cases t2 with | cons h3 t3 => cases t3 with | nil =>
        cases h1; cases h2; cases h3
        exact ⟨_, _, _, _, rfl, RgC.neg (by omega) (by omega) (by omega) (by omega), q ρ1 H1 _ st (itc_ok _ _)⟩
      · cases e
    · cases e⟩
end
end Mi
set_option Elab.async false
set_option linter.all false
set_option maxRecDepth 100000
namespace Mi
open PySem L2 PyProof.Rows

variable {Θ : Fx} {ρ ρ' : List Addr} {s s' : S} {σ σ' : L2.St} {H H' : Hp} {X : Cx} {K : PySem.W.Frag}

/-! ### any object of the store put or laid -/
theorem StR.putO (r : StR Θ ρ s σ H) {j : Nat} {a : Addr} {o0 o : SO} {ho : HO} (e : ρ[j]? = some a) (e0 : s.sto[j]? = some o0)
    (hl : ∀ w' : Vw, (vw Θ ρ s.env σ H).Le w' → w'.H a = some ho → SOR w' a o) :
    Stp Θ ρ s σ H ρ { s with sto := s.sto.set j o } σ (upd H a ho) := by
  have am : a ∈ ρ := List.mem_of_getElem? e
  have le : (vw Θ ρ s.env σ H).Le (vw Θ ρ s.env σ (upd H a ho)) := ⟨rfl, fun _ _ q => q, fun b o q n => ⟨(upd_ne fun z => n (.inl (by rw [z]; exact am))).trans q, n⟩⟩
  refine ⟨⟨r.len, by simp [r.slen], fun i x q => ?_, fun i b o e1 e2 => ?_, r.nd, r.sep, r.one, fun b f => ?_, r.base.trans le, fun b o f q => ?_, r.self⟩, le⟩
  · have z := r.slot i x q
    cases x with
    | emp => trivial
    | val v => obtain ⟨u, h1, h2⟩ := z; exact ⟨u, h1, h2.mono le⟩
    | own k => obtain ⟨b, us, h1, h2, h3⟩ := z; exact ⟨b, us, h1, (upd_ne fun z => r.sep b ⟨i, h1, .inl ⟨k, q⟩⟩ (by rw [z]; exact am)).trans h2, h3.mono le⟩
    | ins c fs => obtain ⟨b, dx, gs, h1, h2, h3⟩ := z; exact ⟨b, dx, gs, h1, (upd_ne fun z => r.sep b ⟨i, h1, .inr ⟨c, fs, q⟩⟩ (by rw [z]; exact am)).trans h2, h3.mono le⟩
  · by_cases hj : j = i
    · subst hj
      rw [e] at e1; cases e1
      have e2 : (s.sto.set j _)[j]? = some o := e2
      rw [List.getElem?_set_self', e0] at e2
      cases e2
      exact hl _ le upd_same
    · have e2 : (s.sto.set j _)[i]? = some o := e2
      rw [List.getElem?_set_ne hj] at e2
      exact (r.obj i b o e1 e2).mono le (upd_ne fun z => hj (r.nd j i a e (by rw [← z]; exact e1)))
  · obtain ⟨⟨o, q⟩, n1, n2⟩ := r.fo b f
    exact ⟨⟨o, (upd_ne fun z => n1 (by rw [z]; exact am)).trans q⟩, n1, n2⟩
  · exact (upd_ne fun z => (r.fo b f).2.1 (by rw [z]; exact am)).trans (r.fkeep b o f q)
theorem StR.allocO (r : StR Θ ρ s σ H) {p : Addr} {o : SO} {ho : HO} (hp : H p = none) (hl : ∀ w' : Vw, (vw Θ ρ s.env σ H).Le w' → w'.H p = some ho → SOR w' p o) :
    Stp Θ ρ s σ H (ρ ++ [p]) { s with sto := s.sto ++ [o] } σ (upd H p ho) := by
  have ne : ∀ a o, H a = some o → a ≠ p := fun a o e z => by subst z; rw [hp] at e; cases e
  have nL : ∀ a, (a ∈ ρ ∨ (Ow σ s.env a ∨ Θ.F a)) → a ≠ p := fun a h => let ⟨o, e⟩ := r.tracked h; ne a o e
  have le : (vw Θ ρ s.env σ H).Le (vw Θ (ρ ++ [p]) s.env σ (upd H p ho)) := ⟨rfl, fun i a q => by
      have q : ρ[i]? = some a := q
      show (ρ ++ [p])[i]? = some a
      rw [List.getElem?_append_left (List.getElem?_eq_some_iff.mp q).1]; exact q, fun b o q n => ⟨(upd_ne (ne b o q)).trans q, fun z => by
      rcases z with z | z
      · rcases List.mem_append.mp z with z | z
        · exact n (.inl z)
        · exact ne b o q (by simpa using z)
      · exact n (.inr z)⟩⟩
  have at_ : ∀ (i : Nat) (a : Addr), (ρ ++ [p])[i]? = some a → ρ[i]? = some a ∨ (i = ρ.length ∧ a = p) := fun i a q => by
    by_cases hi : i < ρ.length
    · rw [List.getElem?_append_left hi] at q; exact .inl q
    · rw [List.getElem?_append_right (by omega)] at q
      have : i - ρ.length = 0 := by
        have := (List.getElem?_eq_some_iff.mp q).1
        simp at this; omega
      rw [this] at q
      simp at q
      exact .inr ⟨by omega, q.symm⟩
  refine ⟨⟨r.len, by simp [r.slen], fun i x q => ?_, fun i b o' e1 e2 => ?_, fun i j a h1 h2 => ?_, fun a h z => ?_, r.one, fun b f => ?_, r.base.trans le, fun b o f q => ?_, r.self⟩, le⟩
  · have z := r.slot i x q
    cases x with
    | emp => trivial
    | val v => obtain ⟨u, h1, h2⟩ := z; exact ⟨u, h1, h2.mono le⟩
    | own k => obtain ⟨b, us, h1, h2, h3⟩ := z; exact ⟨b, us, h1, (upd_ne (nL b (.inr (.inl ⟨i, h1, .inl ⟨k, q⟩⟩)))).trans h2, h3.mono le⟩
    | ins c fs => obtain ⟨b, dx, gs, h1, h2, h3⟩ := z; exact ⟨b, dx, gs, h1, (upd_ne (nL b (.inr (.inl ⟨i, h1, .inr ⟨c, fs, q⟩⟩)))).trans h2, h3.mono le⟩
  · have e2 : (s.sto ++ [o])[i]? = some o' := e2
    rcases at_ i b e1 with e1 | ⟨rfl, rfl⟩
    · have hi : i < s.sto.length := by rw [← r.slen]; exact (List.getElem?_eq_some_iff.mp e1).1
      rw [List.getElem?_append_left hi] at e2
      exact (r.obj i b o' e1 e2).mono le (upd_ne (nL b (.inl (List.mem_of_getElem? e1))))
    · rw [r.slen, List.getElem?_append_right (Nat.le_refl _), Nat.sub_self] at e2
      simp at e2
      subst e2
      exact hl _ le upd_same
  · rcases at_ i a h1 with k1 | ⟨k1, k1'⟩
    · rcases at_ j a h2 with k2 | ⟨k2, k2'⟩
      · exact r.nd i j a k1 k2
      · exact absurd k2' (nL _ (.inl (List.mem_of_getElem? k1)))
    · rcases at_ j a h2 with k2 | ⟨k2, _⟩
      · exact absurd k1' (nL _ (.inl (List.mem_of_getElem? k2)))
      · rw [k1, k2]
  · rcases List.mem_append.mp z with z | z
    · exact r.sep a h z
    · exact nL a (.inr (.inl h)) (by simpa using z)
  · obtain ⟨⟨o, q⟩, n1, n2⟩ := r.fo b f
    refine ⟨⟨o, (upd_ne (ne b o q)).trans q⟩, fun z => ?_, n2⟩
    rcases List.mem_append.mp z with z | z
    · exact n1 z
    · exact ne b o q (by simpa using z)
  · exact (upd_ne (nL b (.inr (.inr f)))).trans (r.fkeep b o f q)

/-! ### instances that live in the store -/
def plusX (F : Addr → Prop) (x : Addr) : Addr → Prop := fun a => F a ∨ a = x
def spIR (K : PySem.W.Frag) (C : Addr) (fn : FnI) : Sp := fun vs H Q E => ∃ x dx ws H0 ρ μ xs F, vs = .ref x :: ws ∧ H0 x = none ∧ H0 dx = none ∧ dx ≠ x ∧ H = upd (upd H0 dx (.own x)) x (.ins C dx []) ∧ EnR K F ρ μ H0 ∧ RepL (cw K F ρ H0) ws xs ∧ match fn xs μ with
  | .ok fs μ' => ∀ ρ' H' dx' gs, EnR K (plusX F x) ρ' μ' H' → (cw K F ρ H0).Le (cw K (plusX F x) ρ' H') → (∀ a o, F a → H0 a = some o → H' a = some o) → H' x = some (.ins C dx' gs) → RepF (cw K (plusX F x) ρ' H') gs fs → Q .non H'
  | .ex c fs μ' => ∀ ρ' H' d, EnR K F ρ' μ' H' → (cw K F ρ H0).Le (cw K F ρ' H') → (∀ a o, F a → H0 a = some o → H' a = some o) → XDR (cw K F ρ' H') H' d fs → E (.ref c) (some d) H'
  | .no => False
section
variable {P : Program} {w : World} {mg : Str → Option Value} {base : Heap} {CX : CXT}
theorem okIR {x qual : Str} {st : Stmt} {f C : Addr} {fd : FuncData} {N ps : List Str} {k : Nat} {m : M Flw} (F : Fun K x qual st f fd) (S : FnScope N ps (defScope st))
    (hb : ∀ (cdv : Value) (A : Around) (outer : List Env) (s : Shared) (H : Hp) (E : XK) (Θ : Fx), Room k (A.deeper (envOfC qual (defScope st) s.heap.objs.size f cdv)) → Θ.K = K → Θ.EX = EXof K Θ.F Θ.w0 E →
      PSs (cxOf CX P w K mg base N qual (defScope st) f cdv A outer s H E) (defBody st) (tS Θ m)) :
    FnOk P w K mg base CX (k + 1) f fd ps (spIR K C (runI N.length ps.length C m)) := by
  obtain ⟨oc, od, kV, doc, pm, an, cdv, ct, osl, rfl, lk, hcd⟩ := F.ex
  have hlen : ∀ vs H Q E, spIR K C (runI N.length ps.length C m) vs H Q E → vs.length = ps.length := fun vs H Q E ⟨x, dx, ws, H0, ρ, μ, xs, FF, e, _, _, _, _, en, rl, q⟩ => by
    subst e
    unfold runI at q
    by_cases hl : xs.length + 1 = ps.length
    · rw [List.length_cons, rl.length]; exact hl
    · rw [if_neg hl] at q; exact q.elim
  refine fn_of lk hcd S hlen fun A outer s H vs Q E hr hsp => ?_
  have hl := hlen _ _ _ _ hsp
  obtain ⟨x, dx, ws, H0, ρ, μ, xs, FF, rfl, hx, hd, hn, rfl, en, rl, q⟩ := hsp
  have hle : ws.length + 1 ≤ N.length := by
    have := congrArg List.length S.pre
    rw [List.length_take] at this
    rw [List.length_cons] at hl
    omega
  unfold runI at q
  rw [if_pos (by rw [List.length_cons, rl.length] at hl; exact hl)] at q
  refine ⟨_, hb cdv A outer s _ E ⟨K, FF, cw K FF ρ H0, EXof K FF (cw K FF ρ H0) E, x⟩ hr rfl rfl, ρ, _, start_okI (C := C) en rl hle hx hd hn, ?_⟩
  cases e : m ⟨.ins C [] :: (xs.map .val ++ List.replicate (N.length - 1 - xs.length) .emp), μ⟩ with
  | no => rw [e] at q; exact q.elim
  | ex c fs s' => rw [e] at q; exact q
  | ok f s' =>
    rw [e] at q
    dsimp only at q
    intro ρ' σ' H' st
    cases e0 : s'.env[0]? with
    | none => rw [e0] at q; exact q.elim
    | some y =>
      rw [e0] at q
      cases y with
      | ins c fs =>
        unfold endI at q
        dsimp only at q
        by_cases hc : c = C
        · rw [if_pos hc] at q
          subst hc
          obtain ⟨a, dx', gs, h1, h2, h3⟩ := st.r.slot 0 _ e0
          have h4 := st.r.self 0 c fs e0
          rw [h1] at h4
          have h5 : a = x := by injection h4 with h4; injection h4 with h4; injection h4
          subst h5
          have ow : Ow σ' s'.env a := ⟨0, h1, .inr ⟨c, fs, e0⟩⟩
          have leX : (vw ⟨K, FF, cw K FF ρ H0, EXof K FF (cw K FF ρ H0) E, a⟩ ρ' s'.env σ' H').Le (cw K (plusX FF a) ρ' H') :=
            ⟨rfl, fun _ _ e => e, fun b o e n => ⟨e, fun z => n (z.imp id fun z => z.elim .inr fun z => .inl (by rw [z]; exact ow))⟩⟩
          have en' : EnR K (plusX FF a) ρ' s'.sto H' := ⟨st.r.slen, fun i b o e1 e2 => (st.r.obj i b o e1 e2).mono leX rfl, st.r.nd, fun b h => h.elim (fun h => ⟨(st.r.fo b h).1, (st.r.fo b h).2.1⟩) fun h => by subst h; exact ⟨⟨_, h2⟩, st.r.sep _ ow⟩⟩
          have le' : (cw K FF ρ H0).Le (cw K (plusX FF a) ρ' H') := st.r.base.trans leX
          have fk : ∀ b o, FF b → H0 b = some o → H' b = some o := fun b o f e => st.r.fkeep b o f e
          cases f with
          | nx => exact q ρ' H' dx' gs en' le' fk h2 (h3.mono leX)
          | rt v =>
            cases v with
            | non => exact fun u ru => by cases ru; exact q ρ' H' dx' gs en' le' fk h2 (h3.mono leX)
            | _ => exact q.elim
          | bk => exact q.elim
          | ct => exact q.elim
        · rw [if_neg hc] at q; exact q.elim
      | _ => exact q.elim
theorem okIR0 {x qual : Str} {st : Stmt} {f C : Addr} {fd : FuncData} {N ps : List Str} {k : Nat} {m : M Flw} (F : Fun K x qual st f fd) (S : FnScope N ps (defScope st))
    (hb : ∀ (cdv : Value) (A : Around) (outer : List Env) (s : Shared) (H : Hp) (E : XK) (Θ : Fx), Room k (A.deeper (envOfC qual (defScope st) s.heap.objs.size f cdv)) → Θ.K = K → Θ.EX = EXof K Θ.F Θ.w0 E →
      PSs (cxOf CX0 P w K mg base N qual (defScope st) f cdv A outer s H E).nox (defBody st) (tS Θ m)) :
    FnOk P w K mg base CX0 (k + 1) f fd ps (spIR K C (runI N.length ps.length C m)) := okIR F S fun cdv A outer s H E Θ hr hK hE => (hb cdv A outer s H E Θ hr hK hE).nox
end
/-- behind an __init__: the instance joins the store -/
theorem StR.backX (r : StR Θ ρ s σ H) {μ' : List SO} {x C dx : Addr} {fs : List (Str × IV)} {gs : List (Str × V)} (hx : H x = none) (e : EnR Θ.K (plusX (calleeF Θ s σ) x) ρ' μ' H')
    (le : (cw Θ.K (calleeF Θ s σ) ρ H).Le (cw Θ.K (plusX (calleeF Θ s σ) x) ρ' H')) (k : ∀ a o, calleeF Θ s σ a → H a = some o → H' a = some o)
    (h1 : H' x = some (.ins C dx gs)) (h2 : RepF (cw Θ.K (plusX (calleeF Θ s σ) x) ρ' H') gs fs) :
    Stp Θ ρ s σ H (ρ' ++ [x]) { s with sto := μ' ++ [.ins C fs] } σ H' := by
  have nr : x ∉ ρ' := (e.fo x (.inr rfl)).2
  have leX : (cw Θ.K (plusX (calleeF Θ s σ) x) ρ' H').Le (vw Θ (ρ' ++ [x]) s.env σ H') := ⟨rfl, fun i a q => by
      have q : ρ'[i]? = some a := q
      show (ρ' ++ [x])[i]? = some a
      rw [List.getElem?_append_left (List.getElem?_eq_some_iff.mp q).1]; exact q, fun b o q n => ⟨q, fun z => n (z.elim (fun z => (List.mem_append.mp z).elim .inl fun z => .inr (.inr (by simpa using z))) fun z => .inr (.inl z))⟩⟩
  have le' : (vw Θ ρ s.env σ H).Le (vw Θ (ρ' ++ [x]) s.env σ H') := Vw.Le.trans (w1 := cw Θ.K (plusX (calleeF Θ s σ) x) ρ' H') le leX
  have at_ : ∀ (i : Nat) (a : Addr), (ρ' ++ [x])[i]? = some a → ρ'[i]? = some a ∨ (i = ρ'.length ∧ a = x) := fun i a q => by
    by_cases hi : i < ρ'.length
    · rw [List.getElem?_append_left hi] at q; exact .inl q
    · rw [List.getElem?_append_right (by omega)] at q
      have : i - ρ'.length = 0 := by
        have := (List.getElem?_eq_some_iff.mp q).1
        simp at this; omega
      rw [this] at q
      simp at q
      exact .inr ⟨by omega, q.symm⟩
  have nT : ∀ a, calleeF Θ s σ a → a ≠ x := fun a h z => by
    obtain ⟨o, q⟩ := r.tracked (.inr h)
    rw [z, hx] at q; cases q
  refine ⟨⟨r.len, by simp [e.slen], fun i y q => ?_, fun i b o' e1 e2 => ?_, fun i j a h1 h2 => ?_, fun a h z => ?_, r.one, fun b f => ?_, r.base.trans le', fun b o f q => k b o (.inr f) (r.fkeep b o f q), r.self⟩, le'⟩
  · have z := r.slot i y q
    cases y with
    | emp => trivial
    | val v => obtain ⟨u, h1, h2⟩ := z; exact ⟨u, h1, h2.mono le'⟩
    | own l => obtain ⟨a, vs, h1, h2, h3⟩ := z; exact ⟨a, vs, h1, k a _ (.inl ⟨i, h1, .inl ⟨l, q⟩⟩) h2, h3.mono le'⟩
    | ins c fs => obtain ⟨a, dx, gs, h1, h2, h3⟩ := z; exact ⟨a, dx, gs, h1, k a _ (.inl ⟨i, h1, .inr ⟨c, fs, q⟩⟩) h2, h3.mono le'⟩
  · have e2 : (μ' ++ [SO.ins C fs])[i]? = some o' := e2
    rcases at_ i b e1 with e1 | ⟨rfl, rfl⟩
    · have hi : i < μ'.length := by rw [← e.slen]; exact (List.getElem?_eq_some_iff.mp e1).1
      rw [List.getElem?_append_left hi] at e2
      exact (e.obj i b o' e1 e2).mono leX rfl
    · rw [e.slen, List.getElem?_append_right (Nat.le_refl _), Nat.sub_self] at e2
      simp at e2
      subst e2
      exact ⟨dx, gs, h1, h2.mono leX⟩
  · rcases at_ i a h1 with k1 | ⟨k1, k1'⟩
    · rcases at_ j a h2 with k2 | ⟨k2, k2'⟩
      · exact e.nd i j a k1 k2
      · exact absurd (List.mem_of_getElem? k1) (by rw [k2']; exact nr)
    · rcases at_ j a h2 with k2 | ⟨k2, _⟩
      · exact absurd (List.mem_of_getElem? k2) (by rw [k1']; exact nr)
      · rw [k1, k2]
  · rcases List.mem_append.mp z with z | z
    · exact (e.fo a (.inl (.inl h))).2 z
    · simp at z; exact nT a (.inl h) z
  · obtain ⟨q, n1⟩ := e.fo b (.inl (.inr f))
    refine ⟨q, fun z => ?_, (r.fo b f).2.2⟩
    rcases List.mem_append.mp z with z | z
    · exact n1 z
    · simp at z; exact nT b (.inr f) z
section
variable {k j : Nat} {f C : Addr} {fd : FuncData} {ps : List Str} {fn : Fn} {fi : FnI} {x qual m : Str} {st : Stmt} {p pos apos : Pos} {e a o : Expr} {es : List Expr} {mr : M (List IV)} {mo mb : M IV} {E : XK} {i : Int}
theorem tE_makeR {Q : VK} (hK : Θ.K = K) (hE : Θ.EX = EXof K Θ.F Θ.w0 E) (h : tE Θ (mMakeR C fi mr) σ H Q) : tMake C (spIR K C fi) [] E (tA Θ mr) σ H Q :=
  (tM.bind (R := RepL) h).imp fun vs H1 ⟨ρ1, s1, xs, r1, rl, o⟩ => by
    subst hK
    intro x dx hx hd hn
    rw [List.append_nil]
    refine ⟨x, dx, vs, H1, ρ1, s1.sto, xs, calleeF Θ s1 σ, rfl, hx, hd, hn, rfl, r1.enOw, rl, ?_⟩
    cases e : fi xs s1.sto with
    | no => rw [e] at o; exact o.elim
    | ok fs μ' =>
      rw [e] at o
      intro ρ' H' dx' gs en le k hxx rf
      have st := r1.backX hx en le k hxx rf
      refine ⟨rfl, o _ H' (.ref x) st (.ref ?_)⟩
      show (ρ' ++ [x])[μ'.length]? = some x
      rw [← en.slen, List.getElem?_append_right (Nat.le_refl _), Nat.sub_self]; rfl
    | ex c fs μ' =>
      rw [e] at o
      intro ρ' H' d en le k xd
      have o : Θ.EX c fs { s1 with sto := μ' } := o
      rw [hE] at o
      have st := r1.back en le k
      have lc := st.r.leC
      obtain ⟨gs, h1, h2, h3⟩ := xd
      exact o ρ' H' d st.r.en (st.r.base.trans lc) st.r.fkeep ⟨gs, h1, (lc.keep d _ h1 h2).2, h3.mono lc⟩
theorem c_makeR (B : InB X.K X.mg x st qual ps C f fd) (G : FnOk X.prog X.w X.K X.mg X.base CX0 k f fd ps (spIR X.K C fi)) (hr : Room j X.A) (hjk : k + 1 ≤ j) (hg : Gl X x) (hK : Θ.K = X.K) (hE : Θ.EX = EXof X.K Θ.F Θ.w0 E) (ha : PA X (e :: es) (tA Θ mr))
    (hd : (x == ("__debug__" : Str)) = false := by decide) (hs : starEach (e :: es) X.env = (false, eval e X.env) :: starEach es X.env := by rfl) (hpl : (backTo pos (starEach es X.env)).any (·.1) = false := by rfl) :
    PE X (.Call (.Name x p) (e :: es) [] pos) (tE Θ (mMakeR C fi mr)) := peLe (pe_make B.mK G (hr.mono hjk) hg B.g B.b .nil (fun _ _ _ _ _ _ _ h => h.elim) ha hd hs hpl) fun _ _ _ h => tE_makeR hK hE h
/-! ### o.f = v -/
def mSetFld (C : Addr) (f : Str) (mv mo : M IV) : M Flw := M.bind mv fun v => M.bind mo fun o s => match o with
  | .ref j => match s.sto[j]? with
    | some (.ins c fs) => if c = C ∧ fs.length < 100 then .ok .nx { s with sto := s.sto.set j (.ins c (putI f v fs)) } else .no
    | _ => .no
  | _ => .no
theorem s_setFld {C : Addr} {f : Str} {value : Expr} {mv : M IV} {pos' : Pos} (cl : Cls X.K C) (na : NoAttr X.K C f) (ho : PE X o (tE Θ mo)) (hv : PE X value (tE Θ mv))
    (hs : swapsWith value (some (.Attribute o f pos')) pos.line X.env = pure false := by rfl) : PS X (.Assign [.Attribute o f pos'] value pos) (tS Θ (mSetFld C f mv mo)) := by
  refine psLe (ps_fld ho hv hs) fun D σ H h => (tS.bind (R := RepV) h).imp fun v H1 ⟨ρ1, s1, vi, r1, rv, o1⟩ => ?_
  refine ⟨ρ1, s1, r1, o1.bind.mono fun oi s2 q ρ2 H2 ov st ro => ?_⟩
  split at q
  · rename_i j
    split at q
    · rename_i c fs e0
      split at q
      · rename_i hz
        obtain ⟨hc, hz⟩ := hz
        subst hc
        cases ro with | ref hj =>
        obtain ⟨dx, gs, h2, h3⟩ := st.r.obj _ _ _ hj e0
        refine ⟨_, _, _, _, rfl, h2, cl, na, by rw [h3.length]; omega, ?_⟩
        have st2 := st.r.putO (o := .ins c (putI f vi fs)) (ho := .ins c dx (putF f v gs)) hj e0 fun w' le hw => ⟨dx, _, hw, (h3.putI (rv.mono st.le)).mono le⟩
        exact q ρ2 σ _ (st.trans st2)
      · exact q.elim
    · exact q.elim
  · exact q.elim
/-! ### o.m(..) -/
def isI (C : Addr) (m : Str) (x : IV) (s : S) : Prop := match x with
  | .obj c fs => c = C ∧ fs.lookup m = none
  | .ref j => match s.sto[j]? with | some (.ins c fs) => c = C ∧ fs.lookup m = none | _ => False
  | _ => False
instance {C : Addr} {m : Str} {x : IV} {s : S} : Decidable (isI C m x s) := by
  unfold isI
  split
  · exact inferInstance
  · split
    · exact inferInstance
    · exact inferInstance
  · exact inferInstance
def mMeth (C : Addr) (m : Str) (fn : Fn) (mo : M IV) (mr : M (List IV)) : M IV := M.bind mo fun x s => if isI C m x s then M.bind mr (fun xs s => match fn (x :: xs) s.sto with
  | .ok v μ => .ok v { s with sto := μ }
  | .ex c fs μ => .ex c fs { s with sto := μ }
  | .no => .no) s else .no
theorem isI_rep {C : Addr} {v : V} {xi : IV} (r : StR Θ ρ s σ H) (rx : RepV (vw Θ ρ s.env σ H) v xi) (h : isI C m xi s) : ∃ a dx fs, v = .ref a ∧ H a = some (.ins C dx fs) ∧ fs.lookup m = none := by
  unfold isI at h
  split at h
  · obtain ⟨hc, hl⟩ := h
    subst hc
    cases rx with | obj h1 h2 h3 => exact ⟨_, _, _, rfl, h1, h3.lookupN hl⟩
  · split at h
    · rename_i e0
      obtain ⟨hc, hl⟩ := h
      subst hc
      cases rx with | ref hj =>
      obtain ⟨dx, gs, h1, h2⟩ := r.obj _ _ _ hj e0
      exact ⟨_, _, _, rfl, h1, h2.lookupN hl⟩
    · exact h.elim
  · exact h.elim
theorem tE_meth {Q : VK} (hK : Θ.K = K) (hE : Θ.EX = EXof K Θ.F Θ.w0 E) (h : tE Θ (mMeth C m fn mo mr) σ H Q) : tMeth C m (spF K fn) [] E (tE Θ mo) (tA Θ mr) σ H Q :=
  (tM.bind (R := RepV) h).imp fun v H1 ⟨ρ1, s1, xi, r1, rx, o1⟩ => by
    split at o1
    · rename_i hi
      obtain ⟨a, dx, fs, e1, e2, e3⟩ := isI_rep r1 rx hi
      refine ⟨a, dx, fs, e1, e2, e3, ρ1, s1, r1, o1.bind.mono fun xs s2 q ρ2 H2 vs st2 rl => ?_⟩
      show spF K fn (v :: (vs ++ [])) H2 Q E
      rw [List.append_nil]
      exact call_sp hK hE st2.r (.cons (rx.mono st2.le) rl) (q.mono fun z s3 q2 ρ3 H3 u st3 ru => q2 ρ3 H3 u (st2.trans st3) ru)
    · exact o1.elim
/-- a method as the top left it -/
structure MtB (K : PySem.W.Frag) (m : Str) (st : Stmt) (qual : Str) (ps : List Str) (C f : Addr) (fd : FuncData) : Prop where
  mt : Meth K C m f
  F : Fun K m qual st f fd
  b : L2.Binds K fd ps []
theorem c_meth {pl : Sem Bool} (cl : Cls X.K C) (B : MtB X.K m st qual ps C f fd) (G : FnOk X.prog X.w X.K X.mg X.base CX0 k f fd ps (spF X.K fn)) (hr : Room j X.A) (hjk : k ≤ j) (hK : Θ.K = X.K) (hE : Θ.EX = EXof X.K Θ.F Θ.w0 E) (ho : PE X o (tE Θ mo)) (ha : PA X (e :: es) (tA Θ mr))
    (hst : starEach (e :: es) X.env = (false, eval e X.env) :: starEach es X.env := by rfl) (hpl : (backTo pos (starEach es X.env)).any (·.1) = false := by rfl)
    (ht : eval (.Call (.Attribute o m apos) (e :: es) [] pos) X.env = (do
      let ov ← eval o X.env
      standAt apos.atName
      let (f, first) ← holding [ov] (getMethod ov m pl)
      callWith pos f first (backTo pos (starEach (e :: es) X.env)) (backToKw pos (keywordEach [] X.env))) := by rfl) :
    PE X (.Call (.Attribute o m apos) (e :: es) [] pos) (tE Θ (mMeth C m fn mo mr)) := peLe (pe_meth ho cl B.mt G (hr.mono hjk) B.b .nil (fun _ _ _ _ _ _ _ h => h.elim) ha hst hpl ht) fun _ _ _ h => tE_meth hK hE h
theorem c_meth0 {pl : Sem Bool} (cl : Cls X.K C) (B : MtB X.K m st qual ps C f fd) (G : FnOk X.prog X.w X.K X.mg X.base CX0 k f fd ps (spF X.K fn)) (hr : Room j X.A) (hjk : k ≤ j) (hK : Θ.K = X.K) (hE : Θ.EX = EXof X.K Θ.F Θ.w0 E) (ho : PE X o (tE Θ mo))
    (ht : eval (.Call (.Attribute o m apos) [] [] pos) X.env = (do
      let ov ← eval o X.env
      standAt apos.atName
      let (f, first) ← holding [ov] (getMethod ov m pl)
      callWith pos f first (backTo pos (starEach [] X.env)) (backToKw pos (keywordEach [] X.env))) := by rfl) :
    PE X (.Call (.Attribute o m apos) [] [] pos) (tE Θ (mMeth C m fn mo mNil)) := peLe (pe_meth0 ho cl B.mt G (hr.mono hjk) B.b .nil (fun _ _ _ _ _ _ _ h => h.elim) ht) fun σ H Q h =>
  tM.imp (tE_meth hK hE h) fun v H1 ⟨a, dx, fs, e1, e2, e3, ρ1, s1, r1, o1⟩ => ⟨a, dx, fs, e1, e2, e3, o1 ρ1 H1 [] r1.here .nil⟩
end
end Mi
set_option Elab.async false
set_option linter.all false
set_option maxRecDepth 100000
namespace Mi
open PySem L2 PyProof.Rows

variable {Θ : Fx} {ρ ρ' : List Addr} {s s' : S} {σ σ' : L2.St} {H H' : Hp} {X : Cx} {K : PySem.W.Frag}

/-! ### int(t, 10) -/
set_option maxHeartbeats 4000000 in
theorem new_ten {y : PySem.Str} {t1 t2 : Tok} {i : Int} (h640 : y.length ≤ 640) (hi : PySem.intText? y = some i) : Gives (Builtin.«int.__new__» ⟨[.type "int", .str y t1, .int 10 t2], []⟩) (.int i) :=
  .of_wp fun M0 A0 E0 s0 Q0 hQ0 => by
    obtain ⟨h0, g0, d0, k0, o0⟩ := s0
    have z1 := F.conv_sub_int
    have z2 := F.madeHere_int
    have z3 : typeOf (.str y t1) = pure (.type "str") := rfl
    have z4 : (PySem.numSeenOf y).length ≤ 640 := Nat.le_trans (PySem.seen_length y) h640
    have z5 := PySem.read0 y z4
    have z6 : Hx.Hid ((PySem.numSeenOf y).length ≤ 640 ∧ (int_private% "readNumeral") 0 10 (PySem.numSeenOf y) = (int_private% "Numeral.value") i ∧ ((PySem.numSeenOf y).length == (PySem.numTextOf y).length) = true) := by
      rcases z5 with ⟨j, q1, q2, q3⟩ | ⟨q1, _⟩
      · rw [hi] at q1
        cases q1
        exact ⟨z4, q3, q2⟩
      · rw [hi] at q1
        cases q1
    clear z4 z5 h640 hi
    repeat (any_goals (first
      | assumption
      | ((with_reducible show wpAny _ _ ((int_private% "intFromText") _ _ _) _ _ _); refine Hx.wp_textB z6.out.1 z6.out.2.1 z6.out.2.2 ?_)
      | wp_step))
    all_goals first | exact ⟨_, rfl, hQ0⟩ | skip

/-! ### built-ins upon texts -/
theorem call_int_ten : CallR X (.type "int") (fun xs H Q => ∃ y i, xs = [.str y, .int 10] ∧ PySem.intText? y = some i ∧ y.length ≤ 640 ∧ Q (.int i) H) := by
  intro pins s σ H xs us Q I r h
  obtain ⟨y, i, rfl, hi, hl, q⟩ := h
  obtain ⟨u, w', rfl, r1, r2⟩ := vals2 r
  obtain ⟨t1, rfl⟩ := r1
  obtain ⟨t2, rfl⟩ := r2
  exact callType_new F.called_int F.newNe_int (Hx.typeCall_int_2 _ _) (Hx.newCall_int_2 _ _) (fun obj => F.initArgs_range_2 obj _ _) F.entry_int_new (new_ten hl hi).meets
    (show (Made.int i).post _ s from ⟨rfl, ⟨.int i, H, I.tok _, ⟨_, rfl⟩, q⟩⟩)
def int10 : List IV → Option IV
  | [.str y, .int 10] => if y.length ≤ 640 then (PySem.intText? y).map .int else none
  | _ => none
theorem int10_ok : CaS Θ (fun xs H Q => ∃ y i, xs = [.str y, .int 10] ∧ PySem.intText? y = some i ∧ y.length ≤ 640 ∧ Q (.int i) H) int10 := by
  intro ρ s σ H xs vs z Q r rx e b
  unfold int10 at e
  split at e
  · rename_i y
    split at e
    · rename_i h
      obtain ⟨v, u, rfl, rv, ru⟩ := rep2 rx
      cases rv; cases ru
      cases q : PySem.intText? y with
      | none => rw [q] at e; cases e
      | some i => rw [q] at e; cases e; exact ⟨_, _, rfl, q, h, b.now r (.int _)⟩
    · cases e
  · cases e
theorem vals_sgn : ∀ (cs : List Nat) (us : List Value), us.length = cs.length → (∀ (j : Nat) (u : Value), us[j]? = some u → ∃ (c : Nat) (t : Tok), cs[j]? = some c ∧ u = Value.str ⟨#[c]⟩ t) → Vals (cs.map fun c => V.str ⟨#[c]⟩) us
  | [], [], _, _ => .nil
  | [], _ :: _, h, _ => by simp at h
  | _ :: _, [], h, _ => by simp at h
  | c :: cs, u :: us, h, k => by
    obtain ⟨c', t, e1, e2⟩ := k 0 u rfl
    simp at e1; subst e1; subst e2
    exact .cons ⟨t, rfl⟩ (vals_sgn cs us (by simpa using h) fun j v e => by simpa using k (j + 1) v (by simpa using e))
theorem rep_sgn {w : Vw} (z : Str) : RepL w (z.cps.toList.map fun c => V.str ⟨#[c]⟩) (sgnL z) := by
  unfold sgnL
  generalize z.cps.toList = l
  induction l with
  | nil => exact .nil
  | cons c l ih => exact .cons (.str _) ih
def rTxtL : List V → Hp → VK → Prop := fun xs H Q => ∃ z, xs = [.str z] ∧ z.length ≤ sizeLine ∧ ∀ p, H p = none → Q (.ref p) (upd H p (.lst (z.cps.toList.map fun c => V.str ⟨#[c]⟩)))
theorem call_list_txt (hc : X.calm = true) : CallR X (.type "list") rTxtL := by
  intro pins s σ H xs us Q I r h
  obtain ⟨z, rfl, hz, q⟩ := h
  obtain ⟨u, rfl, rx⟩ := vals1 r
  obtain ⟨t, rfl⟩ := rx
  refine call_list_str (I.ok.hd hc) z t (fun h' tk acc c' hk e' hi => ?_) hz
  have hl : acc.toList.length = z.cps.toList.length := by rw [Array.length_toList, Array.length_toList]; exact hi.1
  refine ⟨.ref s.heap.objs.size, upd H s.heap.objs.size (.lst _), I.laid hk (Nat.le_refl _) (show ObjOk X.prog X.w _ _ _ (.lst _) from ⟨?_, acc.toList, c', vals_sgn _ _ hl fun j u hj => ?_, ?_⟩), rfl, q _ (I.hok.fresh (Nat.le_refl _))⟩
  · rw [List.length_map, Array.length_toList]; exact hz
  · obtain ⟨c, t, h1, h2⟩ := hi.2 j u (by rw [← hj, Array.getElem?_toList])
    exact ⟨c, t, by rw [Array.getElem?_toList]; exact h1, h2⟩
  · rw [Array.toArray_toList]; exact e'
def txtL : List IV → Option IV
  | [.str z] => if z.length ≤ szl then some (.fl (sgnL z)) else none
  | _ => none
theorem txtL_ok : CaS Θ rTxtL txtL := by
  intro ρ s σ H xs vs z Q r rx e b
  unfold txtL at e
  split at e
  · split at e
    · rename_i h
      obtain ⟨v, rfl, rv⟩ := rep1 rx; cases e
      cases rv
      exact ⟨_, rfl, le_szl h, fun p hp => b.fl r hp (rep_sgn _)⟩
    · cases e
  · cases e
def strV : List IV → Option IV
  | [.int i] => if i.natAbs < 1000000000000000000 then some (.str (PySem.Str.ofString (toString i))) else none
  | [.str z] => some (.str z)
  | _ => none
def rStrV : List V → Hp → VK → Prop := fun xs H Q => (∃ i, xs = [.int i] ∧ i.natAbs.log2 < 1920 ∧ Q (.str (toString i)) H) ∨ ∃ a, xs = [.str a] ∧ Q (.str a) H
theorem call_strV : CallR X (.type "str") rStrV := call_str_int.or SkE.call_str_str
theorem log2_le {n : Nat} (h : n < 1000000000000000000) : n.log2 < 1920 := by
  by_cases h0 : n = 0
  · subst h0; decide
  · rw [Nat.log2_lt h0]; exact Nat.lt_of_lt_of_le (Nat.lt_of_lt_of_le h (show _ ≤ 2 ^ 60 by decide)) (Nat.pow_le_pow_right (by decide) (by decide))
theorem strV_ok : CaS Θ rStrV strV := by
  intro ρ s σ H xs vs z Q r rx e b
  unfold strV at e
  split at e
  · split at e
    · rename_i h
      obtain ⟨v, rfl, rv⟩ := rep1 rx; cases e
      cases rv
      exact .inl ⟨_, rfl, log2_le h, b.now r (.str _)⟩
    · cases e
  · obtain ⟨v, rfl, rv⟩ := rep1 rx; cases e
    cases rv
    exact .inr ⟨_, rfl, b.now r (.str _)⟩
  · cases e
/-! ### one sign in a text -/
def inS (x y : IV) : Option IV := match x, y with
  | .str a, .str z => match a.cps.toList with
    | [c] => some (.bl (decide (c ∈ z.cps.toList)))
    | _ => none
  | _, _ => none
theorem inS_ok : OpS Θ (fun x y H Q => ∃ (c : Nat) (z : Str), x = .str ⟨#[c]⟩ ∧ y = .str z ∧ Q (.bl (decide (c ∈ z.cps.toList))) H) inS := by
  intro ρ s σ H x y xv yv z Q r rx ry e b
  unfold inS at e
  split at e
  · rename_i a z
    split at e
    · rename_i c hc
      cases e; cases rx; cases ry
      have : a = ⟨#[c]⟩ := by
        obtain ⟨⟨l⟩⟩ := a
        simp at hc
        rw [hc]
      subst this
      exact ⟨c, z, rfl, rfl, b.now r (.bl _)⟩
    · cases e
  · cases e
/-! ### sep.join(xs), s.split(sep) -/
def joinV (a : Str) : IV → Option IV
  | .fl l => match strsOf l with
    | some ys => if (ys.map (·.length)).sum + ys.length * a.length ≤ 16777216 then some (.str (Txt.join a ys)) else none
    | none => none
  | .tup l => match strsOf l with
    | some ys => if (ys.map (·.length)).sum + ys.length * a.length ≤ 16777216 then some (.str (Txt.join a ys)) else none
    | none => none
  | _ => none
def mJoin (mo me : M IV) : M IV := M.bind mo fun x => match x with
  | .str a => M.bind me fun y => M.opt (joinV a y)
  | _ => M.no
def splitV (a : Str) : IV → Option IV
  | .str b => if b.length ≠ 0 ∧ a.length + 2 ≤ szl then some (.fl ((Txt.split a b).map .str)) else none
  | _ => none
def mSplit (mo me : M IV) : M IV := M.bind mo fun x => match x with
  | .str a => M.bind me fun y => M.opt (splitV a y)
  | _ => M.no
theorem rep_strs {w : Vw} : ∀ l : List Str, RepL w (l.map V.str) (l.map IV.str)
  | [] => .nil
  | z :: l => .cons (.str z) (rep_strs l)
section
variable {a b c e o : Expr} {ma mb mc mo me : M IV} {pos p p1 p2 apos cpos : Pos} {x y : Str} {i : Nat} {mr : M (List IV)}
theorem e_join (hK : Θ.K = X.K) (ho : PE X o (tE Θ mo)) (he : PE X e (tE Θ me)) (hs : starEach [e] X.env = [(false, eval e X.env)] := by rfl) (hbase : attributeBase o "join" X.env (eval o X.env) = eval o X.env := by rfl) (hline : (apos.endLine == pos.line) = true := by rfl) :
    PE X (.Call (.Attribute o "join" apos) [e] [] pos) (tE Θ (mJoin mo me)) := peLe (pe_join ho he hs hbase hline) fun σ H Q h => (tM.bind (R := RepV) h).imp fun x H1 ⟨ρ1, s1, xi, r1, rx, o1⟩ => by
  cases xi with
  | str a =>
    cases rx
    refine ⟨⟨_, rfl⟩, ρ1, s1, r1, o1.bind.mono fun yi s2 q ρ2 H2 y st2 ry => ?_⟩
    obtain ⟨z, e, q⟩ := q.opt
    unfold joinV at e
    split at e
    · cases e1 : strsOf _ with
      | none => rw [e1] at e; cases e
      | some ys =>
        rw [e1] at e; dsimp only at e
        split at e
        · rename_i hz; cases e
          cases ry with | fl h1 l1 =>
          have := strsOf_rep l1 e1; subst this
          exact ⟨_, _, ys, rfl, rfl, .inl (by rw [← hK]; exact h1.sq), hz, q ρ2 H2 _ st2 (.str _)⟩
        · cases e
    · cases e1 : strsOf _ with
      | none => rw [e1] at e; cases e
      | some ys =>
        rw [e1] at e; dsimp only at e
        split at e
        · rename_i hz; cases e
          cases ry with | tup h1 l1 =>
          have := strsOf_rep l1 e1; subst this
          exact ⟨_, _, ys, rfl, rfl, .inr (by rw [← hK]; exact h1.sq), hz, q ρ2 H2 _ st2 (.str _)⟩
        · cases e
    · cases e
  | _ => exact o1.elim
theorem e_split (ho : PE X o (tE Θ mo)) (he : PE X e (tE Θ me)) (hs : starEach [e] X.env = [(false, eval e X.env)] := by rfl) (hbase : attributeBase o "split" X.env (eval o X.env) = eval o X.env := by rfl) (hline : (apos.endLine == pos.line) = true := by rfl) :
    PE X (.Call (.Attribute o "split" apos) [e] [] pos) (tE Θ (mSplit mo me)) := peLe (pe_split ho he hs hbase hline) fun σ H Q h => (tM.bind (R := RepV) h).imp fun x H1 ⟨ρ1, s1, xi, r1, rx, o1⟩ => by
  cases xi with
  | str a =>
    cases rx
    refine ⟨⟨_, rfl⟩, ρ1, s1, r1, o1.bind.mono fun yi s2 q ρ2 H2 y st2 ry => ?_⟩
    obtain ⟨z, e, q⟩ := q.opt
    unfold splitV at e
    split at e
    · split at e
      · rename_i hz; cases e
        cases ry
        refine ⟨_, _, rfl, rfl, beq_eq_false_iff_ne.mpr hz.1, le_szl hz.2, fun p hp => ?_⟩
        obtain ⟨st3, n⟩ := st2.r.laid (o := .lst ((Txt.split a _).map V.str)) hp
        exact q ρ2 _ _ (st2.trans st3) (.fl (.inr ⟨_, upd_same, .inl rfl, n⟩) (rep_strs _))
      · cases e
    · cases e
  | _ => exact o1.elim
/-! ### x.extend(a new list), x own -/
def mIfL (t : M Bool) (a b : M (List IV)) : M (List IV) := mIfB t a b
theorem n_if {ta : M Bool} {ma mb : M (List IV)} (hc : PT X c (tT Θ ta)) (ha : PE X a (tNw Θ ma)) (hb : PE X b (tNw Θ mb)) : PE X (.IfExp c a b pos) (tNw Θ (mIfL ta ma mb)) := peLe (pe_ifExp hc ha hb) fun σ H Q ⟨ρ, s, r, o⟩ =>
  ⟨ρ, s, r, Out.mono (Out.bind o) fun k s1 q ρ1 H1 b' st e => show if b' = true then tNw Θ ma σ H1 Q else tNw Θ mb σ H1 Q by
    cases e
    cases k with
    | true => rw [if_pos rfl] at q ⊢; exact ⟨ρ1, s1, st.r, q.mono fun l s2 q2 ρ2 H0 p vs st2 hp rl => q2 ρ2 H0 p vs (st.trans st2) hp rl⟩
    | false => rw [if_neg Bool.false_ne_true] at q ⊢; exact ⟨ρ1, s1, st.r, q.mono fun l s2 q2 ρ2 H0 p vs st2 hp rl => q2 ρ2 H0 p vs (st.trans st2) hp rl⟩⟩
def mExt (i : Nat) (m : M (List IV)) : M Flw := fun s => match s.env[i]? with
  | some (.own _) => M.bind m (fun k s => match s.env[i]? with
    | some (.own l) => if l.length + k.length ≤ szl then .ok .nx (setE i (.own (l ++ k)) s) else .no
    | _ => .no) s
  | _ => .no
theorem upd_comm {H : Hp} {a b : Addr} {x y : HO} (h : a ≠ b) : upd (upd H a x) b y = upd (upd H b y) a x := by
  funext c
  by_cases h1 : c = b
  · subst h1; rw [upd_same, upd_ne (fun z => h z.symm), upd_same]
  · rw [upd_ne h1]
    by_cases h2 : c = a
    · subst h2; rw [upd_same, upd_same]
    · rw [upd_ne h2, upd_ne h2, upd_ne h1]
theorem s_ext {i : Nat} {ma : M (List IV)} (hN : X.N[i]? = some x) (hv : Vis X.env.scope x) (ha : PE X a (tNw Θ ma)) (hd : (x == ("__debug__" : Str)) = false := by decide)
    (hcd : (x == ("__classdict__" : Str)) = false := by decide) (hbase : attributeBase (.Name x p1) "extend" X.env (eval (.Name x p1) X.env) = eval (.Name x p1) X.env := by rfl)
    (hfew : ((backTo cpos (starEach [a] X.env)).all (fun x => !x.1) && (backToKw cpos (keywordEach [] X.env)).all (fun x => x.1.isSome)
      && decide (([a] : List Expr).length + ([] : List Keyword).length + (if ([] : List Keyword).isEmpty then 0 else 1) < 30)) = true := by rfl)
    (hline : (apos.endLine == cpos.line) = true := by rfl) (hs1 : starEach [a] X.env = (false, eval a X.env) :: starEach [] X.env := by rfl) (hplain : (backTo cpos (starEach [] X.env)).any (·.1) = false := by rfl)
    (hs : swapsWith (.Call (.Attribute (.Name x p1) "extend" apos) [a] [] cpos) none pos.line X.env = pure false := by rfl) :
    PS X (.Expr (.Call (.Attribute (.Name x p1) "extend" apos) [a] [] cpos) pos) (tS Θ (mExt i ma)) :=
  psLe (ps_expr (pe_bm PySem.F.plainAttrs_list PySem.F.slot_list_extend PySem.F.type_list_extend mt_extend (pe_var hN hv hd hcd) (pa_cons ha pa_nil hs1) hbase hfew hline hs1 hplain) hs) fun D σ H ⟨ρ, s, r, o⟩ => by
    unfold mExt at o
    split at o
    · rename_i l0 e0
      obtain ⟨p, vs0, h1, h2, h3⟩ := r.slot i _ e0
      refine ⟨_, h1, .inl ⟨rfl, _, SqL.of h2⟩, ρ, s, r, o.bind.mono fun k s1 q ρ1 H0 np us st hp rk => ?_⟩
      split at q
      · rename_i l e1
        obtain ⟨p', vs, k1, k2, k3⟩ := st.r.slot i _ e1
        rw [h1] at k1; cases k1
        split at q
        · rename_i hz
          have hne : p ≠ np := fun z => by rw [z] at k2; rw [show (vw Θ ρ1 s1.env σ H0).H np = none from hp] at k2; cases k2
          refine ⟨_, _, _, _, rfl, rfl, (upd_ne hne).trans k2, upd_same, by rw [k3.length, rk.length]; exact le_szl hz, ?_⟩
          have st2 := st.r.setOwn (p := p) (.inr ⟨h1, l, e1⟩) (k3.append rk)
          rw [set_same h1] at st2
          rw [upd_comm hne.symm]
          have st3 := (st2.r.laid (o := .lst us) (p := np) ((upd_ne hne.symm).trans hp)).1
          exact q ρ1 σ _ (st.trans (st2.trans st3))
        · exact q.elim
      · exact q.elim
    · exact o.elim
/-! ### tuples of the module -/
structure KTup (K : PySem.W.Frag) (a : Addr) (l : List IV) : Prop where
  at_ : ∃ xs, KT K a xs ∧ ∀ w, RepL w xs l
theorem e_gktup {l : List IV} {C : Addr} (hK : Θ.K = X.K) (T : KTup X.K C l) (hm : X.mg x = some (.ref C)) (hg : Gl X x) (hd : (x == ("__debug__" : Str)) = false := by decide) : PE X (.Name x p) (tE Θ (mC (.ktup l))) :=
  peLe (pe_glob hg hm (v := .ref C) rfl hd) fun σ H Q h => by
    obtain ⟨ρ, s, r, o⟩ := h
    obtain ⟨xs, h1, h2⟩ := T.at_
    exact o ρ H _ r.here (.ktup (by rw [show (vw Θ ρ s.env σ H).K = X.K from hK]; exact h1) (h2 _))
theorem ktup_of {l : List IV} {xs : List V} {C : Addr} {od : Option Addr} {its : Array Value} {n : Nat} {sl : Array (Option Value)} (h : K.lookup C = some ⟨.type "tuple", od, .seq its n, sl⟩) (hz : its.size ≤ 1000) (hv : Vals xs its.toList) (hr : ∀ w, RepL w xs l) : KTup K C l :=
  ⟨xs, ⟨_, its, n, h, rfl, rfl, Nat.le_trans hz (by rw [sizeLine_eq]; decide), hv⟩, hr⟩
def mItK (m : M IV) : M (List IV) := M.bind m fun x => match x with
  | .ktup l => M.pure l
  | _ => M.no
theorem itk_ok {w : Vw} {a : Addr} {xs : List V} {l : List IV} (h : KT w.K a xs) (r : RepL w xs l) : ItOk w (Itt w.K a) l := fun w' le tr => by
  have h' : SqT w'.K w'.H a xs := .inr (by rw [le.k]; exact h)
  have r' := r.mono le
  rw [le.k] at h'
  refine ⟨fun i x e => ?_, fun i hi => ⟨xs, h', by rw [r.length]; exact hi⟩⟩
  obtain ⟨v, e1, rv⟩ := r'.get e
  refine ⟨⟨xs, v, h', e1⟩, fun u H' y => ?_⟩
  obtain ⟨e2, y⟩ := y
  subst e2
  have := y xs h'
  rw [e1] at this; cases this
  exact ⟨fun _ _ q => q, rv⟩
theorem i_ktup {tg : Expr} (hK : Θ.K = X.K) (ha : PE X a (tE Θ ma)) : PI X tg a (tI Θ (mItK ma)) := piLe (pi_tup ha) fun σ H R ⟨ρ, s, r, o⟩ =>
  ⟨ρ, s, r, o.bind.mono fun x s1 q ρ1 H1 v st rv => by
    cases x with
    | ktup l =>
      cases rv with | ktup h1 l1 =>
      have e1 : X.K = (vw Θ ρ1 s1.env σ H1).K := hK.symm
      exact ⟨_, rfl, ⟨_, by rw [e1]; exact .inr h1⟩, by rw [e1]; exact q ρ1 H1 _ st (itk_ok h1 l1)⟩
    | _ => exact q.elim⟩
end
end Mi
set_option Elab.async false
set_option linter.all false
set_option maxRecDepth 100000
namespace Mi
open PySem L2 PyProof.Rows

variable {Θ : Fx} {ρ ρ' : List Addr} {s s' : S} {σ σ' : L2.St} {H H' : Hp} {X : Cx} {K : PySem.W.Frag}

/-! ### x == y by an own __eq__ -/
section
variable {CX : CXT} {E : XK} {k j n : Nat} {f C : Addr} {fd : FuncData} {ps : List Str} {sp : Sp} {fn : Fn} {a b : Expr} {ma mb : M IV} {pos : Pos} {st : Stmt} {qual : Str}
def rEqC (C : Addr) (sp : Sp) (E : XK) : R2 := fun x y H Q => ∃ a b dx dy fs gs, x = .ref a ∧ y = .ref b ∧ H a = some (.ins C dx fs) ∧ H b = some (.ins C dy gs) ∧ sp [x, y] H Q E
theorem op_eqC (F : FnOk X.prog X.w X.K X.mg X.base CX n f fd ps sp) (hs : PySem.W.findIn X.K (.ref C) "__eq__" = some (some (.ref f))) (hf : PySem.W.isFn X.K (.ref f) = true) (hb : L2.Binds X.K fd ps []) (hx : Passes CX X E) (hr : Room n X.A) :
    OpR X (compareOp .Eq) (rEqC C sp E) := by
  intro pins s σ H x y v u Q I rx ry d
  obtain ⟨a, b, dx, dy, fs, gs, rfl, rfl, ha, hb', hsp⟩ := d
  cases rx
  cases ry
  obtain ⟨mA, J, _⟩ := ins_get I.hok ha
  obtain ⟨mB, J', _⟩ := ins_get I.hok hb'
  obtain ⟨od, J, _⟩ := J.look
  obtain ⟨od', J', _⟩ := J'.look
  obtain ⟨m, hF⟩ := I.fr
  refine PySem.W.cmp_K (op := .Eq) (tb := .ref C) hr.units0 hF I.ok.mod.kin J J'.type (by simp [PySem.W.notFirst]) hs hf (wpAny_mono (run_fn (us := [.ref a, .ref b]) (vs := [.ref a, .ref b]) F hr hb .nil hx I (.cons rfl (.cons rfl .nil)) hsp) (fun r s' q => ?_) fun _ _ x => x)
  obtain ⟨z, H', I', rz, q⟩ := q
  cases r with
  | notImplemented => exfalso; cases z <;> simp [L2.RelV] at rz
  | _ => exact ⟨z, H', I', rz, q⟩
def mEqM (C : Addr) (fn : Fn) (ma mb : M IV) : M IV := M.bind ma fun x => M.bind mb fun y s => if isI C "__eq__" x s ∧ isI C "__eq__" y s then (match fn [x, y] s.sto with
  | .ok v μ => .ok v { s with sto := μ }
  | .ex c fs μ => .ex c fs { s with sto := μ }
  | .no => .no) else .no
theorem tE_eqM {Q : VK} (hK : Θ.K = K) (hE : Θ.EX = EXof K Θ.F Θ.w0 E) (h : tE Θ (mEqM C fn ma mb) σ H Q) : tOp (rEqC C (spF K fn) E) (tE Θ ma) (tE Θ mb) σ H Q :=
  (tM.bind (R := RepV) h).imp fun x H1 ⟨ρ1, s1, xi, r1, rx, o1⟩ => ⟨ρ1, s1, r1, o1.bind.mono fun yi s2 q ρ2 H2 y st2 ry => by
    split at q
    · rename_i hi
      obtain ⟨a, dx, fs, e1, e2, _⟩ := isI_rep st2.r (rx.mono st2.le) hi.1
      obtain ⟨b, dy, gs, e3, e4, _⟩ := isI_rep st2.r ry hi.2
      exact ⟨a, b, dx, dy, fs, gs, e1, e3, e2, e4, call_sp hK hE st2.r (.cons (rx.mono st2.le) (.cons ry .nil)) (q.mono fun z s3 q2 ρ3 H3 u st3 ru => q2 ρ3 H3 u (st2.trans st3) ru)⟩
    · exact q.elim⟩
theorem c_eqM (B : MtB X.K "__eq__" st qual ps C f fd) (G : FnOk X.prog X.w X.K X.mg X.base CX0 k f fd ps (spF X.K fn)) (hr : Room j X.A) (hjk : k ≤ j) (hK : Θ.K = X.K) (hE : Θ.EX = EXof X.K Θ.F Θ.w0 E) (ha : PE X a (tE Θ ma)) (hb : PE X b (tE Θ mb)) (hm : behindInMarks .Eq b = false) :
    PE X (.Compare a [.Eq] [b] pos) (tE Θ (mEqM C fn ma mb)) := peLe (pe_cmpR (op_eqC (E := E) G B.mt.at_ B.mt.fn B.b (fun _ _ _ _ _ _ _ h => h.elim) (hr.mono hjk)) ha hb hm) fun _ _ _ h => tE_eqM hK hE h
theorem c_teqM (B : MtB X.K "__eq__" st qual ps C f fd) (G : FnOk X.prog X.w X.K X.mg X.base CX0 k f fd ps (spF X.K fn)) (hr : Room j X.A) (hjk : k ≤ j) (hK : Θ.K = X.K) (hE : Θ.EX = EXof X.K Θ.F Θ.w0 E) (ha : PE X a (tE Θ ma)) (hb : PE X b (tE Θ mb)) (hm : behindInMarks .Eq b = false) :
    PT X (.Compare a [.Eq] [b] pos) (tT Θ (mTst (mEqM C fn ma mb))) := ptLe (pt_cmpR (op_eqC (E := E) G B.mt.at_ B.mt.fn B.b (fun _ _ _ _ _ _ _ h => h.elim) (hr.mono hjk)) ha hb hm) fun _ _ _ h => tst_of h fun _ z => tE_eqM hK hE z
end
/-! ### f(k = e, ..), the names in their order -/
section
variable {CX : CXT} {E : XK} {k j n : Nat} {f C : Addr} {fd : FuncData} {ps ks : List Str} {sp : Sp} {fn : Fn} {e : Expr} {me : M IV} {mr : M (List IV)} {pos p kpos : Pos} {st : Stmt} {x : Str} {kws : List Keyword} {nm : Option Str} {t tk : TA} {g : List Value → List Value → List Value} {gV : List V → List V → List V}
theorem k_nil : PK X [] (tA Θ mNil) := ⟨fun pos pins s σ H Q I h => pk_nil.run pos pins s σ H Q I (by
  obtain ⟨ρ, s, r, o⟩ := h
  exact o ρ H [] r.here .nil)⟩
theorem k_cons (ha : PE X e (tE Θ me)) (hr : PK X kws (tA Θ mr)) : PK X (⟨nm, e, kpos⟩ :: kws) (tA Θ (mCons me mr)) := ⟨fun pos pins s σ H Q I h => (pk_cons ha hr).run pos pins s σ H Q I
  ((tM.bind (R := RepV) h).imp fun x H1 ⟨ρ1, s1, xi, r1, rx, o1⟩ => ⟨ρ1, s1, r1, o1.bind.mono fun l s2 q ρ2 H2 vs st2 rl => q ρ2 H2 (x :: vs) st2 (.cons (rx.mono st2.le) rl)⟩)⟩
theorem pe_kw0 (F : FnOk X.prog X.w X.K X.mg X.base CX k f fd ps sp) (hr : Room k X.A) (hg : Gl X x) (hm : X.mg x = some (.ref f)) (hk : PySem.W.keepIn X.K (.ref f) = true) (hb : KBn X.K fd ps 0 ks g gV) (hx : Passes CX X E) (hkw : PK X kws tk)
    (hall : (backToKw pos (keywordEach kws X.env)).all (·.1.isSome) = true := by rfl) (hks : (backToKw pos (keywordEach kws X.env)).filterMap (·.1) = ks := by rfl) (hdb : (x == ("__debug__" : Str)) = false := by decide)
    (hpl : ((backTo pos (starEach [] X.env)).any (·.1) || (backToKw pos (keywordEach kws X.env)).any (·.1.isNone)) = false := by rfl) : PE X (.Call (.Name x p) [] kws pos) (tCallN 0 ks.length sp gV E tNil tk) := by
  refine ⟨fun pins s σ H Q I h => wpAny_Call_Name_kw (ld_glob I hg hm ?_ hdb)⟩
  refine PySem.W.callWith_KW0 (h₀ := X.base) I.ok.mod.kin hk hall (thn (hkw.run pos pins s σ H _ I h) fun ws s2 ⟨zs, H2, I2, rz, l1, l2, q2⟩ => ⟨I2.kIn, ?_⟩) hpl
  rw [hks]
  exact run_fnN (us := []) (vs := []) F hr hb hx I2 .nil rz rfl l2 q2
theorem c_kw (B : FnB X.K X.mg x st ps f fd) (G : FnOk X.prog X.w X.K X.mg X.base CX0 k f fd ps (spF X.K fn)) (hr : Room j X.A) (hjk : k ≤ j) (hg : Gl X x) (hK : Θ.K = X.K) (hE : Θ.EX = EXof X.K Θ.F Θ.w0 E) (hkw : PK X kws (tA Θ mr))
    (hbi : ∀ (kV doc pm : Value) (an : Option Addr) (cdv ct : Value) (ws : List Value), ws.length = ps.length → bindArgs (PySem.W.fnOf x x (defArgs st) (defBody st) (defScope st) .none kV doc pm an cdv ct) ⟨[], ps.zip ws⟩ = pure (ps.zip ws)) (hn : ∀ s l s', mr s = .ok l s' → l.length = ps.length)
    (hall : (backToKw pos (keywordEach kws X.env)).all (·.1.isSome) = true := by rfl) (hks : (backToKw pos (keywordEach kws X.env)).filterMap (·.1) = ps := by rfl) (hdb : (x == ("__debug__" : Str)) = false := by decide)
    (hpl : ((backTo pos (starEach [] X.env)).any (·.1) || (backToKw pos (keywordEach kws X.env)).any (·.1.isNone)) = false := by rfl) : PE X (.Call (.Name x p) [] kws pos) (tE Θ (mCall fn mr)) := by
  have hb : KBn X.K fd ps 0 ps (fun _ ws => ws) (fun _ zs => zs) := by
    obtain ⟨oc, od, kV, doc, pm, an, cdv, ct, osl, rfl, lk, hcd⟩ := B.F.ex
    exact ⟨fun s us ws _ hu hw => by
      cases us with
      | nil => exact .of_eq (hbi kV doc pm an cdv ct ws hw)
      | cons _ _ => simp at hu, fun _ r => r⟩
  refine peLe (pe_kw0 (E := E) G (hr.mono hjk) hg B.g B.F.kp hb (fun _ _ _ _ _ _ _ h => h.elim) hkw hall hks hdb hpl) fun σ H Q h => ?_
  obtain ⟨ρ, s, r, o⟩ := h
  refine ⟨ρ, s, r, ?_⟩
  unfold mCall M.bind at o
  cases em : mr s with
  | no => rw [em] at o; exact o.elim
  | ex c fs s' => rw [em] at o; exact o
  | ok l s1 =>
    rw [em] at o
    have hl := hn _ _ _ em
    intro ρ1 H1 vs st rl
    exact ⟨rfl, by rw [rl.length]; exact hl, call_sp hK hE st.r rl (Out.mono o fun z s3 q2 ρ3 H3 u st3 ru => q2 ρ3 H3 u (st.trans st3) ru)⟩
theorem len_nil : ∀ s l s', mNil s = .ok l s' → l.length = 0 := fun s l s' h => by cases h; rfl
theorem len_cons {n : Nat} (h : ∀ s l s', mr s = .ok l s' → l.length = n) : ∀ s l s', mCons me mr s = .ok l s' → l.length = n + 1 := fun s l s' q => by
  unfold mCons M.bind at q
  cases e1 : me s with
  | no => rw [e1] at q; cases q
  | ex c fs s' => rw [e1] at q; cases q
  | ok v s1 =>
    rw [e1] at q
    dsimp only at q
    cases e2 : mr s1 with
    | no => rw [e2] at q; cases q
    | ex c fs s' => rw [e2] at q; cases q
    | ok r s2 => rw [e2] at q; cases q; simp [h _ _ _ e2]
end
/-! ### {k: e, l: f}.get(x, d) -/
theorem asideH (r : StR Θ ρ s σ H) {p : Addr} {ho : HO} (hp : H p = none) : ∃ w0, StR (plusF Θ p w0) ρ s σ (upd H p ho) ∧ (vw Θ ρ s.env σ H).Le (vw (plusF Θ p w0) ρ s.env σ (upd H p ho)) ∧
    ∀ {ρ2 s2 σ2 H2}, StR (plusF Θ p w0) ρ2 s2 σ2 H2 → H2 p = some ho ∧ StR Θ ρ2 s2 σ2 (erase H2 p) ∧ (vw (plusF Θ p w0) ρ2 s2.env σ2 H2).Le (vw Θ ρ2 s2.env σ2 (erase H2 p)) := by
  have ne : ∀ a o, H a = some o → a ≠ p := fun a o e z => by subst z; rw [hp] at e; cases e
  have hD : ∀ a, Θ.F a → a ≠ p := fun a f z => by
    obtain ⟨⟨o, e⟩, _⟩ := r.fo a f
    rw [z, hp] at e; cases e
  have nL : ∀ a, (a ∈ ρ ∨ (Ow σ s.env a ∨ Θ.F a)) → a ≠ p := fun a h => let ⟨o, e⟩ := r.tracked h; ne a o e
  let w0 : Vw := ⟨Θ.K, upd H p ho, fun a => a ∈ ρ ∨ (Ow σ s.env a ∨ (Θ.F a ∨ a = p)), ρ⟩
  have le : (vw Θ ρ s.env σ H).Le (vw (plusF Θ p w0) ρ s.env σ (upd H p ho)) := ⟨rfl, fun _ _ e => e, fun a o e n =>
    ⟨(upd_ne (ne a o e)).trans e, fun q => q.elim (fun q => n (.inl q)) fun q => q.elim (fun q => n (.inr (.inl q))) fun q => q.elim (fun q => n (.inr (.inr q))) fun q => ne a o e q⟩⟩
  have r1 : StR (plusF Θ p w0) ρ s σ (upd H p ho) := by
    refine ⟨r.len, r.slen, fun i x e => ?_, fun i a o e1 e2 => (r.obj i a o e1 e2).mono le (upd_ne (nL a (.inl (List.mem_of_getElem? e1)))), r.nd, r.sep, r.one, fun a f => ?_, .refl _, fun a o _ q => q, r.self⟩
    · have q := r.slot i x e
      cases x with
      | emp => trivial
      | val v => obtain ⟨u, h1, h2⟩ := q; exact ⟨u, h1, h2.mono le⟩
      | own l => obtain ⟨a, us, h1, h2, h3⟩ := q; exact ⟨a, us, h1, (upd_ne (nL a (.inr (.inl ⟨i, h1, .inl ⟨l, e⟩⟩)))).trans h2, h3.mono le⟩
      | ins c fs => obtain ⟨a, dx, gs, h1, h2, h3⟩ := q; exact ⟨a, dx, gs, h1, (upd_ne (nL a (.inr (.inl ⟨i, h1, .inr ⟨c, fs, e⟩⟩)))).trans h2, h3.mono le⟩
    · rcases f with f | rfl
      · obtain ⟨⟨o, e⟩, h2⟩ := r.fo a f
        exact ⟨⟨o, (upd_ne (ne a o e)).trans e⟩, h2⟩
      · exact ⟨⟨_, upd_same⟩, fun q => nL _ (.inl q) rfl, fun q => nL _ (.inr (.inl q)) rfl⟩
  refine ⟨w0, r1, le, fun {ρ2 s2 σ2 H2} r2 => ?_⟩
  exact ⟨r2.fkeep p _ (.inr rfl) upd_same, r2.minus (r.base.trans le) (fun a o f e => (upd_ne (hD a f)).trans (r.fkeep a o f e)) hD⟩
def mMenu (k1 k2 : Str) (m1 m2 mk md : M IV) : M IV := M.bind (nox (M.bind m1 fun x => M.bind m2 fun y => M.pure [x, y])) fun xy => M.bind mk fun k => M.bind md fun d => match xy, k with
  | [x, y], .str z => M.pure (if z = k1 then x else if z = k2 then y else d)
  | _, _ => M.no
section
variable {a b c e o : Expr} {m1 m2 mk md : M IV} {pos p p1 p2 apos cpos : Pos} {k1 k2 : Str} {jk1 jk2 : Option Str} {e1 e2 ek ed : Expr}
theorem e_menu {kk1 kk2 : Expr} (hK : Θ.K = X.K) (hu : X.A.units + 1 < cLine) (hne : k1 ≠ k2) (hk1 : PE X kk1 (tC (.str k1))) (hk2 : PE X kk2 (tC (.str k2))) (h1 : ∀ Θ', Sub X.K Θ' → PE X e1 (tE Θ' m1)) (h2 : ∀ Θ', Sub X.K Θ' → PE X e2 (tE Θ' m2)) (hk : PE X ek (tE Θ mk)) (hd : PE X ed (tE Θ md))
    (m : M2 X (.Dict [some kk1, some kk2] [e1, e2] pos) "get" apos ek ed cpos) :
    PE X (.Call (.Attribute (.Dict [some kk1, some kk2] [e1, e2] pos) "get" apos) [ek, ed] [] cpos) (tE Θ (mMenu k1 k2 m1 m2 mk md)) := by
  rw [← hK] at h1 h2
  refine peLe (pe_dget2 hu (pe_disp (pps_cons hk1 (pe_ex h1) (pps_cons hk2 (pe_ex h2) pps_nil)) rfl rfl (by simp) (show 2 ≤ 15 by decide)) hk hd m) fun σ H Q ⟨ρ, s, r, o⟩ => ?_
  intro p hp
  obtain ⟨w0, rP, leP, back⟩ := asideH r (ho := .dK []) hp
  have o := o.bind
  refine ⟨plusF Θ p w0, ⟨rfl, rfl⟩, ρ, s, rP, o.nox.bind.mono fun x s1 q1 ρ1 H1 v1 st1 rx => ?_⟩
  refine ⟨plusF Θ p w0, ⟨rfl, rfl⟩, ρ1, s1, st1.r, q1.bind.mono fun y s2 q2 ρ2 H2 v2 st2 ry => ?_⟩
  obtain ⟨hat, r3, le3⟩ := back st2.r
  refine ⟨hat, [(.inr k1, v1), (.inr k2, v2)], rfl, (show 2 ≤ 15 by decide), p, rfl, .inl ⟨_, .inl upd_same⟩, ?_⟩
  have em : mergeK [] [((.inr k1 : Key), v1), (.inr k2, v2)] = [(.inr k1, v1), (.inr k2, v2)] := by
    simp [mergeK, putK, hne]
  rw [em]
  have leT : (vw Θ ρ s.env σ H).Le (vw Θ ρ2 s2.env σ (erase H2 p)) := leP.trans (st1.le.trans (st2.le.trans le3))
  obtain ⟨st4, n4⟩ := r3.laid (o := .dK [((.inr k1 : Key), v1), (.inr k2, v2)]) (p := p) erase_at
  have e5 : upd (erase H2 p) p (.dK [((.inr k1 : Key), v1), (.inr k2, v2)]) = upd H2 p (.dK [((.inr k1 : Key), v1), (.inr k2, v2)]) := by
    funext c
    by_cases hc : c = p
    · subst hc; rw [upd_same, upd_same]
    · rw [upd_ne hc, upd_ne hc, erase_ne hc]
  rw [e5] at st4 n4
  have stT : Stp Θ ρ s σ H ρ2 s2 σ (upd H2 p (.dK [((.inr k1 : Key), v1), (.inr k2, v2)])) := ⟨st4.r, leT.trans st4.le⟩
  have rx' := ((rx.mono st2.le).mono le3).mono st4.le
  have ry' := (ry.mono le3).mono st4.le
  have q2 : Out Θ (M.bind mk (fun k => M.bind md fun d => match [x, y], k with
    | [x, y], .str z => M.pure (if z = k1 then x else if z = k2 then y else d)
    | _, _ => M.no) s2) _ := q2
  refine ⟨ρ2, s2, st4.r, q2.bind.mono fun k s5 q5 ρ5 H5 kv st5 rk => ⟨ρ5, s5, st5.r, q5.bind.mono fun d s6 q6 ρ6 H6 dv st6 rd => ?_⟩⟩
  cases k with
  | str z =>
    cases rk
    have le6 := st5.le.trans st6.le
    obtain ⟨k6, _⟩ := le6.keep p _ upd_same n4
    refine ⟨_, DGet.k (k := .inr z) k6, ?_⟩
    have q6 : ∀ (ρ' : List Addr) (H' : Hp) (b : V), Stp Θ ρ s σ H ρ' s6 σ H' → RepV (vw Θ ρ' s6.env σ H') b (if z = k1 then x else if z = k2 then y else d) → Q b H' := q6
    by_cases hz1 : z = k1
    · subst hz1
      rw [if_pos rfl] at q6
      exact q6 ρ6 H6 _ (stT.trans (st5.trans st6)) (by simpa [valV] using rx'.mono le6)
    · by_cases hz2 : z = k2
      · subst hz2
        rw [if_neg hz1, if_pos rfl] at q6
        exact q6 ρ6 H6 _ (stT.trans (st5.trans st6)) (by
          rw [show valV [((.inr k1 : Key), v1), (.inr z, v2)] (.inr z) = some v2 from (valV_neg fun q => hz1 (Sum.inr.inj q).symm).trans (valV_pos rfl)]
          exact ry'.mono le6)
      · rw [if_neg hz1, if_neg hz2] at q6
        exact q6 ρ6 H6 _ (stT.trans (st5.trans st6)) (by
          rw [show valV [((.inr k1 : Key), v1), (.inr k2, v2)] (.inr z) = none from (valV_neg fun q => hz1 (Sum.inr.inj q).symm).trans ((valV_neg fun q => hz2 (Sum.inr.inj q).symm).trans rfl)]
          exact rd)
  | _ => exact q6.elim
end
end Mi
set_option Elab.async false
set_option linter.all false
set_option maxRecDepth 100000
namespace Mi
open PySem L2

/-! ### running mirrors: W m s Q, m ends well at s and Q holds of what it tells -/
def W {α : Type} (m : M α) (s : S) (Q : α → S → Prop) : Prop := match m s with
  | .ok a s' => Q a s'
  | _ => False
def WF (r : RF) (Q : IV → List SO → Prop) : Prop := match r with
  | .ok v μ => Q v μ
  | _ => False
def WI (r : RI) (Q : List (Str × IV) → List SO → Prop) : Prop := match r with
  | .ok v μ => Q v μ
  | _ => False
section
variable {α β : Type} {m : M α} {k : α → M β} {s : S} {Q : α → S → Prop} {R : β → S → Prop}
theorem W.mono {Q' : α → S → Prop} (h : W m s Q) (f : ∀ a s', Q a s' → Q' a s') : W m s Q' := by
  unfold W at *
  cases e : m s with
  | ok a s' => rw [e] at h; exact f _ _ h
  | ex c fs s' => rw [e] at h; exact h.elim
  | no => rw [e] at h; exact h.elim
theorem W.run (h : W m s Q) : ∃ a s', m s = .ok a s' ∧ Q a s' := by
  unfold W at h
  cases e : m s with
  | ok a s' => rw [e] at h; exact ⟨a, s', rfl, h⟩
  | ex c fs s' => rw [e] at h; exact h.elim
  | no => rw [e] at h; exact h.elim
theorem WF.run {r : RF} {Q : IV → List SO → Prop} (h : WF r Q) : ∃ v μ, r = .ok v μ ∧ Q v μ := by
  cases r with
  | ok v μ => exact ⟨v, μ, rfl, h⟩
  | ex c fs μ => exact h.elim
  | no => exact h.elim
theorem W_of {a : α} {s' : S} (e : m s = .ok a s') : W m s Q = Q a s' := by unfold W; rw [e]
theorem W_bind : W (M.bind m k) s R = W m s fun a s' => W (k a) s' R := by
  unfold W M.bind
  cases m s <;> rfl
theorem W_pure {a : α} : W (M.pure a) s Q = Q a s := rfl
theorem W_no : W (M.no : M α) s Q = False := rfl
theorem W_some {a : α} : W (M.opt (some a)) s Q = Q a s := rfl
theorem W_none : W (M.opt (none : Option α)) s Q = False := rfl
theorem W_nox : W (nox m) s Q = W m s Q := by
  unfold W nox
  cases m s <;> rfl
end
section
variable {s : S} {Q : IV → S → Prop} {R : Flw → S → Prop} {B : Bool → S → Prop} {L : List IV → S → Prop} {U : Unit → S → Prop}
theorem W_op {f a b} : W (mOp f a b) s Q = W a s fun x s1 => W b s1 fun y s2 => W (M.opt (f x y)) s2 Q := by unfold mOp; rw [W_bind]; simp only [W_bind]
theorem W_un {f a} : W (mUn f a) s Q = W a s fun x s1 => W (M.opt (f x)) s1 Q := by unfold mUn; rw [W_bind]
theorem W_C {v} : W (mC v) s Q = Q v s := rfl
theorem W_var {i : Nat} {x : IV} (h : s.env[i]? = some (.val x)) : W (mVar i) s Q = Q x s := by unfold W mVar; rw [h]
theorem W_tst {m} : W (mTst m) s B = W m s fun v s1 => W (boolOf v) s1 B := by unfold mTst; rw [W_bind]
theorem W_bool {b : Bool} : W (boolOf (.bl b)) s B = B b s := rfl
theorem W_ifB {α : Type} {t} {a b : M α} {Q : α → S → Prop} : W (mIfB t a b) s Q = W t s fun c s1 => if c = true then W a s1 Q else W b s1 Q := by
  unfold mIfB; rw [W_bind]; congr; funext c s1; split <;> rfl
theorem W_notT {t} : W (mNotT t) s B = W t s fun c s1 => B (!c) s1 := by unfold mNotT; rw [W_bind]; rfl
theorem W_andT {t u} : W (mAndT t u) s B = W t s fun c s1 => if c = true then W u s1 B else B false s1 := by unfold mAndT; rw [W_ifB]; rfl
theorem W_orT {t u} : W (mOrT t u) s B = W t s fun c s1 => if c = true then B true s1 else W u s1 B := by unfold mOrT; rw [W_ifB]; rfl
theorem W_ifE {t a b} : W (mIfE t a b) s Q = W t s fun c s1 => if c = true then W a s1 Q else W b s1 Q := W_ifB
theorem W_andV {a b} : W (mAndV a b) s Q = W (mTst a) s fun c s1 => if c = true then W b s1 Q else Q (.bl false) s1 := by
  unfold mAndV; rw [W_bind]; congr; funext c s1; split <;> rfl
theorem W_orV {a b} : W (mOrV a b) s Q = W (mTst a) s fun c s1 => if c = true then Q (.bl true) s1 else W b s1 Q := by
  unfold mOrV; rw [W_bind]; congr; funext c s1; split <;> rfl
theorem W_notV {a} : W (mNotV a) s Q = W (mTst a) s fun c s1 => Q (.bl (!c)) s1 := by unfold mNotV; rw [W_bind]; rfl
theorem W_chain {f g a b c} : W (mChain f g a b c) s Q = W a s fun x s1 => W b s1 fun y s2 => W (M.opt (f x y)) s2 fun z s3 => match z with
    | .bl v => if v = true then W c s3 fun u s4 => W (M.opt (g y u)) s4 Q else Q (.bl false) s3
    | _ => False := by
  unfold mChain; simp only [W_bind]; congr; funext x s1; congr; funext y s2; congr; funext z s3
  cases z <;> first | rfl | (rename_i b; cases b <;> first | rfl | exact W_bind)
theorem W_nil : W mNil s L = L [] s := rfl
theorem W_cons {a r} : W (mCons a r) s L = W a s fun x s1 => W r s1 fun l s2 => L (x :: l) s2 := by unfold mCons; simp only [W_bind]; rfl
theorem W_ap {f m} : W (mAp f m) s Q = W m s fun l s1 => W (M.opt (f l)) s1 Q := by unfold mAp; rw [W_bind]
theorem W_apL {f m} : W (mApL f m) s L = W m s fun l s1 => W (M.opt (f l)) s1 L := by unfold mApL; rw [W_bind]
theorem W_fl {m} : W (mFl m) s Q = W m s fun l s1 => Q (.fl l) s1 := by unfold mFl; rw [W_bind]; rfl
theorem W_nx : W mNx s R = R .nx s := rfl
theorem W_brk : W mBrk s R = R .bk s := rfl
theorem W_cnt : W mCnt s R = R .ct s := rfl
theorem W_seq {a b} : W (mSeq a b) s R = W a s fun f s1 => match f with
    | .nx => W b s1 R
    | f => R f s1 := by
  unfold mSeq; rw [W_bind]; congr; funext f s1; cases f <;> rfl
theorem W_set {i m} : W (mSet i m) s R = W m s fun v s1 => R .nx (setE i (.val v) s1) := by unfold mSet; rw [W_bind]; rfl
theorem W_own {i m} : W (mOwn i m) s R = W m s fun l s1 => R .nx (setE i (.own l) s1) := by unfold mOwn; rw [W_bind]; rfl
theorem W_ret {m} : W (mRet m) s R = W m s fun v s1 => R (.rt v) s1 := by unfold mRet; rw [W_bind]; rfl
theorem W_retN : W mRetN s R = R (.rt .non) s := rfl
theorem W_drop {m} : W (mDrop m) s R = W m s fun _ s1 => R .nx s1 := by unfold mDrop; rw [W_bind]; rfl
theorem W_if {t a b} : W (mIf t a b) s R = W t s fun c s1 => if c = true then W a s1 R else W b s1 R := W_ifB
theorem W_call {fn m} : W (mCall fn m) s Q = W m s fun xs s1 => WF (fn xs s1.sto) fun v μ => Q v { s1 with sto := μ } := by
  unfold mCall; rw [W_bind]; congr; funext xs s1
  unfold W WF
  dsimp only
  cases fn xs s1.sto <;> rfl
theorem W_make {C fn m} : W (mMake C fn m) s Q = W m s fun xs s1 => WI (fn xs s1.sto) fun fs μ => Q (.obj C fs) { s1 with sto := μ } := by
  unfold mMake; rw [W_bind]; congr; funext xs s1
  unfold W WI
  dsimp only
  cases fn xs s1.sto <;> rfl
theorem W_fld {C f m} : W (mFld C f m) s Q = W m s fun x s1 => match fldOf C f x s1 with
    | some v => Q v s1
    | none => False := by
  unfold mFld; rw [W_bind]; congr; funext x s1
  unfold W
  dsimp only
  cases fldOf C f x s1 <;> rfl
theorem W_ix {a b} : W (mIx a b) s Q = W a s fun x s1 => W b s1 fun y s2 => match ixS s2.sto x y with
    | some z => Q z s2
    | none => False := by
  unfold mIx; simp only [W_bind]; congr; funext x s1; congr; funext y s2
  unfold W
  dsimp only
  cases ixS s2.sto x y <;> rfl
theorem W_part {m} {O : Option Int → S → Prop} : W (mPart m) s O = W m s fun x s1 => match x with
    | .int i => O (some i) s1
    | _ => False := by
  unfold mPart; rw [W_bind]; congr; funext x s1; cases x <;> rfl
theorem W_noPart {O : Option Int → S → Prop} : W mNoPart s O = O none s := rfl
theorem W_sl {m l h} : W (mSl m l h) s Q = W m s fun x s1 => W l s1 fun i s2 => W h s2 fun j s3 => W (M.opt (slV x i j)) s3 Q := by unfold mSl; simp only [W_bind]
theorem W_itL {m} : W (mItL m) s L = W m s fun x s1 => match x with
    | .fl l => L l s1
    | _ => False := by
  unfold mItL; rw [W_bind]; congr; funext x s1; cases x <;> rfl
theorem W_itT {m} : W (mItT m) s L = W m s fun x s1 => match x with
    | .tup l => L l s1
    | _ => False := by
  unfold mItT; rw [W_bind]; congr; funext x s1; cases x <;> rfl
theorem W_itS {m} : W (mItS m) s L = W m s fun x s1 => match x with
    | .str z => L (sgnL z) s1
    | _ => False := by
  unfold mItS; rw [W_bind]; congr; funext x s1; cases x <;> rfl
theorem W_for {mi g b} : W (mFor mi g b) s R = W mi s fun l s1 => W (forL g b l) s1 R := by unfold mFor; rw [W_bind]
theorem W_forNil {g b} : W (forL g b []) s R = R .nx s := rfl
theorem W_forCons {g b x l} : W (forL g b (x :: l)) s R = W (g x) s fun _ s1 => W b s1 fun f s2 => match f with
    | .nx => W (forL g b l) s2 R
    | .ct => W (forL g b l) s2 R
    | .bk => R .nx s2
    | .rt v => R (.rt v) s2 := by
  rw [forL.eq_2]; simp only [W_bind]; congr; funext _ s1; congr; funext f s2; cases f <;> rfl
theorem W_while {n t b} : W (mWhile n t b) s R = W (whileL t b n) s R := rfl
theorem W_whileS {n t b} : W (whileL t b (n + 1)) s R = W t s fun c s1 => if c = true then W b s1 fun f s2 => (match f with
    | .nx => W (whileL t b n) s2 R
    | .ct => W (whileL t b n) s2 R
    | .bk => R .nx s2
    | .rt v => R (.rt v) s2) else R .nx s1 := by
  rw [whileL.eq_2, W_bind]; congr; funext c s1
  by_cases h : c = true
  · rw [if_pos h, if_pos h, W_bind]; congr; funext f s2; cases f <;> rfl
  · rw [if_neg h, if_neg h]; rfl
theorem W_gset {i x} : W (gSet i x) s U = U () (setE i (.val x) s) := rfl
theorem W_gtup {n g l} (h : l.length = n) : W (gTp n g (.tup l)) s U = W (g l) s U := by unfold gTp; simp only [if_pos h]
theorem W_gcons {g h x l} : W (gCs g h (x :: l)) s U = W (g x) s fun _ s1 => W (h l) s1 U := by unfold gCs; rw [W_bind]
theorem W_gnil : W (gNl []) s U = U () s := rfl
theorem W_par2 {i j m} : W (mPar2 i j m) s R = W m s fun l s1 => match l with
    | [x, y] => R .nx (setE j (.val y) (setE i (.val x) s1))
    | _ => False := by
  unfold mPar2; rw [W_bind]; congr; funext l s1
  unfold W
  rcases l with _ | ⟨x, _ | ⟨y, _ | ⟨z, r⟩⟩⟩ <;> rfl
theorem W_fz {α : Type} {i : Nat} {m : M α} {Q : α → S → Prop} {l : List IV} (h : s.env[i]? = some (.own l)) : W (mFz i m) s Q = W m (setE i (.val (.fl l)) s) Q := by unfold W mFz; rw [h]
theorem W_rf {m} : W (mRf m) s Q = W m s fun l s1 => Q (.ref s1.sto.length) { s1 with sto := s1.sto ++ [.lst l] } := by unfold mRf; rw [W_bind]; rfl
theorem W_app {i : Nat} {m} {l : List IV} (h : s.env[i]? = some (.own l)) (hm : W m s fun v s1 => ∃ l1, s1.env[i]? = some (.own l1) ∧ l1.length < szl ∧ R .nx (setE i (.own (l1 ++ [v])) s1)) : W (mApp i m) s R := by
  obtain ⟨v, s1, e, l1, h1, h2, q⟩ := hm.run
  unfold W mApp
  simp only [h, M.bind, e, h1, if_pos h2]
  exact q
theorem W_ownIx {i : Nat} {m} {l : List IV} (h : s.env[i]? = some (.own l)) (hm : W m s fun y s1 => ∃ l1 k z, y = .int k ∧ s1.env[i]? = some (.own l1) ∧ atI l1 k = some z ∧ Q z s1) : W (mOwnIx i m) s Q := by
  obtain ⟨y, s1, e, l1, k, z, rfl, h1, h2, q⟩ := hm.run
  unfold W mOwnIx
  simp only [h, M.bind, e, h1, h2]
  exact q
theorem W_setIx {mv mo mi} : W (mSetIx mv mo mi) s R = W mv s fun v s1 => W mo s1 fun o s2 => W mi s2 fun i s3 => match o, i with
    | .ref j, .int k => match s3.sto[j]? with
      | some (.lst l) => match ixN l.length k with
        | some n => R .nx { s3 with sto := s3.sto.set j (.lst (l.set n v)) }
        | none => False
      | _ => False
    | _, _ => False := by
  unfold mSetIx; simp only [W_bind]; congr; funext v s1; congr; funext o s2; congr; funext i s3
  unfold W
  cases o with
  | ref j => cases i with
    | int k =>
      dsimp only
      cases s3.sto[j]? with
      | none => rfl
      | some x => cases x with
        | lst l => dsimp only; cases ixN l.length k <;> rfl
        | ins c fs => rfl
        | dk _ => rfl
        | dt _ => rfl
    | _ => rfl
  | _ => rfl
theorem WF_run {n : Nat} {m : M Flw} {xs : List IV} {μ : List SO} {Q : IV → List SO → Prop} : WF (runF n m xs μ) Q = W m ⟨xs.map .val ++ List.replicate (n - xs.length) .emp, μ⟩ fun f s => match f with
    | .rt v => Q v s.sto
    | .nx => Q .non s.sto
    | _ => False := by
  unfold runF WF W
  cases e : m ⟨xs.map .val ++ List.replicate (n - xs.length) .emp, μ⟩ with
  | ok f s => cases f <;> rfl
  | ex c fs s => rfl
  | no => rfl
theorem WF_ar {n : Nat} {fn : Fn} {xs : List IV} {μ : List SO} {Q : IV → List SO → Prop} (h : xs.length = n) : WF (ar n fn xs μ) Q = WF (fn xs μ) Q := by unfold ar; rw [if_pos h]
theorem WF_ok {v : IV} {μ : List SO} {Q : IV → List SO → Prop} : WF (.ok v μ) Q = Q v μ := rfl
theorem WF_of {r : RF} {v : IV} {μ : List SO} {Q : IV → List SO → Prop} (e : r = .ok v μ) (h : Q v μ) : WF r Q := by rw [e]; exact h
/-- a comprehension whose parts change nothing but its own variable -/
theorem W_comp {ws : List Nat} {mi g t e} {l : List IV} {s1 : S} {ys : List IV} (hi : mi s = .ok l s1)
    (hc : W (compL ws g t e l []) { s1 with env := wipeE ws s1.env } L) : W (mComp ws mi g t e) s L := by
  unfold mComp
  rw [W_bind, W_of hi, W_bind]
  exact hc
end
end Mi
set_option Elab.async false
set_option linter.all false
set_option maxRecDepth 100000
namespace Mi
open PySem L2
abbrev nI (n : Nat) : IV := .int (n : Int)
theorem of_WF {r : RF} {x : IV} {μ : List SO} (h : WF r fun v μ' => v = x ∧ μ' = μ) : r = .ok x μ := by
  obtain ⟨v, μ', e, rfl, rfl⟩ := h.run
  exact e
theorem of_W {α : Type} {m : M α} {s : S} {x : α} {s' : S} (h : W m s fun v s1 => v = x ∧ s1 = s') : m s = .ok x s' := by
  obtain ⟨v, μ', e, rfl, rfl⟩ := h.run
  exact e
theorem W_opt {α : Type} {o : Option α} {s : S} {Q : α → S → Prop} : W (M.opt o) s Q = match o with
    | some a => Q a s
    | none => False := by cases o <;> rfl
theorem W_varM {i : Nat} {s : S} {Q : IV → S → Prop} : W (mVar i) s Q = match s.env[i]? with
    | some (.val x) => Q x s
    | _ => False := by
  unfold W mVar
  cases s.env[i]? with
  | none => rfl
  | some x => cases x <;> rfl
theorem W_boolM {v : IV} {s : S} {Q : Bool → S → Prop} : W (boolOf v) s Q = match v with
    | .bl b => Q b s
    | _ => False := by cases v <;> rfl
theorem W_fzM {α : Type} {i : Nat} {m : M α} {s : S} {Q : α → S → Prop} : W (mFz i m) s Q = match s.env[i]? with
    | some (.own l) => W m (setE i (.val (.fl l)) s) Q
    | _ => False := by
  unfold W mFz
  cases s.env[i]? with
  | none => rfl
  | some x => cases x <;> rfl
theorem W_ownA {f : List IV → Option IV} {i : Nat} {s : S} {Q : IV → S → Prop} : W (mOwnA f i) s Q = match s.env[i]? with
    | some (.own l) => match f [.fl l] with
      | some z => if scI z = true then Q z s else False
      | none => False
    | _ => False := by
  unfold W mOwnA
  cases s.env[i]? with
  | none => rfl
  | some x => cases x with
    | own l => dsimp only; cases f [.fl l] with
      | none => rfl
      | some z => dsimp only; by_cases h : scI z = true
                  · rw [if_pos h, if_pos h]
                  · rw [if_neg h, if_neg h]
    | _ => rfl
theorem W_ownIxM {i : Nat} {m} {s : S} {Q : IV → S → Prop} : W (mOwnIx i m) s Q = match s.env[i]? with
    | some (.own _) => W m s fun y s1 => match s1.env[i]?, y with
      | some (.own l), .int k => match atI l k with
        | some z => Q z s1
        | none => False
      | _, _ => False
    | _ => False := by
  unfold mOwnIx
  conv => lhs; unfold W; dsimp only
  cases s.env[i]? with
  | none => rfl
  | some x => cases x with
    | own l =>
      dsimp only
      show W (M.bind m _) s Q = _
      rw [W_bind]
      congr; funext y s1
      unfold W
      dsimp only
      cases s1.env[i]? with
      | none => rfl
      | some x => cases x with
        | own l => cases y with
          | int k => dsimp only; cases atI l k <;> rfl
          | _ => rfl
        | _ => rfl
    | _ => rfl
theorem W_appM {i : Nat} {m} {s : S} {R : Flw → S → Prop} : W (mApp i m) s R = match s.env[i]? with
    | some (.own _) => W m s fun v s1 => match s1.env[i]? with
      | some (.own l) => if l.length < szl then R .nx (setE i (.own (l ++ [v])) s1) else False
      | _ => False
    | _ => False := by
  unfold mApp
  conv => lhs; unfold W; dsimp only
  cases s.env[i]? with
  | none => rfl
  | some x => cases x with
    | own l =>
      dsimp only
      show W (M.bind m _) s R = _
      rw [W_bind]
      congr; funext y s1
      unfold W
      dsimp only
      cases s1.env[i]? with
      | none => rfl
      | some x => cases x with
        | own l => dsimp only; by_cases h : l.length < szl
                   · rw [if_pos h, if_pos h]
                   · rw [if_neg h, if_neg h]
        | _ => rfl
    | _ => rfl
theorem W_parVN {i j m1 m2} {s : S} {R : Flw → S → Prop} : W (mParVN i j m1 m2) s R = W m1 s fun v s1 => W m2 s1 fun l s2 => R .nx (setE j (.own l) (setE i (.val v) s2)) := by unfold mParVN; simp only [W_bind]; rfl
theorem W_parNV {i j m1 m2} {s : S} {R : Flw → S → Prop} : W (mParNV i j m1 m2) s R = W m1 s fun l s1 => W m2 s1 fun v s2 => R .nx (setE j (.val v) (setE i (.own l) s2)) := by unfold mParNV; simp only [W_bind, W_nox]; rfl
theorem W_parNN {i j m1 m2} {s : S} {R : Flw → S → Prop} : W (mParNN i j m1 m2) s R = W m1 s fun l s1 => W m2 s1 fun v s2 => R .nx (setE j (.own v) (setE i (.own l) s2)) := by unfold mParNN; simp only [W_bind, W_nox]; rfl
theorem W_parVVN {i j k m1 m2 m3} {s : S} {R : Flw → S → Prop} : W (mParVVN i j k m1 m2 m3) s R = W m1 s fun v s1 => W m2 s1 fun u s2 => W m3 s2 fun l s3 => R .nx (setE k (.own l) (setE j (.val u) (setE i (.val v) s3))) := by unfold mParVVN; simp only [W_bind]; rfl
theorem W_gtupM {n : Nat} {g : List IV → M Unit} {l : List IV} {s : S} {U : Unit → S → Prop} : W (gTp n g (.tup l)) s U = if l.length = n then W (g l) s U else False := by
  unfold gTp
  by_cases h : l.length = n
  · rw [if_pos h]; dsimp only; rw [if_pos h]
  · rw [if_neg h]; dsimp only; rw [if_neg h]; rfl
theorem enmL_at {l : List IV} {k : Nat} {x : IV} (h : (enmL l)[k]? = some x) : ∃ y, l[k]? = some y ∧ x = .tup [nI k, y] := by
  unfold enmL at h
  rw [List.getElem?_map, List.getElem?_zipIdx] at h
  cases e : l[k]? with
  | none => rw [e] at h; cases h
  | some y => rw [e] at h; cases h; exact ⟨y, rfl, by simp⟩
theorem map_at {α : Type} {f : α → IV} {l : List α} {k : Nat} {x : IV} (h : (l.map f)[k]? = some x) : ∃ y, l[k]? = some y ∧ x = f y := by
  rw [List.getElem?_map] at h
  cases e : l[k]? with
  | none => rw [e] at h; cases h
  | some y => rw [e] at h; cases h; exact ⟨y, rfl, rfl⟩
theorem W_selfM {C : Addr} {f : Str} {mv : M IV} {s : S} {R : Flw → S → Prop} : W (mSelf C f mv) s R = W mv s fun v s1 => match s1.env[(0 : Nat)]? with
    | some (.ins c fs) => if c = C ∧ fs.length < 100 then R .nx (setE 0 (.ins c (putI f v fs)) s1) else False
    | _ => False := by
  unfold mSelf; rw [W_bind]; congr; funext v s1
  unfold W
  dsimp only
  cases s1.env[(0 : Nat)]? with
  | none => rfl
  | some x => cases x with
    | ins c fs => dsimp only; by_cases h : c = C ∧ fs.length < 100
                  · rw [if_pos h, if_pos h]
                  · rw [if_neg h, if_neg h]
    | _ => rfl
theorem WI_run {n np : Nat} {C : Addr} {m : M Flw} {xs : List IV} {μ : List SO} {Q : List (Str × IV) → List SO → Prop} : WI (runI n np C m xs μ) Q = if xs.length + 1 = np then W m ⟨.ins C [] :: (xs.map .val ++ List.replicate (n - 1 - xs.length) .emp), μ⟩ fun f s => WI (endI C f s.env[(0 : Nat)]? s.sto) Q else False := by
  unfold runI
  by_cases h : xs.length + 1 = np
  · rw [if_pos h, if_pos h]
    unfold W
    cases m ⟨.ins C [] :: (xs.map .val ++ List.replicate (n - 1 - xs.length) .emp), μ⟩ <;> rfl
  · rw [if_neg h, if_neg h]; rfl
theorem WI_end {C : Addr} {fs : List (Str × IV)} {μ : List SO} {Q : List (Str × IV) → List SO → Prop} : WI (endI C .nx (some (.ins C fs)) μ) Q = Q fs μ := by
  unfold endI; simp only [if_true]; rfl
theorem of_WI {r : RI} {x : List (Str × IV)} {μ : List SO} (h : WI r fun v μ' => v = x ∧ μ' = μ) : r = .ok x μ := by
  cases r with
  | ok v μ' => obtain ⟨rfl, rfl⟩ := h; rfl
  | ex c fs μ => exact h.elim
  | no => exact h.elim
theorem WI_ok {v : List (Str × IV)} {μ : List SO} {Q : List (Str × IV) → List SO → Prop} : WI (.ok v μ) Q = Q v μ := rfl
theorem W_opL {f a b} {s : S} {L : List IV → S → Prop} : W (mOpL f a b) s L = W a s fun x s1 => W b s1 fun y s2 => W (M.opt (f x y)) s2 L := by unfold mOpL; simp only [W_bind]
theorem W_ownSet {i mv mk} {s : S} {R : Flw → S → Prop} : W (mOwnSet i mv mk) s R = W mv s fun v s1 => match s1.env[i]? with
    | some (.own _) => W mk s1 fun k s2 => match s2.env[i]?, k with
      | some (.own l), .int k => match ixN l.length k with
        | some n => R .nx (setE i (.own (l.set n v)) s2)
        | none => False
      | _, _ => False
    | _ => False := by
  unfold mOwnSet; rw [W_bind]; congr; funext v s1
  conv => lhs; unfold W; dsimp only
  cases s1.env[i]? with
  | none => rfl
  | some x => cases x with
    | own l =>
      dsimp only
      show W (M.bind mk _) s1 R = _
      rw [W_bind]
      congr; funext y s2
      unfold W
      dsimp only
      cases s2.env[i]? with
      | none => rfl
      | some x => cases x with
        | own l => cases y with
          | int k => dsimp only; cases ixN l.length k <;> rfl
          | _ => rfl
        | _ => rfl
    | _ => rfl
theorem WF_arM {n : Nat} {fn : Fn} {xs : List IV} {μ : List SO} {Q : IV → List SO → Prop} : WF (ar n fn xs μ) Q = if xs.length = n then WF (fn xs μ) Q else False := by
  unfold ar
  by_cases h : xs.length = n
  · rw [if_pos h, if_pos h]
  · rw [if_neg h, if_neg h]; rfl
theorem setE_mk {i x env sto} : setE i x ⟨env, sto⟩ = ⟨env.set i x, sto⟩ := rfl

/-! ### values -/
theorem addV_int {i j : Int} : addV (.int i) (.int j) = some (.int (i + j)) := rfl
theorem subV_int {i j : Int} : subV (.int i) (.int j) = some (.int (i - j)) := rfl
theorem mulV_int {i j : Int} (h : i.natAbs < 18446744073709551616 ∨ j.natAbs < 18446744073709551616) : mulV (.int i) (.int j) = some (.int (i * j)) := if_pos h
theorem modV_int {i j : Int} (h : 0 < j) : modV (.int i) (.int j) = some (.int (i % j)) := if_pos h
theorem divV_int {i j : Int} (h : 0 < j) (h2 : j < 1073741824) : divV (.int i) (.int j) = some (.int (i / j)) := if_pos ⟨h, h2⟩
theorem negV_int {i : Int} : negV (.int i) = some (.int (-i)) := rfl
theorem ltV_int {i j : Int} : ltV (.int i) (.int j) = some (.bl (decide (i < j))) := rfl
theorem leV_int {i j : Int} : leV (.int i) (.int j) = some (.bl (decide (i ≤ j))) := rfl
theorem gtV_int {i j : Int} : gtV (.int i) (.int j) = some (.bl (decide (j < i))) := rfl
theorem geV_int {i j : Int} : geV (.int i) (.int j) = some (.bl (decide (j ≤ i))) := rfl
theorem eqV_int {i j : Int} : eqV (.int i) (.int j) = some (.bl (i == j)) := rfl
theorem neV_int {i j : Int} : neV (.int i) (.int j) = some (.bl (!(i == j))) := rfl
theorem eqV_str {i j : Str} : eqV (.str i) (.str j) = some (.bl (i == j)) := rfl
theorem neV_str {i j : Str} : neV (.str i) (.str j) = some (.bl (!(i == j))) := rfl
theorem intV_int {i : Int} : intV [.int i] = some (.int i) := rfl
theorem intV_bl {b : Bool} : intV [.bl b] = some (.int (if b then 1 else 0)) := rfl
theorem lenV_fl {l : List IV} : lenV [.fl l] = some (.int l.length) := rfl
theorem lenV_tup {l : List IV} : lenV [.tup l] = some (.int l.length) := rfl
theorem listV_fl {l : List IV} : listV [.fl l] = some (.fl l) := rfl
theorem tupleV_fl {l : List IV} : tupleV [.fl l] = some (.tup l) := rfl
theorem lstV_of {l : List IV} (h : l.length ≤ szl) : lstV l = some (.fl l) := if_pos h
theorem tupV_of {l : List IV} (h : l.length ≤ szl) : tupV l = some (.tup l) := if_pos h
theorem szL_of {l : List IV} (h : l.length ≤ szl) : szL l = some l := if_pos h
theorem addV_fl {a b : List IV} (h : a.length + b.length ≤ szl) : addV (.fl a) (.fl b) = some (.fl (a ++ b)) := if_pos h
theorem addV_tup {a b : List IV} (h : a.length + b.length ≤ szl) : addV (.tup a) (.tup b) = some (.tup (a ++ b)) := if_pos h
theorem ixS_ref {μ : List SO} {j : Nat} {k : Int} {l : List IV} (h : μ[j]? = some (.lst l)) : ixS μ (.ref j) (.int k) = atI l k := by simp only [ixS, h]
theorem ixS_fl {μ : List SO} {k : Int} {l : List IV} : ixS μ (.fl l) (.int k) = atI l k := rfl
theorem ixS_tup {μ : List SO} {k : Int} {l : List IV} : ixS μ (.tup l) (.int k) = atI l k := rfl
theorem atI_n {α : Type} {l : List α} {n : Nat} (h : n < l.length) : atI l (n : Int) = l[n]? := by
  unfold atI ixN
  rw [if_pos (by omega), if_pos (by omega)]
  simp
theorem atI_last {α : Type} {l : List α} (h : 0 < l.length) : atI l (-1) = l[l.length - 1]? := by
  unfold atI ixN
  rw [if_neg (by omega)]
  by_cases h2 : -(l.length : Int) ≤ -1
  · simp [h2]
    congr 1
    omega
  · omega
theorem intsOf_map {l : List Int} : intsOf (l.map IV.int) = some l := by
  induction l with
  | nil => rfl
  | cons a l ih => simp [intsOf, ih]
theorem boolsOf_map {l : List Bool} : boolsOf (l.map IV.bl) = some l := by
  induction l with
  | nil => rfl
  | cons a l ih => simp [boolsOf, ih]
theorem sumV_ints {l : List Int} : sumV [.fl (l.map IV.int)] = some (.int l.sum) := by simp only [sumV, intsOf_map]; rfl
theorem allV_bools {l : List Bool} : allV [.fl (l.map IV.bl)] = some (.bl (l.all id)) := by simp only [allV, boolsOf_map]; rfl
theorem intsOf_nats {l : List Nat} : intsOf (l.map nI) = some (l.map fun (n : Nat) => (n : Int)) := by
  induction l with
  | nil => rfl
  | cons a l ih => simp [intsOf, ih]
theorem sum_nats : ∀ l : List Nat, (l.map fun (n : Nat) => (n : Int)).sum = ((l.sum : Nat) : Int)
  | [] => rfl
  | a :: l => by simp [sum_nats l]
theorem sumV_nats {l : List Nat} : sumV [.fl (l.map nI)] = some (nI l.sum) := by simp only [sumV, intsOf_nats]; simp [sum_nats]
theorem minV_int {i j : Int} : minV [.int i, .int j] = some (.int (if j < i then j else i)) := rfl
theorem maxV_int {i j : Int} : maxV [.int i, .int j] = some (.int (if j > i then j else i)) := rfl
theorem rng1_of {j : Int} (h0 : -1000000 ≤ j) (h1 : j ≤ 1000000) : rng1 [.int j] = some (rngL 0 j.toNat) := if_pos (by omega)
theorem enm_fl {l : List IV} : enm [.fl l] = some (enmL l) := rfl
/-! ### loops -/
section
variable {s : S} {L : List IV → S → Prop} {R : Flw → S → Prop}
theorem setE_setE {i : Nat} {x y : Slot} : setE i x (setE i y s) = setE i x s := by
  unfold setE
  simp only [List.set_set]
theorem compL_map {i : Nat} {e : M IV} {f : IV → IV} : ∀ (l acc : List IV), acc.length + l.length ≤ szl → (∀ x ∈ l, e (setE i (.val x) s) = .ok (f x) (setE i (.val x) s)) →
    compL [i] (gSet i) tYesM e l acc (setE i .emp s) = .ok (acc ++ l.map f) (setE i .emp s)
  | [], acc, _, _ => by rw [compL.eq_1, List.map_nil, List.append_nil]; rfl
  | x :: r, acc, hz, he => by
    apply of_W
    rw [compL.eq_2, W_bind, W_nox, W_gset, W_bind, W_nox]
    show W (M.pure true) _ _
    rw [W_pure, if_pos rfl, W_bind, W_nox, setE_setE, W_of (he x (by simp)), if_pos (by simp at hz; omega), W_bind]
    show W (compL [i] (gSet i) tYesM e r (acc ++ [f x])) (setE i .emp (setE i (.val x) s)) _
    rw [setE_setE, W_of (compL_map r (acc ++ [f x]) (by simp at hz ⊢; omega) fun y hy => he y (by simp [hy]))]
    simp
theorem W_compM {i : Nat} {mi : M (List IV)} {e : M IV} (f : IV → IV) (h : W mi s fun l s1 => l.length ≤ szl ∧ (∀ x ∈ l, e (setE i (.val x) s1) = .ok (f x) (setE i (.val x) s1)) ∧ L (l.map f) (setE i .emp s1)) :
    W (mComp [i] mi (gSet i) tYesM e) s L := by
  obtain ⟨l, s1, e1, hz, he, q⟩ := h.run
  unfold mComp
  rw [W_bind, W_of e1, W_bind]
  show W (compL [i] (gSet i) tYesM e l []) (setE i .emp s1) L
  rw [W_of (compL_map l [] (by simpa using hz) he)]
  exact q
/-- .. whose parts change the state -/
theorem compL_inv {i : Nat} {e : M IV} (I : List IV → S → Prop) : ∀ (l acc : List IV) (s : S), acc.length + l.length ≤ szl → I acc s →
    (∀ acc x s, I acc s → W e (setE i (.val x) s) fun y s1 => I (acc ++ [y]) (setE i .emp s1)) → (∀ acc' s, acc'.length = acc.length + l.length → I acc' s → L acc' s) → W (compL [i] (gSet i) tYesM e l acc) s L
  | [], acc, s, _, h0, _, hd => by rw [compL.eq_1]; exact hd acc s rfl h0
  | x :: r, acc, s, hz, h0, hs, hd => by
    rw [compL.eq_2, W_bind, W_nox, W_gset, W_bind, W_nox]
    show W (M.pure true) _ _
    rw [W_pure, if_pos rfl, W_bind, W_nox]
    refine (hs acc x s h0).mono fun y s1 h1 => ?_
    rw [if_pos (by simp at hz; omega), W_bind]
    show W (compL [i] (gSet i) tYesM e r (acc ++ [y])) (setE i .emp s1) _
    refine compL_inv I r (acc ++ [y]) _ (by simp at hz ⊢; omega) h1 hs fun acc' s' hl => hd acc' s' (by rw [hl]; simp; omega)
theorem W_compI {i : Nat} {mi : M (List IV)} {e : M IV} (I : List IV → S → Prop) (h : W mi s fun l s1 => l.length ≤ szl ∧ I [] (setE i .emp s1) ∧ (∀ acc x s, I acc s → W e (setE i (.val x) s) fun y s1 => I (acc ++ [y]) (setE i .emp s1)) ∧ (∀ acc s, acc.length = l.length → I acc s → L acc s)) :
    W (mComp [i] mi (gSet i) tYesM e) s L := by
  obtain ⟨l, s1, e1, hz, h0, hs, q⟩ := h.run
  unfold mComp
  rw [W_bind, W_of e1, W_bind]
  show W (compL [i] (gSet i) tYesM e l []) (setE i .emp s1) L
  exact compL_inv I l [] _ (by simpa using hz) h0 hs fun acc s hl => q acc s (by simpa using hl)
theorem W_forI {g : IV → M Unit} {b : M Flw} (I : Nat → S → Prop) : ∀ (l : List IV) (n : Nat) (s : S), I n s → (∀ k x s, l[k]? = some x → I (n + k) s → W (g x) s fun _ s1 => W b s1 fun f s2 => (f = .nx ∨ f = .ct) ∧ I (n + k + 1) s2) → (∀ s, I (n + l.length) s → R .nx s) → W (forL g b l) s R
  | [], n, s, h0, _, hd => hd s h0
  | x :: r, n, s, h0, hs, hd => by
    rw [W_forCons]
    refine (hs 0 x s rfl h0).mono fun _ s1 h1 => h1.mono fun f s2 ⟨hf, h2⟩ => ?_
    have go : W (forL g b r) s2 R := W_forI I r (n + 1) s2 h2 (fun k y s hk h => by
      have := hs (k + 1) y s (by simpa using hk) (by rw [show n + (k + 1) = n + 1 + k from by omega]; exact h)
      rw [show n + (k + 1) + 1 = n + 1 + k + 1 from by omega] at this
      exact this) fun s h => hd s (by rw [List.length_cons, show n + (r.length + 1) = n + 1 + r.length from by omega]; exact h)
    rcases hf with rfl | rfl <;> exact go
theorem W_whileI {t : M Bool} {b : M Flw} (I : Nat → S → Prop) : ∀ (n k : Nat) (s : S), k < n → I k s → (∀ k s, I k s → W t s fun c s1 => if c = true then W b s1 fun f s2 => (f = .nx ∨ f = .ct) ∧ ∃ k', k' < k ∧ I k' s2 else R .nx s1) → W (whileL t b n) s R
  | 0, k, s, hk, _, _ => by omega
  | n + 1, k, s, hk, h0, hs => by
    rw [W_whileS]
    refine (hs k s h0).mono fun c s1 h1 => ?_
    by_cases hc : c = true
    · rw [if_pos hc] at h1 ⊢
      refine h1.mono fun f s2 ⟨hf, k', hk', h2⟩ => ?_
      have go := W_whileI I n k' s2 (by omega) h2 hs
      rcases hf with rfl | rfl <;> exact go
    · rw [if_neg hc] at h1 ⊢
      exact h1
end
end Mi
set_option Elab.async false
set_option linter.all false
set_option maxRecDepth 100000
set_option maxHeartbeats 2000000
namespace Mi
open PySem L2 PyProof.Rows
open Builtin Builtin.ObjectAttr

/-! ### own classes of errors below ArithmeticError, one field each -/
abbrev aeT : List Value := [.type "ArithmeticError", .type "Exception", .type "BaseException", .type "object"]
structure OxC (K : PySem.W.Frag) (C : Addr) : Prop where
  ini : PySem.W.excInitIn K C aeT "ArithmeticError.__new__" = true
  ovr : PySem.W.excOver K C aeT = true
  sta : PySem.W.findIn K (.ref C) "__setattr__" = some (some (.builtin "object.__setattr__"))
  dct : PySem.W.hasDictIn K C = true
  sub : PySem.W.subIn K (.ref C) (.type "BaseException") = some true
  typ : PySem.W.typeIn K (.ref C) = some (.type "type")
  kpt : PySem.W.keepIn K (.ref C) = true
section
variable {X : Cx} {pins : List (Addr × Obj)} {σ : L2.St} {H : Hp} {s : Shared} {a C : Addr} {f : Str} {y : V} {u : Value} {E : Value → Shared → Prop} {A : Around}
/-- the base's __init__ on an instance that is being made -/
theorem ox_base {us : List Value} {Q : Value → Shared → Prop} (T : OxC X.K C) (I : Inv X pins σ H s) (he : H a = some (exo a C none)) (hz : us.length ≤ sizeLine)
    (q : ∀ s', Inv X pins σ H s' → Q .none s') : wpAny (model X.prog X.w) A (call (.builtin "ArithmeticError.__init__") (.ref a :: us)) Q E s := by
  obtain ⟨n1, n2, n3, n4, n5, n6, n7, n8, n9, n10, n11, n12, n13, n14, n15, n16, cC, cT⟩ := PySem.W.excInit_of I.kIn T.ini
  obtain ⟨ta, ga⟩ := exo_at I.hok he
  obtain ⟨hp, gs, dr, tk, os⟩ := s
  refine wpAny_call (PySem.HandSPX.init_base PySem.F.excBase_ArithmeticError cT cC ga hz ?_)
  intro h2 t2 kp hn
  have hu : upd H a (exo a C none) = H := funext fun b => by
    by_cases hb : b = a
    · subst hb; exact upd_same.trans he.symm
    · exact upd_ne hb
  have J := I.write (x := a) (e := a) (o := exo a C none) (t' := tk) (by rw [he]; exact trivial) (.inl rfl) kp ⟨_, hn⟩ (exo_ok hn)
  exact q _ (hu ▸ J)
/-- its one field -/
theorem ox_fld {Q : Unit → Shared → Prop} (T : OxC X.K C) (I : Inv X pins σ H s) (he : H a = some (exo a C none)) (hf : PySem.W.findIn X.K (.ref C) f = some none) (ry : RelV y u)
    (q : ∀ dx s', H dx = none → dx ≠ a → Inv X pins σ (upd (upd H dx (exd dx [(f, y)])) a (exo a C (some dx))) s' → Q () s') : wpAny (model X.prog X.w) A (setAttr (.ref a) f u) Q E s := by
  obtain ⟨ta, ga⟩ := exo_at I.hok he
  have hk := I.kIn
  obtain ⟨hp, gs, dr, tk, os⟩ := s
  have ha : a ≠ hp.objs.size := Nat.ne_of_lt (Heap.lt_size ga)
  obtain ⟨cd, c1, c2⟩ := PySem.W.any_some T.dct
  have hg : PySem.W.takerIn X.K C f = some none := by unfold PySem.W.takerIn; rw [hf]; rfl
  refine PySem.W.set_plain (od := none) hk ⟨ga, rfl, rfl, trivial⟩ T.sta ?_
  refine PySem.W.osa_openX (od := none) PySem.F.store_ArithmeticError hk ⟨ga, rfl, rfl, trivial⟩ T.ovr hg fun b => ?_
  refine wpAny_bind (wpAny_pure (wpAny_bind (PySem.W.instanceDict_exc (s := ⟨hp, gs, dr, tk + 1, os⟩) ga (PySem.W.looks_clsIn hk c1) c2 ?_)))
  show wpAny _ _ (storeInDict hp.objs.size (.str f tk) f u) _ _ _
  have g1 : (hp.push (PySem.W.dictOf [] 0)).get? a = _ := Heap.get?_push_of_some _ ga
  refine PySem.HandSPX.store_in_new ?_ fun h2 t2 hn hsb => ?_
  · exact ⟨_, #[], _, (Heap.get?_update_ne _ _ _ _ ha.symm).trans (Heap.get?_push_at rfl rfl), rfl, fun _ z => absurd z (by simp), fun _ => rfl⟩
  · have hd : H hp.objs.size = none := I.hok.fresh (Nat.le_refl _)
    have ga2 : h2.get? a = _ := (hsb.2 a ha).trans (Heap.get?_update_self _ g1 rfl)
    have mid : ∀ c, c ≠ a → (h2.update a fun _ => { cls := .ref C, dict := none, data := .fields #[.ref ta, .none, .none, .none, .bool false, .none] }).get? c = h2.get? c := fun c hc => Heap.get?_update_ne _ _ _ _ hc
    have mida : (h2.update a fun _ => { cls := .ref C, dict := none, data := .fields #[.ref ta, .none, .none, .none, .bool false, .none] }).get? a = some { cls := .ref C, dict := none, data := .fields #[.ref ta, .none, .none, .none, .bool false, .none] } := Heap.get?_update_self _ ga2 rfl
    have I1 := I.laid (t' := t2) (a := hp.objs.size) (o := exd hp.objs.size [(f, y)]) (h' := h2.update a fun _ => { cls := .ref C, dict := none, data := .fields #[.ref ta, .none, .none, .none, .bool false, .none] }) (fun c z e => by
        by_cases hc : c = a
        · subst hc; exact mida.trans (ga.symm.trans e)
        · rw [mid c hc, hsb.2 c (Nat.ne_of_lt (Heap.lt_size e)), Heap.get?_update_ne _ _ _ _ hc]
          exact Heap.get?_push_of_some _ e) (Nat.le_refl _) (exd_ok (hn.at fun o e => (mid _ (Ne.symm ha)).trans e) (relO_put (fs := []) ry fun _ => trivial))
    have e1 : upd H hp.objs.size (exd hp.objs.size [(f, y)]) a = some (exo a C none) := (upd_ne ha).trans he
    have I2 := I1.write (t' := t2) (x := a) (e := a) (o := exo a C (some hp.objs.size)) (h' := h2) (by rw [e1]; exact trivial) (.inl rfl) (fun c z hc e => (mid c hc).symm.trans e) ⟨_, ga2⟩ (exo_ok ga2)
    exact q _ _ hd (Ne.symm ha) I2
end
/-! ### readings -/
def tBI (K : PySem.W.Frag) (ta : TA) : TE := fun σ H Q => ta σ H fun vs H1 => ∃ (a C : Addr) (ws : List V), vs = .ref a :: ws ∧ ws.length ≤ 100 ∧ OxC K C ∧ H1 a = some (exo a C none) ∧ Q .non H1
def tOF (K : PySem.W.Frag) (f : Str) (to te : TE) : TS := fun D σ H => te σ H fun y H1 => to σ H1 fun x H2 => ∃ a C : Addr, x = .ref a ∧ OxC K C ∧ PySem.W.findIn K (.ref C) f = some none ∧ H2 a = some (exo a C none) ∧
  ∀ dx, H2 dx = none → dx ≠ a → D.nx σ (upd (upd H2 dx (exd dx [(f, y)])) a (exo a C (some dx)))
/-- what C's __init__ does -/
def spO (K : PySem.W.Frag) (C : Addr) (f : Str) : Sp := fun vs H Q _ => ∃ (a : Addr) (y : V), vs = [.ref a, y] ∧ OxC K C ∧ PySem.W.findIn K (.ref C) f = some none ∧ H a = some (exo a C none) ∧
  ∀ dx, H dx = none → dx ≠ a → Q .non (upd (upd H dx (exd dx [(f, y)])) a (exo a C (some dx)))
/-- C(e), as a raise has it -/
def tOx (C : Addr) (f : Str) (ta : TA) : L2.St → Hp → XK → Prop := fun σ H Q => ta σ H fun vs H1 => ∃ y, vs = [y] ∧ ∀ dx, H1 dx = none → Q (.ref C) (some dx) (upd H1 dx (.xd [(f, y)]))
/-- what of the text the base class must have -/
structure OxB (K : PySem.W.Frag) (B : Addr) : Prop where
  rd : PySem.W.readsIn K B (.type "type") = true
  ga : PySem.W.specialIn K (.ref B) "__getattribute__" = some (some (.builtin "type.__getattribute__"))
  at_ : PySem.W.findCls K (.ref B) (.type "type") "__init__" = some (.val (.builtin "ArithmeticError.__init__"))
section
variable {X : Cx} {o e : Expr} {es : List Expr} {to te : TE} {ta : TA} {f x : Str} {p p' p1 p2 pos : Pos} {B C fI : Addr}
theorem pe_base {pl : Sem Bool} (T : OxB X.K B) (hg : Gl X x) (hm : X.mg x = some (.ref B)) (ha : PA X (e :: es) ta)
    (hc : eval (.Call (.Attribute (.Name x p1) "__init__" p2) (e :: es) [] pos) X.env = (do
      let v ← eval (.Name x p1) X.env
      standAt p2.atName
      let (g, first) ← holding [v] (getMethod v "__init__" pl)
      callWith pos g first (backTo pos (starEach (e :: es) X.env)) (backToKw pos (keywordEach [] X.env))) := by rfl)
    (hdb : (x == ("__debug__" : Str)) = false := by decide) (hs : starEach (e :: es) X.env = (false, eval e X.env) :: starEach es X.env := by rfl) (hpl : (backTo pos (starEach es X.env)).any (·.1) = false := by rfl) :
    PE X (.Call (.Attribute (.Name x p1) "__init__" p2) (e :: es) [] pos) (tBI X.K ta) := by
  refine ⟨fun pins s σ H Q I h => PySem.W.methodCall_KW (ld_glob I hg hm ?_ hdb) hc⟩
  refine PySem.W.method_cls I.kIn T.ga (PySem.W.cls_value I.kIn T.rd T.at_ (by decide +kernel) ?_)
  show wpAny _ _ (callWith pos (Value.builtin "ArithmeticError.__init__") [] (backTo pos (starEach (e :: es) X.env)) []) _ _ _
  refine callWith_method1 (thn (ha.run pos pins _ σ H _ (I.tok _) h) fun us s1 hh => ?_) hs hpl
  obtain ⟨vs, H1, I1, rr, a, C, ws, rfl, hl, T1, ea, q⟩ := hh
  cases rr with
  | cons r0 rw0 =>
    cases r0
    refine ox_base T1 I1 ea (by rw [← Paired.length rw0, sizeLine_eq]; omega) fun s' J => ⟨.non, H1, J, rfl, q⟩
theorem ps_ofld (ho : PE X o to) (he : PE X e te) (hs : swapsWith e (some (.Attribute o f p')) pos.line X.env = pure false := by rfl) : PS X (.Assign [.Attribute o f p'] e pos) (tOF X.K f to te) := by
  refine ⟨fun pins s σ H D I h => plainObj_wpAny_Assign_Attribute (thn (he.run pins s σ H _ I h) fun v s1 h1 => ?_) hs⟩
  obtain ⟨y, H1, I1, r1, q1⟩ := h1
  refine thn (ho.run pins s1 σ H1 _ I1 q1) fun u s2 h2 => ?_
  obtain ⟨x, H2, I2, r2, a, C, rfl, T, hn, ea, q⟩ := h2
  cases r2
  exact ox_fld T I2 ea hn r1 fun dx s' n ne J => ⟨σ, _, J, q dx n ne⟩
/-- C(e) is made -/
theorem pmk_ox {CX : CXT} {k : Nat} {fd : FuncData} {ps : List Str} (T : OxC X.K C) (iC : PySem.W.findIn X.K (.ref C) "__init__" = some (some (.ref fI))) (tI : PySem.W.typeIn X.K (.ref fI) = some (.type "function"))
    (hno : PySem.W.findIn X.K (.ref C) f = some none) (F1 : FnOk X.prog X.w X.K X.mg X.base CX k fI fd ps (spO X.K C f)) (hr : Room (k + 1) X.A) (hb : L2.Binds X.K fd ps []) (hx : Passes CX X (fun _ _ _ => False))
    (hg : Gl X x) (hm : X.mg x = some (.ref C)) (ha : PA X (e :: es) ta) (hdb : (x == ("__debug__" : Str)) = false := by decide)
    (hs : starEach (e :: es) X.env = (false, eval e X.env) :: starEach es X.env := by rfl) (hpl : (backTo pos (starEach es X.env)).any (·.1) = false := by rfl) :
    PMk X (.Call (.Name x p) (e :: es) [] pos) (tOx C f ta) := by
  intro pins s σ H Q I h
  refine wpAny_Call_Name_kw (ld_glob I hg hm ?_ hdb)
  refine PySem.W.callWith_K (h₀ := X.base) I.ok.mod.kin T.kpt (thn (ha.run pos pins s σ H _ I h) fun us s1 hh => ?_) hs hpl
  obtain ⟨vs, H1, I1, rr, y, rfl, q⟩ := hh
  refine ⟨I1.kIn, ?_⟩
  show wpAny _ _ (call (.ref C) us) _ _ _
  cases rr with
  | @cons _ v _ ur ry rn =>
  cases rn
  obtain ⟨n1, n2, n3, n4, n5, n6, n7, n8, n9, n10, n11, n12, n13, n14, n15, n16, cC, cT⟩ := PySem.W.excInit_of I1.kIn T.ini
  obtain ⟨hp, gs, dr, tk, os⟩ := s1
  have fr : H1 (hp.objs.size + 1) = none := I1.hok.fresh (Nat.le_succ _)
  have kp : ∀ b o, hp.get? b = some o → ((hp.push (PySem.W.kdv_tup [v])).push (PySem.HandSPX.excO C hp.objs.size)).get? b = some o := fun b o z => Heap.get?_push_of_some _ (Heap.get?_push_of_some _ z)
  have at_ : ((hp.push (PySem.W.kdv_tup [v])).push (PySem.HandSPX.excO C hp.objs.size)).get? (hp.objs.size + 1) = some (PySem.HandSPX.excO C hp.objs.size) := by heap_get
  have I2 := I1.laid (t' := tk) (a := hp.objs.size + 1) (o := exo (hp.objs.size + 1) C none) kp (Nat.le_succ _) (exo_ok at_)
  have sp : spO X.K C f [.ref (hp.objs.size + 1), y] (upd H1 (hp.objs.size + 1) (exo (hp.objs.size + 1) C none)) (fun z H2 => z = .non ∧ ∃ (d : Addr) (fs : List (Str × V)), H2 (hp.objs.size + 1) = some (exo (hp.objs.size + 1) C (some d)) ∧ H2 d = some (exd d fs) ∧ H1 d = none ∧ Q (.ref C) (some d) (upd (del H2 (hp.objs.size + 1)) d (.xd fs))) (fun _ _ _ => False) := by
    refine ⟨_, y, rfl, T, hno, upd_same, fun dx hd hne => ⟨rfl, dx, [(f, y)], upd_same, ?_, ?_, ?_⟩⟩
    · rw [upd_ne hne]; exact upd_same
    · rw [upd_ne hne] at hd; exact hd
    · rw [upd_ne hne] at hd
      have z := q dx hd
      have eq : upd (del (upd (upd (upd H1 (hp.objs.size + 1) (exo (hp.objs.size + 1) C none)) dx (exd dx [(f, y)])) (hp.objs.size + 1) (exo (hp.objs.size + 1) C (some dx))) (hp.objs.size + 1)) dx (.xd [(f, y)]) = upd H1 dx (.xd [(f, y)]) := by
        funext b
        by_cases h1 : b = dx
        · rw [h1, upd_same, upd_same]
        · rw [upd_ne h1, upd_ne h1]
          by_cases h2 : b = hp.objs.size + 1
          · rw [h2, del_same, fr]
          · rw [del_ne h2, upd_ne h2, upd_ne h1, upd_ne h2]
      rw [eq]
      exact z
  have hlen : ps.length = 2 := by have := F1.len _ _ _ _ sp; exact this.symm
  refine wpAny_call (PySem.HandSPX.call_own PySem.F.excBase_ArithmeticError cT cC (PySem.W.looks_findIn I1.kIn iC) (fun self => PySem.W.bind_fn I1.kIn self tI) (by show 1 ≤ sizeLine; rw [sizeLine_eq]; omega) ?_)
  refine codeAny_mono (F1.run _ X.stack _ _ ⟨[Value.ref (hp.objs.size + 1), v], []⟩ [Value.ref (hp.objs.size + 1), v] [.ref (hp.objs.size + 1), y] _ _ (hr.make C [v] []) (I2.env0.make C [v] []) ?_ (.cons rfl (.cons ry .nil)) sp) fun r s' z => ?_
  · have := hb _ [Value.ref (hp.objs.size + 1), v] I2.kIn (by rw [List.append_nil]; exact hlen.symm)
    rwa [List.append_nil] at this
  · cases r with
    | error er => exact hx pins σ _ _ er s' I2 z
    | ok fl =>
      cases fl with
      | next => exact z.elim
      | brk => exact z.elim
      | cont => exact z.elim
      | ret w0 =>
        obtain ⟨v9, H2, o2, b2, u2, k2, rv, ev, d, fs, ea, ed, hd1, q2⟩ := z
        subst ev
        obtain ⟨h2, g2, d2, t2, os2⟩ := s'
        exact ⟨rv, mk_end (raises_own T.sub T.typ) I1 (Nat.le_succ _) kp u2 k2 o2 b2 ea ed hd1 q2⟩
end
end Mi
set_option Elab.async false
set_option linter.all false
set_option maxRecDepth 100000
set_option maxHeartbeats 2000000
namespace Mi
open PySem L2 PyProof.Rows

variable {Θ : Fx} {ρ ρ' : List Addr} {s s' : S} {σ σ' : L2.St} {H H' : Hp} {X : Cx} {K : PySem.W.Frag}

/-! ### the __init__ of an own error -/
def tOI (K : PySem.W.Frag) (m f : Str) : TS := tSeq (tDrop (tBI K (tCons (tVar 0) (tCons (tC (.str m)) tNil)))) (tOF K f (tVar 0) (tVar 1))
theorem okO {P : Program} {w : World} {mg : Str → Option Value} {base : Heap} {k : Nat} {fI C : Addr} {fd : FuncData} {qual q m fl : Str} {st : Stmt} (F : Fun K "__init__" qual st fI fd) (S : FnScope ["self", q] ["self", q] (defScope st))
    (hb : ∀ (cdv : Value) (A : Around) (outer : List Env) (s : Shared) (H : Hp) (E : XK), PSs (cxOf CX0 P w K mg base ["self", q] qual (defScope st) fI cdv A outer s H E).nox (defBody st) (tOI K m fl)) :
    FnOk P w K mg base CX0 (k + 1) fI fd ["self", q] (spO K C fl) :=
  F.ok S (fun vs H Q E ⟨a, y, e, _⟩ => by rw [e]; rfl) fun cdv A outer s H vs Q E _ ⟨a, y, e, T, hf, ea, qq⟩ => ⟨_, hb cdv A outer s H E, by
    subst e
    exact ⟨_, rfl, ⟨a, C, [.str m], rfl, by simp, T, ea, _, rfl, _, rfl, a, C, rfl, T, hf, ea, qq⟩⟩⟩

/-! ### defs that let errors out -/
section
variable {P : Program} {w : World} {mg : Str → Option Value} {base : Heap}
theorem okMx {x qual : Str} {st : Stmt} {f : Addr} {fd : FuncData} {N ps : List Str} {k : Nat} {m : M Flw} (F : Fun K x qual st f fd) (S : FnScope N ps (defScope st))
    (hb : ∀ (cdv : Value) (A : Around) (outer : List Env) (s : Shared) (H : Hp) (E : XK) (Θ : Fx), Room k (A.deeper (envOfC qual (defScope st) s.heap.objs.size f cdv)) → Θ.K = K → Θ.EX = EXof K Θ.F Θ.w0 E →
      Takes (cxOf (L2.CX P w) P w K mg base N qual (defScope st) f cdv A outer s H E) (fun cls d _ H => E cls d H) →
      PassesOwn (model P w) (cxOf (L2.CX P w) P w K mg base N qual (defScope st) f cdv A outer s H E).A (cxOf (L2.CX P w) P w K mg base N qual (defScope st) f cdv A outer s H E).env (cxOf (L2.CX P w) P w K mg base N qual (defScope st) f cdv A outer s H E).xe →
      PSs (cxOf (L2.CX P w) P w K mg base N qual (defScope st) f cdv A outer s H E) (defBody st) (tS Θ m)) :
    FnOk P w K mg base (L2.CX P w) (k + 1) f fd ps (spF K (ar ps.length (runF N.length m))) :=
  okM F S fun cdv A outer s H E Θ hr hK hE => hb cdv A outer s H E Θ hr hK hE (takes_of rfl rfl rfl rfl) (passes_of rfl)
end
/-- an own error's class as the top left it -/
structure OxK (K : PySem.W.Frag) (mg : Str → Option Value) (x qual : Str) (st : Stmt) (ps : List Str) (C f : Addr) (fd : FuncData) (fl : Str) : Prop where
  g : mg x = some (.ref C)
  T : OxC K C
  i : PySem.W.findIn K (.ref C) "__init__" = some (some (.ref f))
  t : PySem.W.typeIn K (.ref f) = some (.type "function")
  n : PySem.W.findIn K (.ref C) fl = some none
  F : Fun K "__init__" qual st f fd
  b : L2.Binds K fd ps []
section
variable {k j : Nat} {f C : Addr} {fd : FuncData} {ps : List Str} {fn : Fn} {x qual fl : Str} {st : Stmt} {p pos pos' : Pos} {e a : Expr} {es : List Expr} {mr : M (List IV)} {E : XK}
theorem c_callx (tk : Takes X (fun cls d _ H => E cls d H)) (B : FnB X.K X.mg x st ps f fd) (G : FnOk X.prog X.w X.K X.mg X.base (L2.CX X.prog X.w) k f fd ps (spF X.K fn)) (hr : Room j X.A) (hjk : k ≤ j) (hg : Gl X x) (hK : Θ.K = X.K) (hE : Θ.EX = EXof X.K Θ.F Θ.w0 E) (ha : PA X (e :: es) (tA Θ mr))
    (hd : (x == ("__debug__" : Str)) = false := by decide) (hs : starEach (e :: es) X.env = (false, eval e X.env) :: starEach es X.env := by rfl) (hpl : (backTo pos (starEach es X.env)).any (·.1) = false := by rfl) :
    PE X (.Call (.Name x p) (e :: es) [] pos) (tE Θ (mCall fn mr)) := e_call G (hr.mono hjk) hg B.g B.F.kp B.b (passes_call tk fun _ _ _ _ h => h) hK hE ha hd hs hpl
def mRaise (C : Addr) (f : Str) (m : M (List IV)) : M Flw := M.bind m fun xs s => match xs with
  | [x] => .ex C [(f, x)] s
  | _ => .no
theorem s_raise (B : OxK X.K X.mg x qual st ps C f fd fl) (G : FnOk X.prog X.w X.K X.mg X.base CX0 k f fd ps (spO X.K C fl)) (hc : X.calm = true) (tk : Takes X (fun cls d _ H => E cls d H)) (hr : Room j X.A) (hjk : k + 1 ≤ j) (hg : Gl X x) (hK : Θ.K = X.K) (hE : Θ.EX = EXof X.K Θ.F Θ.w0 E) (ha : PA X (e :: es) (tA Θ mr))
    (hd : (x == ("__debug__" : Str)) = false := by decide) (hs : starEach (e :: es) X.env = (false, eval e X.env) :: starEach es X.env := by rfl) (hpl : (backTo pos (starEach es X.env)).any (·.1) = false := by rfl) :
    PS X (.Raise (some (.Call (.Name x p) (e :: es) [] pos)) none pos') (tS Θ (mRaise C fl mr)) :=
  psLe (ps_raise hc tk (pmk_ox B.T B.i B.t B.n G (hr.mono hjk) B.b (fun _ _ _ _ _ _ _ z => z.elim) hg B.g ha hd hs hpl)) fun D σ H h => (tS.bind (R := RepL) h).imp fun vs H1 ⟨ρ1, s1, xs, r1, rl, o⟩ => by
    cases xs with
    | nil => exact o.elim
    | cons z zs =>
      cases zs with
      | cons _ _ => exact o.elim
      | nil =>
        obtain ⟨y, rfl, h1⟩ := rep1 rl
        refine ⟨y, rfl, fun dx hn => ?_⟩
        have o : Θ.EX C [(fl, z)] s1 := o
        rw [hE] at o
        obtain ⟨st1, nL⟩ := r1.laid (o := .xd [(fl, y)]) hn
        have lc := st1.r.leC
        have en := st1.r.en
        rw [hK] at lc en
        exact o ρ1 _ dx en (st1.r.base.trans lc) st1.r.fkeep ⟨[(fl, y)], upd_same, (lc.keep dx _ upd_same nL).2, .cons ((h1.mono st1.le).mono lc) .nil⟩
end
/-! ### try: f(..) / except C as e: return e.f == 'k' -/
theorem takes_nox : Takes X.nox (fun _ _ _ _ => False) := fun u s' ⟨_, _, _, _, _, _, _, _, _, _, _, _, _, _, _, _, w⟩ => w.elim
def mTryEq (fn : Fn) (C : Addr) (i : Nat) (f z : Str) (m : M (List IV)) : M Flw := M.bind m fun xs s => match fn xs s.sto with
  | .ok _ μ => .ok .nx { s with sto := μ }
  | .ex c fs μ => if c = C ∧ i < s.env.length then (match fs.lookup f with
    | some (.str y) => .ok (.rt (.bl (y == z))) { s with sto := μ }
    | _ => .no) else .no
  | .no => .no
/-- what the caught error's class must have -/
structure OxX (K : PySem.W.Frag) (C : Addr) (f : Str) : Prop where
  F : XfC K C
  n : PySem.W.findIn K (.ref C) f = some none
  m : PySem.W.exmOne K (.ref C) (.ref C) = some true
section
variable {k j i : Nat} {g C : Addr} {fd : FuncData} {ps : List Str} {fn : Fn} {x y n f z : Str} {st : Stmt} {p p1 p2 np q1 q2 q3 q4 q5 pos pos' : Pos} {kz : Nat} {e : Expr} {es : List Expr} {mr : M (List IV)} {E : XK} {Wout : WX}
theorem s_tryEq (Y : OxX X.K C f) (hs : X.stack = X.env :: X.outer) (hf : X.env.frame = some X.env.locals) (hN : X.N.Nodup) (hi : X.N[i]? = some n) (hln : X.env.kindOf n = some .local) (hv : Vis X.env.scope n) (gy : Gl X y) (my : X.mg y = some (.ref C)) (tk : Takes X (fun _ _ _ _ => False))
    (B : FnB X.K X.mg x st ps g fd) (G : FnOk X.prog X.w X.K X.mg X.base (L2.CX X.prog X.w) k g fd ps (spF X.K fn)) (hr : Room j X.A) (hjk : k ≤ j) (gx : Gl X x) (hK : Θ.K = X.K)
    (ha : ∀ (pn : List (Addr × Obj)) (xe : Value → Shared → Prop), PA (X.tr pn xe) (e :: es) (tA Θ mr))
    (hdy : (y == ("__debug__" : Str)) = false := by decide) (hdx : (x == ("__debug__" : Str)) = false := by decide) (hdn : (n == ("__debug__" : Str)) = false := by decide) (hcn : (n == ("__classdict__" : Str)) = false := by decide)
    (hse : starEach (e :: es) X.env = (false, eval e X.env) :: starEach es X.env := by rfl) (hpl : (backTo p1 (starEach es X.env)).any (·.1) = false := by rfl)
    (hsw : swapsWith (.Call (.Name x p) (e :: es) [] p1) none p2.line X.env = pure false := by rfl)
    (hab : attributeBase (.Name n q1) f X.env (eval (.Name n q1) X.env) = eval (.Name n q1) X.env := by rfl) :
    PS X (.Try [.Expr (.Call (.Name x p) (e :: es) [] p1) p2] [.ExceptHandler (some (.Name y np)) (some n) [.Return (some (.Compare (.Attribute (.Name n q1) f q2) [.Eq] [.Constant (.str z) kz q3] q4)) q5] pos'] [] [] pos) (tS Θ (mTryEq fn C i f z mr)) := by
  refine psLe (ps_try_as (i := i) (Wout := fun _ _ _ _ => False) (tb := fun W => tDrop (tCallS (spF X.K fn) (WE W) (tA Θ mr))) (ts := fun a cls d => tRet (tOp rEq (tXf a cls d C f (tVar i)) (tC (.str z)))) hs hf hN hi hln ⟨gy, hdy, .inl my⟩ tk (fun W pn xe tw _ => ?_) fun a oe cls d pn hz ho => ?_) fun D σ H h => ?_
  · exact pss_one (ps_expr (pe_callS (G.mono hjk) hr gx B.g B.F.kp B.b (passAt tw) (ha pn xe) hdx hse hpl) hsw)
  · exact pss_one (ps_ret (pe_cmpR op_eq (pe_xf Y.F Y.n hz ho (pe_var hi hv hdn hcn) hab) pe_str (nomark _)))
  · refine (tS.bind (R := RepL) h).imp fun vs H1 ⟨ρ1, s1, xs, r1, rl, o⟩ => ?_
    refine ⟨ρ1, s1.sto, xs, calleeF Θ s1 σ, hK ▸ r1.enOw, hK ▸ rl, ?_⟩
    cases ee : fn xs s1.sto with
    | no => rw [ee] at o; exact o.elim
    | ok u μ' =>
      rw [ee] at o
      intro ρ' H' v en le kp rv
      rw [← hK] at en le
      exact o ρ' σ H' (r1.back en le kp)
    | ex c fs μ' =>
      rw [ee] at o
      intro ρ' H' d en le kp xd
      rw [← hK] at en le
      dsimp only at o
      by_cases hc : c = C ∧ i < s1.env.length
      · rw [if_pos hc] at o
        obtain ⟨hc, hil⟩ := hc
        subst hc
        refine ⟨true, Y.m, fun _ a hna => ?_, fun q => nomatch q⟩
        obtain ⟨gs, h1, h2, h3⟩ := xd
        cases el : fs.lookup f with
        | none => rw [el] at o; exact o.elim
        | some w0 =>
          rw [el] at o
          obtain ⟨v0, k1, k2⟩ := h3.lookup el
          cases w0 with
          | str y0 =>
            cases k2
            have hlen : i < σ.length := by rw [r1.len]; exact hil
            refine ⟨.ref a, by rw [List.getElem?_set_self hlen], rfl, rfl, d, gs, .str y0, rfl, h1, k1, rfl, ?_⟩
            have q := o ρ' σ H' (r1.back en le kp) (.bl (y0 == z)) (.bl _)
            rw [dec_str]
            exact q
          | _ => exact o.elim
      · rw [if_neg hc] at o; exact o.elim
end
end Mi
set_option Elab.async false
set_option linter.all false
set_option maxRecDepth 100000
namespace Mi
open PySem L2
section
variable {s : S} {Q : IV → S → Prop} {R : Flw → S → Prop} {L : List IV → S → Prop}
theorem W_asg {m g} : W (mAsg m g) s R = W m s fun v s1 => W (g v) s1 fun _ s2 => R .nx s2 := by unfold mAsg; simp only [W_bind]; rfl
theorem W_tryEq {fn C i f z m} : W (mTryEq fn C i f z m) s R = W m s fun xs s1 => match fn xs s1.sto with
    | .ok _ μ => R .nx { s1 with sto := μ }
    | .ex c fs μ => if c = C ∧ i < s1.env.length then (match fs.lookup f with
      | some (.str y) => R (.rt (.bl (y == z))) { s1 with sto := μ }
      | _ => False) else False
    | .no => False := by
  unfold mTryEq; rw [W_bind]; congr; funext xs s1
  unfold W
  dsimp only
  cases fn xs s1.sto with
  | ok v μ => rfl
  | no => rfl
  | ex c fs μ =>
    dsimp only
    by_cases h : c = C ∧ i < s1.env.length
    · rw [if_pos h, if_pos h]
      cases fs.lookup f with
      | none => rfl
      | some x => cases x <;> rfl
    · rw [if_neg h, if_neg h]
theorem W_step {a b : M Flw} {s1 : S} (h : ∀ R' : Flw → S → Prop, R' .nx s1 → W a s R') (h2 : W b s1 R) : W (mSeq a b) s R := by rw [W_seq]; exact h _ h2
theorem W_stepQ {a b : M Flw} (T : S → Prop) (h : W a s fun f s1 => f = .nx ∧ T s1) (h2 : ∀ s1, T s1 → W b s1 R) : W (mSeq a b) s R := by
  rw [W_seq]
  refine h.mono fun f s1 ⟨hf, ht⟩ => ?_
  subst hf
  exact h2 s1 ht
theorem W_fzStep {i : Nat} {m : M Flw} {l : List IV} (h : s.env[i]? = some (.own l)) (h2 : W m (setE i (.val (.fl l)) s) R) : W (mFz i m) s R := by rw [W_fz h]; exact h2
/-- a comprehension that chooses, and changes nothing but its own variables -/
def wipeS (ws : List Nat) (s : S) : S := { s with env := wipeE ws s.env }
theorem compL_pure {ws : List Nat} {g : IV → M Unit} {t : M Bool} {e : M IV} (p : IV → Bool) (f : IV → IV) (s0 : S) : ∀ (l acc : List IV), acc.length + l.length ≤ szl →
    (∀ x ∈ l, W (g x) s0 fun _ s1 => W t s1 fun b s2 => b = p x ∧ (if p x = true then W e s2 fun y s3 => y = f x ∧ wipeS ws s3 = s0 else wipeS ws s2 = s0)) → compL ws g t e l acc s0 = .ok (acc ++ (l.filter p).map f) s0
  | [], acc, _, _ => by rw [compL.eq_1]; simp [M.pure]
  | x :: r, acc, hz, h => by
    have hx := h x (List.mem_cons_self ..)
    obtain ⟨_, s1, e1, hx⟩ := hx.run
    obtain ⟨b, s2, e2, hb, hx⟩ := hx.run
    subst hb
    have n1 : nox (g x) s0 = .ok () s1 := by unfold nox; rw [e1]
    have n2 : nox t s1 = .ok (p x) s2 := by unfold nox; rw [e2]
    rw [compL.eq_2]
    simp only [M.bind, n1, n2]
    rw [List.length_cons] at hz
    by_cases hp : p x = true
    · rw [if_pos hp] at hx ⊢
      obtain ⟨y, s3, e3, rfl, hs⟩ := hx.run
      have n3 : nox e s2 = .ok (f x) s3 := by unfold nox; rw [e3]
      simp only [M.bind, n3]
      rw [if_pos (by omega)]
      show compL ws g t e r (acc ++ [f x]) (wipeS ws s3) = _
      rw [hs, compL_pure p f s0 r _ (by simp; omega) fun z hz => h z (List.mem_cons_of_mem _ hz), List.filter_cons_of_pos hp]
      simp
    · rw [if_neg hp] at hx ⊢
      show compL ws g t e r acc (wipeS ws s2) = _
      rw [hx, compL_pure p f s0 r _ (by omega) fun z hz => h z (List.mem_cons_of_mem _ hz), List.filter_cons_of_neg hp]
theorem W_compP {ws : List Nat} {mi : M (List IV)} {g : IV → M Unit} {t : M Bool} {e : M IV} (p : IV → Bool) (f : IV → IV)
    (h : W mi s fun l s1 => l.length ≤ szl ∧ (∀ x ∈ l, W (g x) (wipeS ws s1) fun _ s2 => W t s2 fun b s3 => b = p x ∧ (if p x = true then W e s3 fun y s4 => y = f x ∧ wipeS ws s4 = wipeS ws s1 else wipeS ws s3 = wipeS ws s1)) ∧ L ((l.filter p).map f) (wipeS ws s1)) :
    W (mComp ws mi g t e) s L := by
  obtain ⟨l, s1, e1, hz, hx, q⟩ := h.run
  unfold mComp
  rw [W_bind, W_of e1, W_bind]
  show W (compL ws g t e l []) (wipeS ws s1) L
  rw [W_of (compL_pure p f (wipeS ws s1) l [] (by simpa using hz) hx)]
  exact q
/-- .. that chooses nothing -/
theorem compL_none {ws : List Nat} {g : IV → M Unit} {t : M Bool} {e : M IV} (I : S → Prop) : ∀ (l : List IV) (s0 : S), I s0 →
    (∀ x ∈ l, ∀ s, I s → W (g x) s fun _ s2 => W t s2 fun b s3 => b = false ∧ I (wipeS ws s3)) → (∀ s, I s → L [] s) → W (compL ws g t e l []) s0 L
  | [], s0, h0, _, hd => by rw [compL.eq_1]; exact hd s0 h0
  | x :: r, s0, h0, hs, hd => by
    rw [compL.eq_2, W_bind, W_nox]
    refine (hs x (List.mem_cons_self ..) s0 h0).mono fun _ s1 h1 => ?_
    rw [W_bind, W_nox]
    refine h1.mono fun b s2 ⟨hb, h2⟩ => ?_
    subst hb
    rw [if_neg (by decide), W_bind]
    exact compL_none I r _ h2 (fun z hz => hs z (List.mem_cons_of_mem _ hz)) hd
theorem W_compN {ws : List Nat} {mi : M (List IV)} {g : IV → M Unit} {t : M Bool} {e : M IV} (I : S → Prop)
    (h : W mi s fun l s1 => I (wipeS ws s1) ∧ (∀ x ∈ l, ∀ s, I s → W (g x) s fun _ s2 => W t s2 fun b s3 => b = false ∧ I (wipeS ws s3)) ∧ (∀ s, I s → L [] s)) : W (mComp ws mi g t e) s L := by
  obtain ⟨l, s1, e1, h0, hx, q⟩ := h.run
  unfold mComp
  rw [W_bind, W_of e1, W_bind]
  exact compL_none I l _ h0 hx q
end
/-! ### errors that leave -/
theorem ex_run {n : Nat} {m : M Flw} {xs : List IV} {μ : List SO} {c : Addr} {fs : List (Str × IV)} {s' : S} (h : m ⟨xs.map .val ++ List.replicate (n - xs.length) .emp, μ⟩ = .ex c fs s') : runF n m xs μ = .ex c fs s'.sto := by unfold runF; rw [h]
theorem ex_seq1 {a b : M Flw} {s : S} {c : Addr} {fs : List (Str × IV)} {s' : S} (h : a s = .ex c fs s') : mSeq a b s = .ex c fs s' := by unfold mSeq M.bind; rw [h]
theorem ex_seq2 {a b : M Flw} {s s1 : S} {r : Res Flw} (h : a s = .ok .nx s1) (h2 : b s1 = r) : mSeq a b s = r := by unfold mSeq M.bind; rw [h]; exact h2
theorem ex_bind1 {α β : Type} {m : M α} {k : α → M β} {s : S} {c : Addr} {fs : List (Str × IV)} {s' : S} (h : m s = .ex c fs s') : M.bind m k s = .ex c fs s' := by unfold M.bind; rw [h]
theorem ex_call {fn : Fn} {m : M (List IV)} {s s1 : S} {xs : List IV} {c : Addr} {fs : List (Str × IV)} {μ : List SO} (h : m s = .ok xs s1) (h2 : fn xs s1.sto = .ex c fs μ) : mCall fn m s = .ex c fs { s1 with sto := μ } := by
  unfold mCall M.bind
  simp only [h, h2]
theorem ex_raise {C : Addr} {f : Str} {m : M (List IV)} {s s1 : S} {x : IV} (h : m s = .ok [x] s1) : mRaise C f m s = .ex C [(f, x)] s1 := by unfold mRaise M.bind; rw [h]
theorem ex_ar {n : Nat} {fn : Fn} {xs : List IV} {μ : List SO} {r : RF} (h : xs.length = n) (h2 : fn xs μ = r) : ar n fn xs μ = r := by unfold ar; rw [if_pos h]; exact h2
theorem ok_of {α : Type} {m : M α} {s : S} {x : α} {s' : S} (h : W m s fun v s1 => v = x ∧ s1 = s') : m s = .ok x s' := of_W h
end Mi
set_option Elab.async false
set_option linter.all false
set_option maxRecDepth 100000
namespace Mi
open PySem L2
section
variable {s : S} {Q : IV → S → Prop} {R : Flw → S → Prop} {L : List IV → S → Prop}
theorem W_meth {C m fn mo mr} : W (mMeth C m fn mo mr) s Q = W mo s fun x s1 => if isI C m x s1 then W mr s1 (fun xs s2 => WF (fn (x :: xs) s2.sto) fun v μ => Q v { s2 with sto := μ }) else False := by
  unfold mMeth; rw [W_bind]; congr; funext x s1
  conv => lhs; unfold W; dsimp only
  by_cases h : isI C m x s1
  · rw [if_pos h, if_pos h]
    show W (M.bind mr _) s1 Q = _
    rw [W_bind]; congr; funext xs s2
    unfold W WF
    dsimp only
    cases fn (x :: xs) s2.sto <;> rfl
  · rw [if_neg h, if_neg h]
theorem W_eqM {C fn ma mb} : W (mEqM C fn ma mb) s Q = W ma s fun x s1 => W mb s1 fun y s2 => if isI C "__eq__" x s2 ∧ isI C "__eq__" y s2 then WF (fn [x, y] s2.sto) (fun v μ => Q v { s2 with sto := μ }) else False := by
  unfold mEqM; simp only [W_bind]; congr; funext x s1; congr; funext y s2
  conv => lhs; unfold W; dsimp only
  by_cases h : isI C "__eq__" x s2 ∧ isI C "__eq__" y s2
  · rw [if_pos h, if_pos h]
    unfold WF
    cases fn [x, y] s2.sto <;> rfl
  · rw [if_neg h, if_neg h]
theorem W_setFld {C f mv mo} : W (mSetFld C f mv mo) s R = W mv s fun v s1 => W mo s1 fun o s2 => match o with
    | .ref j => match s2.sto[j]? with
      | some (.ins c fs) => if c = C ∧ fs.length < 100 then R .nx { s2 with sto := s2.sto.set j (.ins c (putI f v fs)) } else False
      | _ => False
    | _ => False := by
  unfold mSetFld; simp only [W_bind]; congr; funext v s1; congr; funext o s2
  unfold W
  cases o with
  | ref j =>
    dsimp only
    cases s2.sto[j]? with
    | none => rfl
    | some x => cases x with
      | ins c fs => dsimp only; by_cases h : c = C ∧ fs.length < 100
                    · rw [if_pos h, if_pos h]
                    · rw [if_neg h, if_neg h]
      | _ => rfl
  | _ => rfl
theorem W_makeR {C fn m} : W (mMakeR C fn m) s Q = W m s fun xs s1 => WI (fn xs s1.sto) fun fs μ => Q (.ref μ.length) { s1 with sto := μ ++ [.ins C fs] } := by
  unfold mMakeR; rw [W_bind]; congr; funext xs s1
  unfold W WI
  dsimp only
  cases fn xs s1.sto <;> rfl
theorem W_join {mo me} : W (mJoin mo me) s Q = W mo s fun x s1 => match x with
    | .str a => W me s1 fun y s2 => W (M.opt (joinV a y)) s2 Q
    | _ => False := by
  unfold mJoin; rw [W_bind]; congr; funext x s1
  cases x with
  | str a => exact W_bind
  | _ => rfl
theorem W_split {mo me} : W (mSplit mo me) s Q = W mo s fun x s1 => match x with
    | .str a => W me s1 fun y s2 => W (M.opt (splitV a y)) s2 Q
    | _ => False := by
  unfold mSplit; rw [W_bind]; congr; funext x s1
  cases x with
  | str a => exact W_bind
  | _ => rfl
theorem W_ifL {t} {a b : M (List IV)} : W (mIfL t a b) s L = W t s fun c s1 => if c = true then W a s1 L else W b s1 L := W_ifB
theorem W_extM {i : Nat} {m} : W (mExt i m) s R = match s.env[i]? with
    | some (.own _) => W m s fun k s1 => match s1.env[i]? with
      | some (.own l) => if l.length + k.length ≤ szl then R .nx (setE i (.own (l ++ k)) s1) else False
      | _ => False
    | _ => False := by
  unfold mExt
  conv => lhs; unfold W; dsimp only
  cases s.env[i]? with
  | none => rfl
  | some x => cases x with
    | own l =>
      dsimp only
      show W (M.bind m _) s R = _
      rw [W_bind]
      congr; funext y s1
      unfold W
      dsimp only
      cases s1.env[i]? with
      | none => rfl
      | some x => cases x with
        | own l => dsimp only; by_cases h : l.length + y.length ≤ szl
                   · rw [if_pos h, if_pos h]
                   · rw [if_neg h, if_neg h]
        | _ => rfl
    | _ => rfl
theorem W_itK {m} : W (mItK m) s L = W m s fun x s1 => match x with
    | .ktup l => L l s1
    | _ => False := by
  unfold mItK; rw [W_bind]; congr; funext x s1; cases x <;> rfl
theorem W_menu {k1 k2 m1 m2 mk md} : W (mMenu k1 k2 m1 m2 mk md) s Q = W m1 s fun x s1 => W m2 s1 fun y s2 => W mk s2 fun k s3 => W md s3 fun d s4 => match k with
    | .str z => Q (if z = k1 then x else if z = k2 then y else d) s4
    | _ => False := by
  unfold mMenu; simp only [W_bind, W_nox, W_pure]
  congr; funext x s1; congr; funext y s2; congr; funext k s3; congr; funext d s4
  cases k <;> rfl
end
/-! ### texts by their signs -/
abbrev tx (l : List Nat) : Str := ⟨l.toArray⟩
theorem tx_of (z : Str) : z = tx z.cps.toList := by
  obtain ⟨a⟩ := z
  simp
theorem tx_cps (l : List Nat) : (tx l).cps.toList = l := by simp
theorem tx_len (l : List Nat) : (tx l).length = l.length := by simp [Str.length]
theorem tx_app (a b : List Nat) : tx a ++ tx b = tx (a ++ b) := by
  show (⟨a.toArray ++ b.toArray⟩ : Str) = ⟨(a ++ b).toArray⟩
  simp
theorem tx_inj {a b : List Nat} : tx a = tx b ↔ a = b := ⟨fun h => by rw [← tx_cps a, h, tx_cps], fun h => by rw [h]⟩
theorem tx_beq (a b : List Nat) : (tx a == tx b) = decide (a = b) := by
  by_cases h : a = b
  · subst h; simp
  · rw [decide_eq_false h]
    exact beq_eq_false_iff_ne.mpr fun z => h (tx_inj.mp z)
theorem cut_ix (n : Nat) (d p : Nat) : HT.sIx n d (some (p : Int)) = min p n := by
  simp only [HT.sIx]
  split <;> omega
theorem cut_from (l : List Nat) (p : Nat) : cutS (tx l) (some (p : Int)) none = tx (l.drop p) := by
  unfold cutS
  rw [cut_ix, tx_cps, tx_len]
  simp only [HT.sIx]
  congr 2
  by_cases h : p ≤ l.length
  · rw [Nat.min_eq_left h, List.take_of_length_le (by simp)]
  · rw [Nat.min_eq_right (by omega), List.drop_eq_nil_of_le (Nat.le_refl _), List.drop_eq_nil_of_le (by omega)]; simp
theorem cut_to (l : List Nat) (q : Nat) : cutS (tx l) none (some (q : Int)) = tx (l.take q) := by
  unfold cutS
  rw [cut_ix, tx_cps, tx_len]
  simp only [HT.sIx]
  congr 2
  simp only [List.drop_zero, Nat.sub_zero]
  by_cases h : q ≤ l.length
  · rw [Nat.min_eq_left h]
  · rw [Nat.min_eq_right (by omega), List.take_of_length_le (Nat.le_refl _), List.take_of_length_le (by omega)]
theorem cut_mid (l : List Nat) (p q : Nat) (h : q ≤ l.length) (hp : p ≤ q) : cutS (tx l) (some (p : Int)) (some (q : Int)) = tx ((l.drop p).take (q - p)) := by
  unfold cutS
  rw [cut_ix, cut_ix, tx_cps, tx_len, Nat.min_eq_left h, Nat.min_eq_left (Nat.le_trans hp h)]
theorem sgn_tx (l : List Nat) : sgnL (tx l) = l.map fun c => IV.str (tx [c]) := by
  unfold sgnL
  rw [tx_cps]
end Mi
set_option Elab.async false
set_option linter.all false
set_option maxRecDepth 100000
set_option maxHeartbeats 4000000
open PySem L2 Mi PyProof.Rows
namespace Lw
def topS (i : Nat) : Stmt := PySem.Challenge.pw_farlayout_k03_texts_of_documents.main.body.getD i (.Pass ⟨0, 0, 0, 0⟩)
abbrev fuel : Nat := 1000000000000
structure Ad where
  Doc : Addr
  LineReader : Addr
  MOST_SIGNS : Addr
  SIZES : Addr
  WORDS : Addr

def tab_MOST_SIGNS : List (Str × Int) := [("text", 20), ("line", 3)]
def tab_SIZES : List (Str × Int) := [("text", 2), ("line", 2), ("hard", 1), ("cat", 2), ("nest", 3), ("align", 2), ("group", 2)]
def ktup_WORDS : List IV := [.str "text", .str "line", .str "hard", .str "cat", .str "nest", .str "align", .str "group"]
structure Txt (K : PySem.W.Frag) (w : World) (mg : Str → Option Value) (Z : Ad) : Prop where
  n_all : mg "all" = none
  n_bool : mg "bool" = none
  n_enumerate : mg "enumerate" = none
  n_int : mg "int" = none
  n_isinstance : mg "isinstance" = none
  n_len : mg "len" = none
  n_list : mg "list" = none
  n_max : mg "max" = none
  n_range : mg "range" = none
  n_str : mg "str" = none
  n_tuple : mg "tuple" = none
  c_MOST_NEST : ∃ t, mg "MOST_NEST" = some (.int 8 t)
  c_MOST_PARTS : ∃ t, mg "MOST_PARTS" = some (.int 8 t)
  c_MOST_ROWS : ∃ t, mg "MOST_ROWS" = some (.int 200 t)
  g_Doc : mg "Doc" = some (.ref Z.Doc)
  o_Doc : ∃ o, K.lookup Z.Doc = some o
  cl_Doc : Cls K Z.Doc
  g_LineReader : mg "LineReader" = some (.ref Z.LineReader)
  o_LineReader : ∃ o, K.lookup Z.LineReader = some o
  cl_LineReader : Cls K Z.LineReader
  na_Doc_layouts : NoAttr K Z.Doc "layouts"
  na_Doc_rows : NoAttr K Z.Doc "rows"
  na_LineReader_line : NoAttr K Z.LineReader "line"
  na_LineReader_number : NoAttr K Z.LineReader "number"
  na_LineReader_place : NoAttr K Z.LineReader "place"
  is_Doc : IsC K Z.Doc [Z.Doc]
  g_MOST_SIGNS : mg "MOST_SIGNS" = some (.ref Z.MOST_SIGNS)
  t_MOST_SIGNS : KTab K w Z.MOST_SIGNS tab_MOST_SIGNS
  g_SIZES : mg "SIZES" = some (.ref Z.SIZES)
  t_SIZES : KTab K w Z.SIZES tab_SIZES
  g_WORDS : mg "WORDS" = some (.ref Z.WORDS)
  t_WORDS : KTup K Z.WORDS ktup_WORDS
section
variable {P : Program} {w : World} {K : PySem.W.Frag} {mg : Str → Option Value} {base : Heap} {Z : Ad}
abbrev s_is_integer : Stmt := topS 6
theorem sc_is_integer : FnScope ["value"] ["value"] (defScope s_is_integer) := ⟨rfl, rfl, rfl, by decide +kernel, rfl, by decide +kernel, by decide +kernel⟩
def m_is_integer (Z : Ad) : M Flw := mRet (mAndV (mAp isiV (mCons (mVar 0) (mCons (mC (.ty "int")) (mNil)))) (mNotV (mAp isiV (mCons (mVar 0) (mCons (mC (.ty "bool")) (mNil))))))
def fn_is_integer (Z : Ad) : Fn := ar 1 (runF 1 (m_is_integer Z))
theorem ok_is_integer {f : Addr} {fd : FuncData} (F : Fun K "is_integer" "is_integer" s_is_integer f fd) (T : Txt K w mg Z) : FnOk P w K mg base CX0 1 f fd ["value"] (spF K (fn_is_integer Z)) := by
  have S := sc_is_integer
  exact okM0 (k := 0) F S fun cdv A outer s H E Θ hr hK hE => (ss_one (s_ret (e_and (e_callB call_isi (isiV_ok hK) rfl T.n_isinstance (by rfl) (a_cons (e_var 0) (a_cons (e_bty rfl T.n_int (by rfl)) a_nil))) (e_one (e_not (e_callB call_isi (isiV_ok hK) rfl T.n_isinstance (by rfl) (a_cons (e_var 0) (a_cons (e_bty rfl T.n_bool (by rfl)) a_nil))))))))
abbrev s_is_signs : Stmt := topS 14
theorem sc_is_signs : FnScope ["value", "most", "sign"] ["value", "most"] (defScope s_is_signs) := ⟨rfl, rfl, rfl, by decide +kernel, rfl, by decide +kernel, by decide +kernel⟩
def m_is_signs (Z : Ad) : M Flw := mRet (mAndV (mAp isiV (mCons (mVar 0) (mCons (mC (.ty "str")) (mNil)))) (mAndV (mOp leV (mAp lenV (mCons (mVar 0) (mNil))) (mVar 1)) (mAp allV (mCons (mFl (mComp [2] (mItS (mVar 0)) (gSet 2) (tYesM) (mChain leV leV (mC (.str " ")) (mVar 2) (mC (.str "~"))))) (mNil)))))
def fn_is_signs (Z : Ad) : Fn := ar 2 (runF 3 (m_is_signs Z))
theorem ok_is_signs {f : Addr} {fd : FuncData} (F : Fun K "is_signs" "is_signs" s_is_signs f fd) (T : Txt K w mg Z) : FnOk P w K mg base CX0 1 f fd ["value", "most"] (spF K (fn_is_signs Z)) := by
  have S := sc_is_signs
  exact okM0 (k := 0) F S fun cdv A outer s H E Θ hr hK hE => (ss_one (s_ret (e_and (e_callB call_isi (isiV_ok hK) rfl T.n_isinstance (by rfl) (a_cons (e_var 0) (a_cons (e_bty rfl T.n_str (by rfl)) a_nil))) (e_and (e_cmp op_leV cmpV_ok (e_callB call_lenV (lenV_ok hK) rfl T.n_len (by rfl) (a_cons (e_var 0) a_nil)) (e_var 1) (nomark _)) (e_one (e_callB (cr_all rfl) (allV_ok hK) rfl T.n_all (by rfl) (a_cons (e_new (n_comp (own := [("sign", 2)]) (us := [2]) (g := gSet 2) (t := tYesM) (me := mChain leV leV (mC (.str " ")) (mVar 2) (mC (.str "~"))) rfl S.nd hK (i_str (e_var 0)) (blkOk_by (N := ["value", "most", "sign"]) (sc := defScope s_is_signs) (by decide +kernel)) (by decide) (fun _ _ _ _ _ Θ2 hS => by have hK := hS.1; have hE := hS.2; exact (g_name (i := 2) S.nd rfl (by first | exact Or.inl rfl | exact Or.inr rfl))) (fun _ _ _ _ _ Θ2 hS => by have hK := hS.1; have hE := hS.2; exact p_none) (fun _ _ _ _ _ Θ2 hS => by have hK := hS.1; have hE := hS.2; exact (e_chain op_leV cmpV_ok op_leV cmpV_ok e_str (e_var 2) e_str)))) a_nil)))))))
abbrev s_copied_row : Stmt := topS 16
theorem sc_copied_row : FnScope ["row"] ["row"] (defScope s_copied_row) := ⟨rfl, rfl, rfl, by decide +kernel, rfl, by decide +kernel, by decide +kernel⟩
def m_copied_row (Z : Ad) : M Flw := mRet (mIfE (mTst (mOp eqV (mIx (mVar 0) (mC (.int 0))) (mC (.str "cat")))) (mAp tupV (mCons (mC (.str "cat")) (mCons (mAp listV (mCons (mIx (mVar 0) (mC (.int 1))) (mNil))) (mNil)))) (mVar 0))
def fn_copied_row (Z : Ad) : Fn := ar 1 (runF 1 (m_copied_row Z))
theorem ok_copied_row {f : Addr} {fd : FuncData} (F : Fun K "copied_row" "copied_row" s_copied_row f fd) (T : Txt K w mg Z) : FnOk P w K mg base CX0 1 f fd ["row"] (spF K (fn_copied_row Z)) := by
  have S := sc_copied_row
  exact okM0 (k := 0) F S fun cdv A outer s H E Θ hr hK hE => (ss_one (s_ret (e_ifExp (t_cmp (op_eqV' hr.units) (eqV_ok hK) (e_ixM hK (e_var 0) e_int (fun _ _ => rfl)) e_str (nomark _)) (e_tup (a_cons e_str (a_cons (e_callTy call_list_of (listV_ok hK) rfl T.n_list (by rfl) (a_cons (e_ixM hK (e_var 0) e_int (fun _ _ => rfl)) a_nil)) a_nil))) (e_var 0))))
abbrev s_Doc___eq__ : Stmt := inClass (topS 17) 1
theorem sc_Doc___eq__ : FnScope ["self", "other"] ["self", "other"] (defScope s_Doc___eq__) := ⟨rfl, rfl, rfl, by decide +kernel, rfl, by decide +kernel, by decide +kernel⟩
def m_Doc___eq__ (Z : Ad) : M Flw := mRet (mAndV (mAp (isiC Z.Doc [Z.Doc]) (mCons (mVar 1) (mCons (mC (.adr Z.Doc)) (mNil)))) (mOp eqV (mFld Z.Doc "rows" (mVar 0)) (mFld Z.Doc "rows" (mVar 1))))
def fn_Doc___eq__ (Z : Ad) : Fn := ar 2 (runF 2 (m_Doc___eq__ Z))
theorem ok_Doc___eq__ {f : Addr} {fd : FuncData} (F : Fun K "__eq__" "Doc.__eq__" s_Doc___eq__ f fd) (T : Txt K w mg Z) : FnOk P w K mg base CX0 1 f fd ["self", "other"] (spF K (fn_Doc___eq__ Z)) := by
  have S := sc_Doc___eq__
  exact okM0 (k := 0) F S fun cdv A outer s H E Θ hr hK hE => (ss_one (s_ret (e_and (e_callB call_isi (isiC_ok hK T.is_Doc) rfl T.n_isinstance (by rfl) (a_cons (e_var 1) (a_cons (e_gadr hK T.g_Doc T.o_Doc rfl) a_nil))) (e_one (e_cmp (op_eqV' hr.units) (eqV_ok hK) (e_fld hK T.cl_Doc T.na_Doc_rows (e_var 0)) (e_fld hK T.cl_Doc T.na_Doc_rows (e_var 1)) (nomark _))))))
abbrev s_check_doc : Stmt := topS 18
theorem sc_check_doc : FnScope ["doc"] ["doc"] (defScope s_check_doc) := ⟨rfl, rfl, rfl, by decide +kernel, rfl, by decide +kernel, by decide +kernel⟩
def m_check_doc (Z : Ad) : M Flw := mIf (mNotT (mTst (mAp (isiC Z.Doc [Z.Doc]) (mCons (mVar 0) (mCons (mC (.adr Z.Doc)) (mNil)))))) (mNever) (mNx)
def fn_check_doc (Z : Ad) : Fn := ar 1 (runF 1 (m_check_doc Z))
theorem ok_check_doc {f : Addr} {fd : FuncData} (F : Fun K "check_doc" "check_doc" s_check_doc f fd) (T : Txt K w mg Z) : FnOk P w K mg base CX0 1 f fd ["doc"] (spF K (fn_check_doc Z)) := by
  have S := sc_check_doc
  exact okM0 (k := 0) F S fun cdv A outer s H E Θ hr hK hE => (ss_one (s_if (t_not (t_val (e_callB call_isi (isiC_ok hK T.is_Doc) rfl T.n_isinstance (by rfl) (a_cons (e_var 0) (a_cons (e_gadr hK T.g_Doc T.o_Doc rfl) a_nil))))) (ss_one s_never) ss_nil))
abbrev s_line_of : Stmt := topS 21
theorem sc_line_of : FnScope ["row", "part"] ["row"] (defScope s_line_of) := ⟨rfl, rfl, rfl, by decide +kernel, rfl, by decide +kernel, by decide +kernel⟩
def m_line_of (Z : Ad) : M Flw := mSeq (mIf (mTst (mUn (tabIn false tab_MOST_SIGNS) (mIx (mVar 0) (mC (.int 0))))) (mRet (mOp addV (mOp addV (mIx (mVar 0) (mC (.int 0))) (mC (.str " "))) (mIx (mVar 0) (mC (.int 1))))) (mNx)) (mSeq (mIf (mTst (mOp eqV (mIx (mVar 0) (mC (.int 0))) (mC (.str "cat")))) (mRet (mJoin (mC (.str " ")) (mOp addV (mAp lstV (mCons (mC (.str "cat")) (mNil))) (mFl (mComp [1] (mItL (mIx (mVar 0) (mC (.int 1)))) (gSet 1) (tYesM) (mAp strV (mCons (mVar 1) (mNil)))))))) (mNx)) (mRet (mJoin (mC (.str " ")) (mFl (mComp [1] (mItT (mVar 0)) (gSet 1) (tYesM) (mAp strV (mCons (mVar 1) (mNil))))))))
def fn_line_of (Z : Ad) : Fn := ar 1 (runF 2 (m_line_of Z))
theorem ok_line_of {f : Addr} {fd : FuncData} (F : Fun K "line_of" "line_of" s_line_of f fd) (T : Txt K w mg Z) : FnOk P w K mg base CX0 1 f fd ["row"] (spF K (fn_line_of Z)) := by
  have S := sc_line_of
  exact okM0 (k := 0) F S fun cdv A outer s H E Θ hr hK hE => (ss_cons (s_if (t_tabIn T.t_MOST_SIGNS (e_ixM hK (e_var 0) e_int (fun _ _ => rfl)) rfl T.g_MOST_SIGNS) (ss_one (s_ret (e_add hK (e_add hK (e_ixM hK (e_var 0) e_int (fun _ _ => rfl)) e_str) (e_ixM hK (e_var 0) e_int (fun _ _ => rfl))))) ss_nil) (ss_cons (s_if (t_cmp (op_eqV' hr.units) (eqV_ok hK) (e_ixM hK (e_var 0) e_int (fun _ _ => rfl)) e_str (nomark _)) (ss_one (s_ret (e_join hK e_str (e_add hK (e_lst (a_cons e_str a_nil)) (e_new (n_comp (own := [("part", 1)]) (us := [1]) (g := gSet 1) (t := tYesM) (me := mAp strV (mCons (mVar 1) (mNil))) rfl S.nd hK (i_list hK (e_ixM hK (e_var 0) e_int (fun _ _ => rfl))) (blkOk_by (N := ["row", "part"]) (sc := defScope s_line_of) (by decide +kernel)) (by decide) (fun _ _ _ _ _ Θ2 hS => by have hK := hS.1; have hE := hS.2; exact (g_name (i := 1) S.nd rfl (by first | exact Or.inl rfl | exact Or.inr rfl))) (fun _ _ _ _ _ Θ2 hS => by have hK := hS.1; have hE := hS.2; exact p_none) (fun _ _ _ _ _ Θ2 hS => by have hK := hS.1; have hE := hS.2; exact (e_callTy call_strV strV_ok rfl T.n_str (by rfl) (a_cons (e_var 1) a_nil))))))))) ss_nil) (ss_one (s_ret (e_join hK e_str (e_new (n_comp (own := [("part", 1)]) (us := [1]) (g := gSet 1) (t := tYesM) (me := mAp strV (mCons (mVar 1) (mNil))) rfl S.nd hK (i_tup hK (e_var 0)) (blkOk_by (N := ["row", "part"]) (sc := defScope s_line_of) (by decide +kernel)) (by decide) (fun _ _ _ _ _ Θ2 hS => by have hK := hS.1; have hE := hS.2; exact (g_name (i := 1) S.nd rfl (by first | exact Or.inl rfl | exact Or.inr rfl))) (fun _ _ _ _ _ Θ2 hS => by have hK := hS.1; have hE := hS.2; exact p_none) (fun _ _ _ _ _ Θ2 hS => by have hK := hS.1; have hE := hS.2; exact (e_callTy call_strV strV_ok rfl T.n_str (by rfl) (a_cons (e_var 1) a_nil))))))))))
abbrev s_is_number : Stmt := topS 23
theorem sc_is_number : FnScope ["word", "high", "sign"] ["word", "high"] (defScope s_is_number) := ⟨rfl, rfl, rfl, by decide +kernel, rfl, by decide +kernel, by decide +kernel⟩
def m_is_number (Z : Ad) : M Flw := mSeq (mIf (mOrT (mTst (mOp eqV (mVar 0) (mC (.str "")))) (mOrT (mNotT (mTst (mAp allV (mCons (mFl (mComp [2] (mItS (mVar 0)) (gSet 2) (tYesM) (mOp inS (mVar 2) (mC (.str "0123456789"))))) (mNil))))) (mTst (mOp gtV (mAp lenV (mCons (mVar 0) (mNil))) (mC (.int 3)))))) (mRet (mC (.bl false))) (mNx)) (mRet (mAndV (mOrV (mOp eqV (mVar 0) (mC (.str "0"))) (mOp neV (mIx (mVar 0) (mC (.int 0))) (mC (.str "0")))) (mOp leV (mAp int10 (mCons (mVar 0) (mCons (mC (.int 10)) (mNil)))) (mVar 1))))
def fn_is_number (Z : Ad) : Fn := ar 2 (runF 3 (m_is_number Z))
theorem ok_is_number {f : Addr} {fd : FuncData} (F : Fun K "is_number" "is_number" s_is_number f fd) (T : Txt K w mg Z) : FnOk P w K mg base CX0 1 f fd ["word", "high"] (spF K (fn_is_number Z)) := by
  have S := sc_is_number
  exact okM0 (k := 0) F S fun cdv A outer s H E Θ hr hK hE => (ss_cons (s_if (PW.pt (w_or (t_cmp (op_eqV' hr.units) (eqV_ok hK) (e_var 0) e_str (nomark _)) (w_or (t_not (t_val (e_callB (cr_all rfl) (allV_ok hK) rfl T.n_all (by rfl) (a_cons (e_new (n_comp (own := [("sign", 2)]) (us := [2]) (g := gSet 2) (t := tYesM) (me := mOp inS (mVar 2) (mC (.str "0123456789"))) rfl S.nd hK (i_str (e_var 0)) (blkOk_by (N := ["word", "high", "sign"]) (sc := defScope s_is_number) (by decide +kernel)) (by decide) (fun _ _ _ _ _ Θ2 hS => by have hK := hS.1; have hE := hS.2; exact (g_name (i := 2) S.nd rfl (by first | exact Or.inl rfl | exact Or.inr rfl))) (fun _ _ _ _ _ Θ2 hS => by have hK := hS.1; have hE := hS.2; exact p_none) (fun _ _ _ _ _ Θ2 hS => by have hK := hS.1; have hE := hS.2; exact (e_cmp op_in_sign inS_ok (e_var 2) e_str (by with_unfolding_all rfl))))) a_nil)))) (w_or1 (t_cmp op_gtV cmpV_ok (e_callB call_lenV (lenV_ok hK) rfl T.n_len (by rfl) (a_cons (e_var 0) a_nil)) e_int (nomark _)))))) (ss_one (s_ret e_bl)) ss_nil) (ss_one (s_ret (e_and (e_or (e_cmp (op_eqV' hr.units) (eqV_ok hK) (e_var 0) e_str (nomark _)) (e_one (e_cmp (op_neV' hr.units) (neV_ok hK) (e_ixM hK (e_var 0) e_int (fun _ _ => rfl)) e_str (nomark _)))) (e_one (e_cmp op_leV cmpV_ok (e_callTy call_int_ten int10_ok rfl T.n_int (by rfl) (a_cons (e_var 0) (a_cons e_int a_nil))) (e_var 1) (nomark _)))))))
abbrev s_LineReader___init__ : Stmt := inClass (topS 24) 0
theorem sc_LineReader___init__ : FnScope ["self", "line", "number"] ["self", "line", "number"] (defScope s_LineReader___init__) := ⟨rfl, rfl, rfl, by decide +kernel, rfl, by decide +kernel, by decide +kernel⟩
def m_LineReader___init__ (Z : Ad) : M Flw := mSeq (mSelf Z.LineReader "line" (mVar 1)) (mSeq (mSelf Z.LineReader "number" (mVar 2)) (mSelf Z.LineReader "place" (mC (.int 0))))
def fn_LineReader___init__ (Z : Ad) : FnI := runI 3 3 Z.LineReader (m_LineReader___init__ Z)
theorem ok_LineReader___init__ {f : Addr} {fd : FuncData} (F : Fun K "__init__" "LineReader.__init__" s_LineReader___init__ f fd) (T : Txt K w mg Z) : FnOk P w K mg base CX0 1 f fd ["self", "line", "number"] (spIR K Z.LineReader (fn_LineReader___init__ Z)) := by
  have S := sc_LineReader___init__
  exact okIR0 (C := Z.LineReader) (k := 0) F S fun cdv A outer s H E Θ hr hK hE => (ss_cons (s_self (C := Z.LineReader) rfl (Or.inl rfl) T.cl_LineReader T.na_LineReader_line (e_var 1) rfl) (ss_cons (s_self (C := Z.LineReader) rfl (Or.inl rfl) T.cl_LineReader T.na_LineReader_number (e_var 2) rfl) (ss_one (s_self (C := Z.LineReader) rfl (Or.inl rfl) T.cl_LineReader T.na_LineReader_place e_int rfl))))
abbrev s_LineReader_rest : Stmt := inClass (topS 24) 1
theorem sc_LineReader_rest : FnScope ["self"] ["self"] (defScope s_LineReader_rest) := ⟨rfl, rfl, rfl, by decide +kernel, rfl, by decide +kernel, by decide +kernel⟩
def m_LineReader_rest (Z : Ad) : M Flw := mRet (mSl (mFld Z.LineReader "line" (mVar 0)) (mPart (mFld Z.LineReader "place" (mVar 0))) mNoPart)
def fn_LineReader_rest (Z : Ad) : Fn := ar 1 (runF 1 (m_LineReader_rest Z))
theorem ok_LineReader_rest {f : Addr} {fd : FuncData} (F : Fun K "rest" "LineReader.rest" s_LineReader_rest f fd) (T : Txt K w mg Z) : FnOk P w K mg base CX0 1 f fd ["self"] (spF K (fn_LineReader_rest Z)) := by
  have S := sc_LineReader_rest
  exact okM0 (k := 0) F S fun cdv A outer s H E Θ hr hK hE => (ss_one (s_ret (e_slice hK (e_fld hK T.cl_LineReader T.na_LineReader_line (e_var 0)) (o_some (e_fld hK T.cl_LineReader T.na_LineReader_place (e_var 0))) o_none)))
abbrev s__law_cell_at : Stmt := topS 27
theorem sc__law_cell_at : FnScope ["_law_script", "_law_k"] ["_law_script", "_law_k"] (defScope s__law_cell_at) := ⟨rfl, rfl, rfl, by decide +kernel, rfl, by decide +kernel, by decide +kernel⟩
def m__law_cell_at (Z : Ad) : M Flw := mSeq (mIf (mTst (mOp ltV (mVar 1) (mAp lenV (mCons (mVar 0) (mNil))))) (mRet (mIx (mVar 0) (mVar 1))) (mNx)) (mRet (mC (.int 0)))
def fn__law_cell_at (Z : Ad) : Fn := ar 2 (runF 2 (m__law_cell_at Z))
theorem ok__law_cell_at {f : Addr} {fd : FuncData} (F : Fun K "_law_cell_at" "_law_cell_at" s__law_cell_at f fd) (T : Txt K w mg Z) : FnOk P w K mg base CX0 1 f fd ["_law_script", "_law_k"] (spF K (fn__law_cell_at Z)) := by
  have S := sc__law_cell_at
  exact okM0 (k := 0) F S fun cdv A outer s H E Θ hr hK hE => (ss_cons (s_if (t_cmp op_ltV cmpV_ok (e_var 1) (e_callB call_lenV (lenV_ok hK) rfl T.n_len (by rfl) (a_cons (e_var 0) a_nil)) (nomark _)) (ss_one (s_ret (e_ixM hK (e_var 0) (e_var 1) (fun _ _ => rfl)))) ss_nil) (ss_one (s_ret e_int)))
abbrev s__law_source_of : Stmt := topS 28
theorem sc__law_source_of : FnScope ["_law_cell"] ["_law_cell"] (defScope s__law_source_of) := ⟨rfl, rfl, rfl, by decide +kernel, rfl, by decide +kernel, by decide +kernel⟩
def m__law_source_of (Z : Ad) : M Flw := mSeq (mSet 0 (mIfE (mTst (mOp geV (mVar 0) (mC (.int 0)))) (mVar 0) (mOp subV (mOp subV (mC (.int 0)) (mOp mulV (mC (.int 3)) (mVar 0))) (mC (.int 1))))) (mRet (mRf (mApL szL (mCons (mOp mulV (mVar 0) (mAp intV (mCons (mOp geV (mVar 0) (mOp powV (mC (.int 10)) (mC (.int 18)))) (mNil)))) (mCons (mOp modV (mAp intV (mCons (mVar 0) (mNil))) (mC (.int 2147483647))) (mCons (mC (.int 0)) (mNil)))))))
def fn__law_source_of (Z : Ad) : Fn := ar 1 (runF 1 (m__law_source_of Z))
theorem ok__law_source_of {f : Addr} {fd : FuncData} (F : Fun K "_law_source_of" "_law_source_of" s__law_source_of f fd) (T : Txt K w mg Z) : FnOk P w K mg base CX0 1 f fd ["_law_cell"] (spF K (fn__law_source_of Z)) := by
  have S := sc__law_source_of
  exact okM0 (k := 0) F S fun cdv A outer s H E Θ hr hK hE => (ss_cons (s_set (i := 0) S.nd rfl (by first | exact Or.inl rfl | exact Or.inr rfl) (e_ifExp (t_cmp op_geV cmpV_ok (e_var 0) e_int (nomark _)) (e_var 0) (e_sub (e_sub e_int (e_mul hK e_int (e_var 0))) e_int))) (ss_one (s_ret (e_newR (n_lst (a_cons (e_mul hK (e_var 0) (e_callTy call_int1 intV_ok rfl T.n_int (by rfl) (a_cons (e_cmp op_geV cmpV_ok (e_var 0) (e_pow e_int e_int) (nomark _)) a_nil))) (a_cons (e_mod (e_callTy call_int1 intV_ok rfl T.n_int (by rfl) (a_cons (e_var 0) a_nil)) e_int) (a_cons e_int a_nil))))))))
abbrev s__law_next : Stmt := topS 29
theorem sc__law_next : FnScope ["_law_source", "_law_many", "_law_prime", "_law_number", "_law_found"] ["_law_source", "_law_many"] (defScope s__law_next) := ⟨rfl, rfl, rfl, by decide +kernel, rfl, by decide +kernel, by decide +kernel⟩
def m__law_next_r1 (Z : Ad) : M Flw := mSeq (mSet 3 (mOp modV (mAp intV (mCons (mOp mulV (mVar 3) (mOp addV (mOp divV (mVar 3) (mC (.int 2003))) (mC (.int 40692)))) (mNil))) (mC (.int 2147483399)))) (mRet (mOp modV (mAp intV (mCons (mOp divV (mVar 3) (mC (.int 7))) (mNil))) (mVar 1)))
def m__law_next_r2 (Z : Ad) : M Flw := mSeq (mSet 2 (mC (.int 2147483647))) (mSeq (mSet 3 (mOp modV (mAp intV (mCons (mOp addV (mOp addV (mIx (mVar 0) (mC (.int 1))) (mOp mulV (mC (.int 104729)) (mIx (mVar 0) (mC (.int 2))))) (mC (.int 7919))) (mNil))) (mVar 2))) (mSeq (mSet 3 (mOp modV (mAp intV (mCons (mOp mulV (mVar 3) (mC (.int 48271))) (mNil))) (mVar 2))) (mSeq (mSet 3 (mOp modV (mAp intV (mCons (mOp mulV (mVar 3) (mOp addV (mOp divV (mVar 3) (mC (.int 1009))) (mC (.int 69621)))) (mNil))) (mVar 2))) (m__law_next_r1 Z))))
def m__law_next (Z : Ad) : M Flw := mSeq (mIf (mTst (mOp gtV (mIx (mVar 0) (mC (.int 0))) (mC (.int 0)))) (mSeq (mSet 4 (mOp modV (mAp intV (mCons (mIx (mVar 0) (mC (.int 0))) (mNil))) (mVar 1))) (mSeq (mSetIx (mOp divV (mIx (mVar 0) (mC (.int 0))) (mVar 1)) (mVar 0) (mC (.int 0))) (mRet (mVar 4)))) (mNx)) (mSeq (mSetIx (mOp addV (mIx (mVar 0) (mC (.int 2))) (mC (.int 1))) (mVar 0) (mC (.int 2))) (m__law_next_r2 Z))
def fn__law_next (Z : Ad) : Fn := ar 2 (runF 5 (m__law_next Z))
theorem ok__law_next {f : Addr} {fd : FuncData} (F : Fun K "_law_next" "_law_next" s__law_next f fd) (T : Txt K w mg Z) : FnOk P w K mg base CX0 1 f fd ["_law_source", "_law_many"] (spF K (fn__law_next Z)) := by
  have S := sc__law_next
  exact okM0 (k := 0) F S fun cdv A outer s H E Θ hr hK hE => (ss_cons (s_if (t_cmp op_gtV cmpV_ok (e_ixM hK (e_var 0) e_int (fun _ _ => rfl)) e_int (nomark _)) (ss_cons (s_set (i := 4) S.nd rfl (by first | exact Or.inl rfl | exact Or.inr rfl) (e_mod (e_callTy call_int1 intV_ok rfl T.n_int (by rfl) (a_cons (e_ixM hK (e_var 0) e_int (fun _ _ => rfl)) a_nil)) (e_var 1))) (ss_cons (s_setIx (e_div (e_ixM hK (e_var 0) e_int (fun _ _ => rfl)) (e_var 1)) (e_var 0) e_int) (ss_one (s_ret (e_var 4))))) ss_nil) (ss_cons (s_setIx (e_add hK (e_ixM hK (e_var 0) e_int (fun _ _ => rfl)) e_int) (e_var 0) e_int) (ss_cons (s_set (i := 2) S.nd rfl (by first | exact Or.inl rfl | exact Or.inr rfl) e_int) (ss_cons (s_set (i := 3) S.nd rfl (by first | exact Or.inl rfl | exact Or.inr rfl) (e_mod (e_callTy call_int1 intV_ok rfl T.n_int (by rfl) (a_cons (e_add hK (e_add hK (e_ixM hK (e_var 0) e_int (fun _ _ => rfl)) (e_mul hK e_int (e_ixM hK (e_var 0) e_int (fun _ _ => rfl)))) e_int) a_nil)) (e_var 2))) (ss_cons (s_set (i := 3) S.nd rfl (by first | exact Or.inl rfl | exact Or.inr rfl) (e_mod (e_callTy call_int1 intV_ok rfl T.n_int (by rfl) (a_cons (e_mul hK (e_var 3) e_int) a_nil)) (e_var 2))) (ss_cons (s_set (i := 3) S.nd rfl (by first | exact Or.inl rfl | exact Or.inr rfl) (e_mod (e_callTy call_int1 intV_ok rfl T.n_int (by rfl) (a_cons (e_mul hK (e_var 3) (e_add hK (e_div (e_var 3) e_int) e_int)) a_nil)) (e_var 2))) (ss_cons (s_set (i := 3) S.nd rfl (by first | exact Or.inl rfl | exact Or.inr rfl) (e_mod (e_callTy call_int1 intV_ok rfl T.n_int (by rfl) (a_cons (e_mul hK (e_var 3) (e_add hK (e_div (e_var 3) e_int) e_int)) a_nil)) e_int)) (ss_one (s_ret (e_mod (e_callTy call_int1 intV_ok rfl T.n_int (by rfl) (a_cons (e_div (e_var 3) e_int) a_nil)) (e_var 1)))))))))))
abbrev s__law_line : Stmt := topS 34
theorem sc__law_line : FnScope ["_law_row_here", "_law_some", "_law_part", "_law_one_here"] ["_law_row_here"] (defScope s__law_line) := ⟨rfl, rfl, rfl, by decide +kernel, rfl, by decide +kernel, by decide +kernel⟩
def m__law_line (Z : Ad) : M Flw := mSeq (mIf (mTst (mOp inV' (mIx (mVar 0) (mC (.int 0))) (mAp tupV (mCons (mC (.str "text")) (mCons (mC (.str "line")) (mNil)))))) (mRet (mOp addV (mOp addV (mIx (mVar 0) (mC (.int 0))) (mC (.str " "))) (mIx (mVar 0) (mC (.int 1))))) (mNx)) (mSeq (mOwn 1 (mApL szL (mCons (mIx (mVar 0) (mC (.int 0))) (mNil)))) (mSeq (mFor (mItT (mSl (mVar 0) (mPart (mC (.int 1))) mNoPart)) (gSet 2) (mExt 1 (mIfL (mTst (mOp eqV (mIx (mVar 0) (mC (.int 0))) (mC (.str "cat")))) (mComp [3] (mItL (mVar 2)) (gSet 3) (tYesM) (mAp strV (mCons (mVar 3) (mNil)))) (mApL szL (mCons (mAp strV (mCons (mVar 2) (mNil))) (mNil)))))) (mFz 1 (mRet (mJoin (mC (.str " ")) (mVar 1))))))
def fn__law_line (Z : Ad) : Fn := ar 1 (runF 4 (m__law_line Z))
theorem ok__law_line {f : Addr} {fd : FuncData} (F : Fun K "_law_line" "_law_line" s__law_line f fd) (T : Txt K w mg Z) : FnOk P w K mg base CX0 1 f fd ["_law_row_here"] (spF K (fn__law_line Z)) := by
  have S := sc__law_line
  exact okM0 (k := 0) F S fun cdv A outer s H E Θ hr hK hE => (ss_cons (s_if (t_cmp op_in_seq (inV_ok hK) (e_ixM hK (e_var 0) e_int (fun _ _ => rfl)) (e_tup (a_cons e_str (a_cons e_str a_nil))) (by with_unfolding_all rfl)) (ss_one (s_ret (e_add hK (e_add hK (e_ixM hK (e_var 0) e_int (fun _ _ => rfl)) e_str) (e_ixM hK (e_var 0) e_int (fun _ _ => rfl))))) ss_nil) (ss_cons (s_own (i := 1) S.nd rfl (by first | exact Or.inl rfl | exact Or.inr rfl) (n_lst (a_cons (e_ixM hK (e_var 0) e_int (fun _ _ => rfl)) a_nil))) (ss_cons (s_for PassesOwn.never rfl (i_tup hK (e_slice hK (e_var 0) (o_some e_int) o_none)) (g_name (i := 2) S.nd rfl (by first | exact Or.inl rfl | exact Or.inr rfl)) (ss_one (s_ext (i := 1) rfl (by first | exact Or.inl rfl | exact Or.inr (Or.inl rfl) | exact Or.inr (Or.inr rfl)) (n_if (t_cmp (op_eqV' hr.units) (eqV_ok hK) (e_ixM hK (e_var 0) e_int (fun _ _ => rfl)) e_str (nomark _)) (n_comp (own := [("_law_one_here", 3)]) (us := [3]) (g := gSet 3) (t := tYesM) (me := mAp strV (mCons (mVar 3) (mNil))) rfl S.nd hK (i_list hK (e_var 2)) (blkOk_by (N := ["_law_row_here", "_law_some", "_law_part", "_law_one_here"]) (sc := defScope s__law_line) (by decide +kernel)) (by decide) (fun _ _ _ _ _ Θ2 hS => by have hK := hS.1; have hE := hS.2; exact (g_name (i := 3) S.nd rfl (by first | exact Or.inl rfl | exact Or.inr rfl))) (fun _ _ _ _ _ Θ2 hS => by have hK := hS.1; have hE := hS.2; exact p_none) (fun _ _ _ _ _ Θ2 hS => by have hK := hS.1; have hE := hS.2; exact (e_callTy call_strV strV_ok rfl T.n_str (by rfl) (a_cons (e_var 3) a_nil)))) (n_lst (a_cons (e_callTy call_strV strV_ok rfl T.n_str (by rfl) (a_cons (e_var 2) a_nil)) a_nil)))))) (ss_fz (i := 1) (ss_one (s_ret (e_join hK e_str (e_var 1))))))))
abbrev s_is_between : Stmt := topS 7
theorem sc_is_between : FnScope ["value", "low", "high"] ["value", "low", "high"] (defScope s_is_between) := ⟨rfl, rfl, rfl, by decide +kernel, rfl, by decide +kernel, by decide +kernel⟩
def m_is_between (Z : Ad) : M Flw := mRet (mAndV (mCall (fn_is_integer Z) (mCons (mVar 0) (mNil))) (mChain leV leV (mVar 1) (mVar 0) (mVar 2)))
def fn_is_between (Z : Ad) : Fn := ar 3 (runF 3 (m_is_between Z))
theorem ok_is_between {f : Addr} {fd : FuncData} (F : Fun K "is_between" "is_between" s_is_between f fd) (T : Txt K w mg Z) {f_is_integer : Addr} {d_is_integer : FuncData} (B_is_integer : FnB K mg "is_integer" s_is_integer ["value"] f_is_integer d_is_integer) (G_is_integer : FnOk P w K mg base CX0 1 f_is_integer d_is_integer ["value"] (spF K (fn_is_integer Z))) : FnOk P w K mg base CX0 2 f fd ["value", "low", "high"] (spF K (fn_is_between Z)) := by
  have S := sc_is_between
  exact okM0 (k := 1) F S fun cdv A outer s H E Θ hr hK hE => (ss_one (s_ret (e_and (c_call B_is_integer G_is_integer hr (by decide) rfl hK hE (a_cons (e_var 0) a_nil)) (e_one (e_chain op_leV cmpV_ok op_leV cmpV_ok (e_var 1) (e_var 0) (e_var 2))))))
abbrev s_Doc_row_list : Stmt := inClass (topS 17) 2
theorem sc_Doc_row_list : FnScope ["self", "row"] ["self"] (defScope s_Doc_row_list) := ⟨rfl, rfl, rfl, by decide +kernel, rfl, by decide +kernel, by decide +kernel⟩
def m_Doc_row_list (Z : Ad) : M Flw := mRet (mFl (mComp [1] (mItL (mFld Z.Doc "rows" (mVar 0))) (gSet 1) (tYesM) (mCall (fn_copied_row Z) (mCons (mVar 1) (mNil)))))
def fn_Doc_row_list (Z : Ad) : Fn := ar 1 (runF 2 (m_Doc_row_list Z))
theorem ok_Doc_row_list {f : Addr} {fd : FuncData} (F : Fun K "row_list" "Doc.row_list" s_Doc_row_list f fd) (T : Txt K w mg Z) {f_copied_row : Addr} {d_copied_row : FuncData} (B_copied_row : FnB K mg "copied_row" s_copied_row ["row"] f_copied_row d_copied_row) (G_copied_row : FnOk P w K mg base CX0 1 f_copied_row d_copied_row ["row"] (spF K (fn_copied_row Z))) : FnOk P w K mg base CX0 2 f fd ["self"] (spF K (fn_Doc_row_list Z)) := by
  have S := sc_Doc_row_list
  exact okM0 (k := 1) F S fun cdv A outer s H E Θ hr hK hE => (ss_one (s_ret (e_new (n_comp (own := [("row", 1)]) (us := [1]) (g := gSet 1) (t := tYesM) (me := mCall (fn_copied_row Z) (mCons (mVar 1) (mNil))) rfl S.nd hK (i_list hK (e_fld hK T.cl_Doc T.na_Doc_rows (e_var 0))) (blkOk_by (N := ["self", "row"]) (sc := defScope s_Doc_row_list) (by decide +kernel)) (by decide) (fun _ _ _ _ _ Θ2 hS => by have hK := hS.1; have hE := hS.2; exact (g_name (i := 1) S.nd rfl (by first | exact Or.inl rfl | exact Or.inr rfl))) (fun _ _ _ _ _ Θ2 hS => by have hK := hS.1; have hE := hS.2; exact p_none) (fun _ _ _ _ _ Θ2 hS => by have hK := hS.1; have hE := hS.2; exact (c_call B_copied_row G_copied_row hr (by decide) rfl hK hE (a_cons (e_var 1) a_nil)))))))
abbrev s_doc_text : Stmt := topS 22
theorem sc_doc_text : FnScope ["doc", "row"] ["doc"] (defScope s_doc_text) := ⟨rfl, rfl, rfl, by decide +kernel, rfl, by decide +kernel, by decide +kernel⟩
def m_doc_text (Z : Ad) : M Flw := mSeq (mDrop (mCall (fn_check_doc Z) (mCons (mVar 0) (mNil)))) (mRet (mJoin (mC (.str "\n")) (mFl (mComp [1] (mItL (mFld Z.Doc "rows" (mVar 0))) (gSet 1) (tYesM) (mCall (fn_line_of Z) (mCons (mVar 1) (mNil)))))))
def fn_doc_text (Z : Ad) : Fn := ar 1 (runF 2 (m_doc_text Z))
theorem ok_doc_text {f : Addr} {fd : FuncData} (F : Fun K "doc_text" "doc_text" s_doc_text f fd) (T : Txt K w mg Z) {f_check_doc : Addr} {d_check_doc : FuncData} (B_check_doc : FnB K mg "check_doc" s_check_doc ["doc"] f_check_doc d_check_doc) (G_check_doc : FnOk P w K mg base CX0 1 f_check_doc d_check_doc ["doc"] (spF K (fn_check_doc Z))) {f_line_of : Addr} {d_line_of : FuncData} (B_line_of : FnB K mg "line_of" s_line_of ["row"] f_line_of d_line_of) (G_line_of : FnOk P w K mg base CX0 1 f_line_of d_line_of ["row"] (spF K (fn_line_of Z))) : FnOk P w K mg base CX0 2 f fd ["doc"] (spF K (fn_doc_text Z)) := by
  have S := sc_doc_text
  exact okM0 (k := 1) F S fun cdv A outer s H E Θ hr hK hE => (ss_cons (s_drop (c_call B_check_doc G_check_doc hr (by decide) rfl hK hE (a_cons (e_var 0) a_nil))) (ss_one (s_ret (e_join hK e_str (e_new (n_comp (own := [("row", 1)]) (us := [1]) (g := gSet 1) (t := tYesM) (me := mCall (fn_line_of Z) (mCons (mVar 1) (mNil))) rfl S.nd hK (i_list hK (e_fld hK T.cl_Doc T.na_Doc_rows (e_var 0))) (blkOk_by (N := ["doc", "row"]) (sc := defScope s_doc_text) (by decide +kernel)) (by decide) (fun _ _ _ _ _ Θ2 hS => by have hK := hS.1; have hE := hS.2; exact (g_name (i := 1) S.nd rfl (by first | exact Or.inl rfl | exact Or.inr rfl))) (fun _ _ _ _ _ Θ2 hS => by have hK := hS.1; have hE := hS.2; exact p_none) (fun _ _ _ _ _ Θ2 hS => by have hK := hS.1; have hE := hS.2; exact (c_call B_line_of G_line_of hr (by decide) rfl hK hE (a_cons (e_var 1) a_nil)))))))))
abbrev s_LineReader_word : Stmt := inClass (topS 24) 2
theorem sc_LineReader_word : FnScope ["self", "some", "sign", "one"] ["self"] (defScope s_LineReader_word) := ⟨rfl, rfl, rfl, by decide +kernel, rfl, by decide +kernel, by decide +kernel⟩
def m_LineReader_word_s1 (Z : Ad) : M Flw := mSet 1 (mFl (mComp [3] (mItK (mC (.ktup ktup_WORDS))) (gSet 3) (mTst (mOp eqV (mIx (mVar 3) (mC (.int 0))) (mSl (mFld Z.LineReader "line" (mVar 0)) mNoPart (mPart (mC (.int 1)))))) (mVar 3)))
def m_LineReader_word_s2 (Z : Ad) : M Flw := mIf (mOrT (mTst (mOp eqV (mVar 1) (mAp lstV (mNil)))) (mAndT (mTst (mOp inV' (mIx (mVar 1) (mC (.int 0))) (mAp tupV (mCons (mC (.str "nest")) (mCons (mC (.str "align")) (mCons (mC (.str "group")) (mNil))))))) (mTst (mOp eqV (mFld Z.LineReader "number" (mVar 0)) (mC (.int 0)))))) (mRet (mC .non)) (mNx)
def m_LineReader_word_s3 (Z : Ad) : M Flw := mFor (mItS (mIx (mVar 1) (mC (.int 0)))) (gSet 2) (mSeq (mIf (mTst (mOp neV (mSl (mMeth Z.LineReader "rest" (fn_LineReader_rest Z) (mVar 0) mNil) mNoPart (mPart (mC (.int 1)))) (mVar 2))) (mRet (mC .non)) (mNx)) (mSetFld Z.LineReader "place" (mOp addV (mFld Z.LineReader "place" (mVar 0)) (mC (.int 1))) (mVar 0)))
def m_LineReader_word_s4 (Z : Ad) : M Flw := mRet (mIx (mVar 1) (mC (.int 0)))
def m_LineReader_word_r3 (Z : Ad) : M Flw := m_LineReader_word_s4 Z
def m_LineReader_word_r2 (Z : Ad) : M Flw := mSeq (m_LineReader_word_s3 Z) (m_LineReader_word_r3 Z)
def m_LineReader_word_r1 (Z : Ad) : M Flw := mSeq (m_LineReader_word_s2 Z) (m_LineReader_word_r2 Z)
def m_LineReader_word (Z : Ad) : M Flw := mSeq (m_LineReader_word_s1 Z) (m_LineReader_word_r1 Z)
def fn_LineReader_word (Z : Ad) : Fn := ar 1 (runF 4 (m_LineReader_word Z))
theorem ok_LineReader_word {f : Addr} {fd : FuncData} (F : Fun K "word" "LineReader.word" s_LineReader_word f fd) (T : Txt K w mg Z) {f_LineReader_rest : Addr} {d_LineReader_rest : FuncData} (B_LineReader_rest : MtB K "rest" s_LineReader_rest "LineReader.rest" ["self"] Z.LineReader f_LineReader_rest d_LineReader_rest) (G_LineReader_rest : FnOk P w K mg base CX0 1 f_LineReader_rest d_LineReader_rest ["self"] (spF K (fn_LineReader_rest Z))) : FnOk P w K mg base CX0 2 f fd ["self"] (spF K (fn_LineReader_word Z)) := by
  have S := sc_LineReader_word
  exact okM0 (k := 1) F S fun cdv A outer s H E Θ hr hK hE => (ss_cons (s_setC (i := 1) (own := [("one", 3)]) (us := [3]) (g := gSet 3) (t := mTst (mOp eqV (mIx (mVar 3) (mC (.int 0))) (mSl (mFld Z.LineReader "line" (mVar 0)) mNoPart (mPart (mC (.int 1)))))) (me := mVar 3) rfl S.nd hK rfl rfl (sw_true rfl rfl rfl (by decide +kernel)) (i_ktup hK (e_gktup hK T.t_WORDS T.g_WORDS rfl)) (blkOk_by (N := ["self", "some", "sign", "one"]) (sc := defScope s_LineReader_word) (by decide +kernel)) (by decide) (fun _ _ _ _ _ Θ2 hS => by have hK := hS.1; have hE := hS.2; exact (g_name (i := 3) S.nd rfl (by first | exact Or.inl rfl | exact Or.inr rfl))) (fun _ _ _ _ _ Θ2 hS => by have hK := hS.1; have hE := hS.2; exact (p_one (t_cmp (op_eqV' hr.units) (eqV_ok hK) (e_ixM hK (e_var 3) e_int (fun _ _ => rfl)) (e_slice hK (e_fld hK T.cl_LineReader T.na_LineReader_line (e_var 0)) o_none (o_some e_int)) (nomark _)))) (fun _ _ _ _ _ Θ2 hS => by have hK := hS.1; have hE := hS.2; exact (e_var 3))) (ss_cons (s_if (PW.pt (w_or (t_cmp (op_eqV' hr.units) (eqV_ok hK) (e_var 1) (e_lst a_nil) (nomark _)) (w_or1 (PW.pt (w_and (t_cmp op_in_seq (inV_ok hK) (e_ixM hK (e_var 1) e_int (fun _ _ => rfl)) (e_tup (a_cons e_str (a_cons e_str (a_cons e_str a_nil)))) (by with_unfolding_all rfl)) (w_and1 (t_cmp (op_eqV' hr.units) (eqV_ok hK) (e_fld hK T.cl_LineReader T.na_LineReader_number (e_var 0)) e_int (nomark _)))))))) (ss_one (s_ret e_non)) ss_nil) (ss_cons (s_for PassesOwn.never rfl (i_str (e_ixM hK (e_var 1) e_int (fun _ _ => rfl))) (g_name (i := 2) S.nd rfl (by first | exact Or.inl rfl | exact Or.inr rfl)) (ss_cons (s_if (t_cmp (op_neV' hr.units) (neV_ok hK) (e_slice hK (c_meth0 T.cl_LineReader B_LineReader_rest G_LineReader_rest hr (by decide) hK hE (e_var 0)) o_none (o_some e_int)) (e_var 2) (nomark _)) (ss_one (s_ret e_non)) ss_nil) (ss_one (s_setFld T.cl_LineReader T.na_LineReader_place (e_var 0) (e_add hK (e_fld hK T.cl_LineReader T.na_LineReader_place (e_var 0)) e_int))))) (ss_one (s_ret (e_ixM hK (e_var 1) e_int (fun _ _ => rfl)))))))
abbrev s_LineReader_string : Stmt := inClass (topS 24) 3
theorem sc_LineReader_string : FnScope ["self", "most", "begin", "sign"] ["self", "most"] (defScope s_LineReader_string) := ⟨rfl, rfl, rfl, by decide +kernel, rfl, by decide +kernel, by decide +kernel⟩
def m_LineReader_string_s1 (Z : Ad) : M Flw := mIf (mTst (mOp neV (mSl (mMeth Z.LineReader "rest" (fn_LineReader_rest Z) (mVar 0) mNil) mNoPart (mPart (mC (.int 1)))) (mC (.str " ")))) (mRet (mC .non)) (mNx)
def m_LineReader_string_s2 (Z : Ad) : M Flw := mSetFld Z.LineReader "place" (mOp addV (mFld Z.LineReader "place" (mVar 0)) (mC (.int 1))) (mVar 0)
def m_LineReader_string_s3 (Z : Ad) : M Flw := mSet 2 (mFld Z.LineReader "place" (mVar 0))
def m_LineReader_string_s4 (Z : Ad) : M Flw := mFor (mItS (mSl (mMeth Z.LineReader "rest" (fn_LineReader_rest Z) (mVar 0) mNil) mNoPart (mPart (mVar 1)))) (gSet 3) (mSeq (mIf (mNotT (mTst (mChain leV leV (mC (.str " ")) (mVar 3) (mC (.str "~"))))) (mBrk) (mNx)) (mSetFld Z.LineReader "place" (mOp addV (mFld Z.LineReader "place" (mVar 0)) (mC (.int 1))) (mVar 0)))
def m_LineReader_string_s5 (Z : Ad) : M Flw := mRet (mSl (mFld Z.LineReader "line" (mVar 0)) (mPart (mVar 2)) (mPart (mFld Z.LineReader "place" (mVar 0))))
def m_LineReader_string_r4 (Z : Ad) : M Flw := m_LineReader_string_s5 Z
def m_LineReader_string_r3 (Z : Ad) : M Flw := mSeq (m_LineReader_string_s4 Z) (m_LineReader_string_r4 Z)
def m_LineReader_string_r2 (Z : Ad) : M Flw := mSeq (m_LineReader_string_s3 Z) (m_LineReader_string_r3 Z)
def m_LineReader_string_r1 (Z : Ad) : M Flw := mSeq (m_LineReader_string_s2 Z) (m_LineReader_string_r2 Z)
def m_LineReader_string (Z : Ad) : M Flw := mSeq (m_LineReader_string_s1 Z) (m_LineReader_string_r1 Z)
def fn_LineReader_string (Z : Ad) : Fn := ar 2 (runF 4 (m_LineReader_string Z))
theorem ok_LineReader_string {f : Addr} {fd : FuncData} (F : Fun K "string" "LineReader.string" s_LineReader_string f fd) (T : Txt K w mg Z) {f_LineReader_rest : Addr} {d_LineReader_rest : FuncData} (B_LineReader_rest : MtB K "rest" s_LineReader_rest "LineReader.rest" ["self"] Z.LineReader f_LineReader_rest d_LineReader_rest) (G_LineReader_rest : FnOk P w K mg base CX0 1 f_LineReader_rest d_LineReader_rest ["self"] (spF K (fn_LineReader_rest Z))) : FnOk P w K mg base CX0 2 f fd ["self", "most"] (spF K (fn_LineReader_string Z)) := by
  have S := sc_LineReader_string
  exact okM0 (k := 1) F S fun cdv A outer s H E Θ hr hK hE => (ss_cons (s_if (t_cmp (op_neV' hr.units) (neV_ok hK) (e_slice hK (c_meth0 T.cl_LineReader B_LineReader_rest G_LineReader_rest hr (by decide) hK hE (e_var 0)) o_none (o_some e_int)) e_str (nomark _)) (ss_one (s_ret e_non)) ss_nil) (ss_cons (s_setFld T.cl_LineReader T.na_LineReader_place (e_var 0) (e_add hK (e_fld hK T.cl_LineReader T.na_LineReader_place (e_var 0)) e_int)) (ss_cons (s_set (i := 2) S.nd rfl (by first | exact Or.inl rfl | exact Or.inr rfl) (e_fld hK T.cl_LineReader T.na_LineReader_place (e_var 0))) (ss_cons (s_for PassesOwn.never rfl (i_str (e_slice hK (c_meth0 T.cl_LineReader B_LineReader_rest G_LineReader_rest hr (by decide) hK hE (e_var 0)) o_none (o_some (e_var 1)))) (g_name (i := 3) S.nd rfl (by first | exact Or.inl rfl | exact Or.inr rfl)) (ss_cons (s_if (t_not (t_chain op_leV cmpV_ok op_leV cmpV_ok e_str (e_var 3) e_str)) (ss_one s_break) ss_nil) (ss_one (s_setFld T.cl_LineReader T.na_LineReader_place (e_var 0) (e_add hK (e_fld hK T.cl_LineReader T.na_LineReader_place (e_var 0)) e_int))))) (ss_one (s_ret (e_slice hK (e_fld hK T.cl_LineReader T.na_LineReader_line (e_var 0)) (o_some (e_var 2)) (o_some (e_fld hK T.cl_LineReader T.na_LineReader_place (e_var 0))))))))))
abbrev s_LineReader_integer : Stmt := inClass (topS 24) 4
theorem sc_LineReader_integer : FnScope ["self", "high", "found"] ["self", "high"] (defScope s_LineReader_integer) := ⟨rfl, rfl, rfl, by decide +kernel, rfl, by decide +kernel, by decide +kernel⟩
def m_LineReader_integer_s1 (Z : Ad) : M Flw := mIf (mTst (mOp neV (mSl (mMeth Z.LineReader "rest" (fn_LineReader_rest Z) (mVar 0) mNil) mNoPart (mPart (mC (.int 1)))) (mC (.str " ")))) (mRet (mC .non)) (mNx)
def m_LineReader_integer_s2 (Z : Ad) : M Flw := mSetFld Z.LineReader "place" (mOp addV (mFld Z.LineReader "place" (mVar 0)) (mC (.int 1))) (mVar 0)
def m_LineReader_integer_s3 (Z : Ad) : M Flw := mSet 2 (mC (.str ""))
def m_LineReader_integer_s4 (Z : Ad) : M Flw := mWhile fuel (mAndT (mTst (mOp neV (mMeth Z.LineReader "rest" (fn_LineReader_rest Z) (mVar 0) mNil) (mC (.str "")))) (mTst (mCall (fn_is_number Z) (mCons (mOp addV (mVar 2) (mIx (mMeth Z.LineReader "rest" (fn_LineReader_rest Z) (mVar 0) mNil) (mC (.int 0)))) (mCons (mVar 1) (mNil)))))) (mSeq (mSet 2 (mOp addV (mVar 2) (mIx (mMeth Z.LineReader "rest" (fn_LineReader_rest Z) (mVar 0) mNil) (mC (.int 0))))) (mSetFld Z.LineReader "place" (mOp addV (mFld Z.LineReader "place" (mVar 0)) (mC (.int 1))) (mVar 0)))
def m_LineReader_integer_s5 (Z : Ad) : M Flw := mRet (mIfE (mTst (mOp eqV (mVar 2) (mC (.str "")))) (mC .non) (mAp int10 (mCons (mVar 2) (mCons (mC (.int 10)) (mNil)))))
def m_LineReader_integer_r4 (Z : Ad) : M Flw := m_LineReader_integer_s5 Z
def m_LineReader_integer_r3 (Z : Ad) : M Flw := mSeq (m_LineReader_integer_s4 Z) (m_LineReader_integer_r4 Z)
def m_LineReader_integer_r2 (Z : Ad) : M Flw := mSeq (m_LineReader_integer_s3 Z) (m_LineReader_integer_r3 Z)
def m_LineReader_integer_r1 (Z : Ad) : M Flw := mSeq (m_LineReader_integer_s2 Z) (m_LineReader_integer_r2 Z)
def m_LineReader_integer (Z : Ad) : M Flw := mSeq (m_LineReader_integer_s1 Z) (m_LineReader_integer_r1 Z)
def fn_LineReader_integer (Z : Ad) : Fn := ar 2 (runF 3 (m_LineReader_integer Z))
theorem ok_LineReader_integer {f : Addr} {fd : FuncData} (F : Fun K "integer" "LineReader.integer" s_LineReader_integer f fd) (T : Txt K w mg Z) {f_LineReader_rest : Addr} {d_LineReader_rest : FuncData} (B_LineReader_rest : MtB K "rest" s_LineReader_rest "LineReader.rest" ["self"] Z.LineReader f_LineReader_rest d_LineReader_rest) (G_LineReader_rest : FnOk P w K mg base CX0 1 f_LineReader_rest d_LineReader_rest ["self"] (spF K (fn_LineReader_rest Z))) {f_is_number : Addr} {d_is_number : FuncData} (B_is_number : FnB K mg "is_number" s_is_number ["word", "high"] f_is_number d_is_number) (G_is_number : FnOk P w K mg base CX0 1 f_is_number d_is_number ["word", "high"] (spF K (fn_is_number Z))) : FnOk P w K mg base CX0 2 f fd ["self", "high"] (spF K (fn_LineReader_integer Z)) := by
  have S := sc_LineReader_integer
  exact okM0 (k := 1) F S fun cdv A outer s H E Θ hr hK hE => (ss_cons (s_if (t_cmp (op_neV' hr.units) (neV_ok hK) (e_slice hK (c_meth0 T.cl_LineReader B_LineReader_rest G_LineReader_rest hr (by decide) hK hE (e_var 0)) o_none (o_some e_int)) e_str (nomark _)) (ss_one (s_ret e_non)) ss_nil) (ss_cons (s_setFld T.cl_LineReader T.na_LineReader_place (e_var 0) (e_add hK (e_fld hK T.cl_LineReader T.na_LineReader_place (e_var 0)) e_int)) (ss_cons (s_set (i := 2) S.nd rfl (by first | exact Or.inl rfl | exact Or.inr rfl) e_str) (ss_cons (s_while PassesOwn.never (PW.pt (w_and (t_cmp (op_neV' hr.units) (neV_ok hK) (c_meth0 T.cl_LineReader B_LineReader_rest G_LineReader_rest hr (by decide) hK hE (e_var 0)) e_str (nomark _)) (w_and1 (t_val (c_call B_is_number G_is_number hr (by decide) rfl hK hE (a_cons (e_add hK (e_var 2) (e_ixM hK (c_meth0 T.cl_LineReader B_LineReader_rest G_LineReader_rest hr (by decide) hK hE (e_var 0)) e_int (fun _ _ => rfl))) (a_cons (e_var 1) a_nil))))))) (ss_cons (s_set (i := 2) S.nd rfl (by first | exact Or.inl rfl | exact Or.inr rfl) (e_add hK (e_var 2) (e_ixM hK (c_meth0 T.cl_LineReader B_LineReader_rest G_LineReader_rest hr (by decide) hK hE (e_var 0)) e_int (fun _ _ => rfl)))) (ss_one (s_setFld T.cl_LineReader T.na_LineReader_place (e_var 0) (e_add hK (e_fld hK T.cl_LineReader T.na_LineReader_place (e_var 0)) e_int))))) (ss_one (s_ret (e_ifExp (t_cmp (op_eqV' hr.units) (eqV_ok hK) (e_var 2) e_str (nomark _)) e_non (e_callTy call_int_ten int10_ok rfl T.n_int (by rfl) (a_cons (e_var 2) (a_cons e_int a_nil))))))))))
abbrev s__law_one : Stmt := topS 30
theorem sc__law_one : FnScope ["_law_source", "_law_some"] ["_law_source", "_law_some"] (defScope s__law_one) := ⟨rfl, rfl, rfl, by decide +kernel, rfl, by decide +kernel, by decide +kernel⟩
def m__law_one (Z : Ad) : M Flw := mRet (mIx (mVar 1) (mCall (fn__law_next Z) (mCons (mVar 0) (mCons (mAp lenV (mCons (mVar 1) (mNil))) (mNil)))))
def fn__law_one (Z : Ad) : Fn := ar 2 (runF 2 (m__law_one Z))
theorem ok__law_one {f : Addr} {fd : FuncData} (F : Fun K "_law_one" "_law_one" s__law_one f fd) (T : Txt K w mg Z) {f__law_next : Addr} {d__law_next : FuncData} (B__law_next : FnB K mg "_law_next" s__law_next ["_law_source", "_law_many"] f__law_next d__law_next) (G__law_next : FnOk P w K mg base CX0 1 f__law_next d__law_next ["_law_source", "_law_many"] (spF K (fn__law_next Z))) : FnOk P w K mg base CX0 2 f fd ["_law_source", "_law_some"] (spF K (fn__law_one Z)) := by
  have S := sc__law_one
  exact okM0 (k := 1) F S fun cdv A outer s H E Θ hr hK hE => (ss_one (s_ret (e_ixM hK (e_var 1) (c_call B__law_next G__law_next hr (by decide) rfl hK hE (a_cons (e_var 0) (a_cons (e_callB call_lenV (lenV_ok hK) rfl T.n_len (by rfl) (a_cons (e_var 1) a_nil)) a_nil))) (fun _ _ => rfl))))
abbrev s_is_row : Stmt := topS 15
theorem sc_is_row : FnScope ["value", "number", "word", "is_list", "part"] ["value", "number"] (defScope s_is_row) := ⟨rfl, rfl, rfl, by decide +kernel, rfl, by decide +kernel, by decide +kernel⟩
def m_is_row_r1 (Z : Ad) : M Flw := mSeq (mIf (mTst (mOp eqV (mVar 2) (mC (.str "cat")))) (mSeq (mSet 3 (mAndV (mAp isiV (mCons (mIx (mVar 0) (mC (.int 1))) (mCons (mC (.ty "list")) (mNil)))) (mOp leV (mAp lenV (mCons (mIx (mVar 0) (mC (.int 1))) (mNil))) (mC (.int 8))))) (mRet (mAndV (mVar 3) (mAp allV (mCons (mFl (mComp [4] (mItL (mIx (mVar 0) (mC (.int 1)))) (gSet 4) (tYesM) (mCall (fn_is_between Z) (mCons (mVar 4) (mCons (mC (.int 0)) (mCons (mOp subV (mVar 1) (mC (.int 1))) (mNil))))))) (mNil)))))) (mNx)) (mSeq (mIf (mAndT (mTst (mOp eqV (mVar 2) (mC (.str "nest")))) (mNotT (mTst (mCall (fn_is_between Z) (mCons (mIx (mVar 0) (mC (.int 1))) (mCons (mC (.int 0)) (mCons (mC (.int 8)) (mNil)))))))) (mRet (mC (.bl false))) (mNx)) (mRet (mOrV (mOp eqV (mVar 2) (mC (.str "hard"))) (mCall (fn_is_between Z) (mCons (mIx (mVar 0) (mUn negV (mC (.int 1)))) (mCons (mC (.int 0)) (mCons (mOp subV (mVar 1) (mC (.int 1))) (mNil))))))))
def m_is_row (Z : Ad) : M Flw := mSeq (mIf (mOrT (mNotT (mTst (mAp isiV (mCons (mVar 0) (mCons (mC (.ty "tuple")) (mNil)))))) (mOrT (mTst (mOp eqV (mAp lenV (mCons (mVar 0) (mNil))) (mC (.int 0)))) (mNotT (mTst (mAp isiV (mCons (mIx (mVar 0) (mC (.int 0))) (mCons (mC (.ty "str")) (mNil)))))))) (mRet (mC (.bl false))) (mNx)) (mSeq (mSet 2 (mIx (mVar 0) (mC (.int 0)))) (mSeq (mIf (mOrT (mTst (mUn (tabIn true tab_SIZES) (mVar 2))) (mTst (mOp neV (mAp lenV (mCons (mVar 0) (mNil))) (mUn (tabV tab_SIZES) (mVar 2))))) (mRet (mC (.bl false))) (mNx)) (mSeq (mIf (mTst (mUn (tabIn false tab_MOST_SIGNS) (mVar 2))) (mRet (mCall (fn_is_signs Z) (mCons (mIx (mVar 0) (mC (.int 1))) (mCons (mUn (tabV tab_MOST_SIGNS) (mVar 2)) (mNil))))) (mNx)) (m_is_row_r1 Z))))
def fn_is_row (Z : Ad) : Fn := ar 2 (runF 5 (m_is_row Z))
theorem ok_is_row {f : Addr} {fd : FuncData} (F : Fun K "is_row" "is_row" s_is_row f fd) (T : Txt K w mg Z) {f_is_between : Addr} {d_is_between : FuncData} (B_is_between : FnB K mg "is_between" s_is_between ["value", "low", "high"] f_is_between d_is_between) (G_is_between : FnOk P w K mg base CX0 2 f_is_between d_is_between ["value", "low", "high"] (spF K (fn_is_between Z))) {f_is_signs : Addr} {d_is_signs : FuncData} (B_is_signs : FnB K mg "is_signs" s_is_signs ["value", "most"] f_is_signs d_is_signs) (G_is_signs : FnOk P w K mg base CX0 1 f_is_signs d_is_signs ["value", "most"] (spF K (fn_is_signs Z))) : FnOk P w K mg base CX0 3 f fd ["value", "number"] (spF K (fn_is_row Z)) := by
  have S := sc_is_row
  exact okM0 (k := 2) F S fun cdv A outer s H E Θ hr hK hE => (ss_cons (s_if (PW.pt (w_or (t_not (t_val (e_callB call_isi (isiV_ok hK) rfl T.n_isinstance (by rfl) (a_cons (e_var 0) (a_cons (e_bty rfl T.n_tuple (by rfl)) a_nil))))) (w_or (t_cmp (op_eqV' hr.units) (eqV_ok hK) (e_callB call_lenV (lenV_ok hK) rfl T.n_len (by rfl) (a_cons (e_var 0) a_nil)) e_int (nomark _)) (w_or1 (t_not (t_val (e_callB call_isi (isiV_ok hK) rfl T.n_isinstance (by rfl) (a_cons (e_ixM hK (e_var 0) e_int (fun _ _ => rfl)) (a_cons (e_bty rfl T.n_str (by rfl)) a_nil))))))))) (ss_one (s_ret e_bl)) ss_nil) (ss_cons (s_set (i := 2) S.nd rfl (by first | exact Or.inl rfl | exact Or.inr rfl) (e_ixM hK (e_var 0) e_int (fun _ _ => rfl))) (ss_cons (s_if (PW.pt (w_or (t_tabNin T.t_SIZES (e_var 2) rfl T.g_SIZES) (w_or1 (t_cmp (op_neV' hr.units) (neV_ok hK) (e_callB call_lenV (lenV_ok hK) rfl T.n_len (by rfl) (a_cons (e_var 0) a_nil)) (e_tab T.t_SIZES (e_var 2) rfl T.g_SIZES (fun _ _ => rfl)) (nomark _))))) (ss_one (s_ret e_bl)) ss_nil) (ss_cons (s_if (t_tabIn T.t_MOST_SIGNS (e_var 2) rfl T.g_MOST_SIGNS) (ss_one (s_ret (c_call B_is_signs G_is_signs hr (by decide) rfl hK hE (a_cons (e_ixM hK (e_var 0) e_int (fun _ _ => rfl)) (a_cons (e_tab T.t_MOST_SIGNS (e_var 2) rfl T.g_MOST_SIGNS (fun _ _ => rfl)) a_nil))))) ss_nil) (ss_cons (s_if (t_cmp (op_eqV' hr.units) (eqV_ok hK) (e_var 2) e_str (nomark _)) (ss_cons (s_set (i := 3) S.nd rfl (by first | exact Or.inl rfl | exact Or.inr rfl) (e_and (e_callB call_isi (isiV_ok hK) rfl T.n_isinstance (by rfl) (a_cons (e_ixM hK (e_var 0) e_int (fun _ _ => rfl)) (a_cons (e_bty rfl T.n_list (by rfl)) a_nil))) (e_one (e_cmp op_leV cmpV_ok (e_callB call_lenV (lenV_ok hK) rfl T.n_len (by rfl) (a_cons (e_ixM hK (e_var 0) e_int (fun _ _ => rfl)) a_nil)) (e_gint T.c_MOST_PARTS rfl) (nomark _))))) (ss_one (s_ret (e_and (e_var 3) (e_one (e_callB (cr_all rfl) (allV_ok hK) rfl T.n_all (by rfl) (a_cons (e_new (n_comp (own := [("part", 4)]) (us := [4]) (g := gSet 4) (t := tYesM) (me := mCall (fn_is_between Z) (mCons (mVar 4) (mCons (mC (.int 0)) (mCons (mOp subV (mVar 1) (mC (.int 1))) (mNil))))) rfl S.nd hK (i_list hK (e_ixM hK (e_var 0) e_int (fun _ _ => rfl))) (blkOk_by (N := ["value", "number", "word", "is_list", "part"]) (sc := defScope s_is_row) (by decide +kernel)) (by decide) (fun _ _ _ _ _ Θ2 hS => by have hK := hS.1; have hE := hS.2; exact (g_name (i := 4) S.nd rfl (by first | exact Or.inl rfl | exact Or.inr rfl))) (fun _ _ _ _ _ Θ2 hS => by have hK := hS.1; have hE := hS.2; exact p_none) (fun _ _ _ _ _ Θ2 hS => by have hK := hS.1; have hE := hS.2; exact (c_call B_is_between G_is_between hr (by decide) rfl hK hE (a_cons (e_var 4) (a_cons e_int (a_cons (e_sub (e_var 1) e_int) a_nil))))))) a_nil))))))) ss_nil) (ss_cons (s_if (PW.pt (w_and (t_cmp (op_eqV' hr.units) (eqV_ok hK) (e_var 2) e_str (nomark _)) (w_and1 (t_not (t_val (c_call B_is_between G_is_between hr (by decide) rfl hK hE (a_cons (e_ixM hK (e_var 0) e_int (fun _ _ => rfl)) (a_cons e_int (a_cons (e_gint T.c_MOST_NEST rfl) a_nil))))))))) (ss_one (s_ret e_bl)) ss_nil) (ss_one (s_ret (e_or (e_cmp (op_eqV' hr.units) (eqV_ok hK) (e_var 2) e_str (nomark _)) (e_one (c_call B_is_between G_is_between hr (by decide) rfl hK hE (a_cons (e_ixM hK (e_var 0) (e_neg e_int) (fun _ _ => rfl)) (a_cons e_int (a_cons (e_sub (e_var 1) e_int) a_nil))))))))))))))
abbrev s_LineReader_integers : Stmt := inClass (topS 24) 5
theorem sc_LineReader_integers : FnScope ["self", "highs", "least", "found", "high", "one"] ["self", "highs", "least"] (defScope s_LineReader_integers) := ⟨rfl, rfl, rfl, by decide +kernel, rfl, by decide +kernel, by decide +kernel⟩
def m_LineReader_integers (Z : Ad) : M Flw := mSeq (mOwn 3 (mApL szL (mNil))) (mSeq (mFor (mItL (mVar 1)) (gSet 4) (mSeq (mIf (mAndT (mTst (mOp geV (mOwnA lenV 3) (mVar 2))) (mTst (mOp eqV (mMeth Z.LineReader "rest" (fn_LineReader_rest Z) (mVar 0) mNil) (mC (.str ""))))) (mFz 3 (mRet (mVar 3))) (mNx)) (mSeq (mSet 5 (mMeth Z.LineReader "integer" (fn_LineReader_integer Z) (mVar 0) (mCons (mVar 4) (mNil)))) (mSeq (mIf (mTst (mOp isNV (mVar 5) (mC .non))) (mRet (mC .non)) (mNx)) (mApp 3 (mVar 5)))))) (mFz 3 (mRet (mVar 3))))
def fn_LineReader_integers (Z : Ad) : Fn := ar 3 (runF 6 (m_LineReader_integers Z))
theorem ok_LineReader_integers {f : Addr} {fd : FuncData} (F : Fun K "integers" "LineReader.integers" s_LineReader_integers f fd) (T : Txt K w mg Z) {f_LineReader_integer : Addr} {d_LineReader_integer : FuncData} (B_LineReader_integer : MtB K "integer" s_LineReader_integer "LineReader.integer" ["self", "high"] Z.LineReader f_LineReader_integer d_LineReader_integer) (G_LineReader_integer : FnOk P w K mg base CX0 2 f_LineReader_integer d_LineReader_integer ["self", "high"] (spF K (fn_LineReader_integer Z))) {f_LineReader_rest : Addr} {d_LineReader_rest : FuncData} (B_LineReader_rest : MtB K "rest" s_LineReader_rest "LineReader.rest" ["self"] Z.LineReader f_LineReader_rest d_LineReader_rest) (G_LineReader_rest : FnOk P w K mg base CX0 1 f_LineReader_rest d_LineReader_rest ["self"] (spF K (fn_LineReader_rest Z))) : FnOk P w K mg base CX0 3 f fd ["self", "highs", "least"] (spF K (fn_LineReader_integers Z)) := by
  have S := sc_LineReader_integers
  exact okM0 (k := 2) F S fun cdv A outer s H E Θ hr hK hE => (ss_cons (s_own (i := 3) S.nd rfl (by first | exact Or.inl rfl | exact Or.inr rfl) (n_lst a_nil)) (ss_cons (s_for PassesOwn.never rfl (i_list hK (e_var 1)) (g_name (i := 4) S.nd rfl (by first | exact Or.inl rfl | exact Or.inr rfl)) (ss_cons (s_if (PW.pt (w_and (t_cmp op_geV cmpV_ok (e_ownB (i := 3) rfl (by first | exact Or.inl rfl | exact Or.inr (Or.inl rfl) | exact Or.inr (Or.inr rfl)) call_lenV (lenV_ok hK) rfl T.n_len (by rfl)) (e_var 2) (nomark _)) (w_and1 (t_cmp (op_eqV' hr.units) (eqV_ok hK) (c_meth0 T.cl_LineReader B_LineReader_rest G_LineReader_rest hr (by decide) hK hE (e_var 0)) e_str (nomark _))))) (ss_fz (i := 3) (ss_one (s_ret (e_var 3)))) ss_nil) (ss_cons (s_set (i := 5) S.nd rfl (by first | exact Or.inl rfl | exact Or.inr rfl) (c_meth T.cl_LineReader B_LineReader_integer G_LineReader_integer hr (by decide) hK hE (e_var 0) (a_cons (e_var 4) a_nil))) (ss_cons (s_if (t_cmp op_isN isNV_ok (e_var 5) e_non (nomark _)) (ss_one (s_ret e_non)) ss_nil) (ss_one (s_app (i := 3) rfl (by first | exact Or.inl rfl | exact Or.inr (Or.inl rfl) | exact Or.inr (Or.inr rfl)) (e_var 5))))))) (ss_fz (i := 3) (ss_one (s_ret (e_var 3))))))
abbrev s__law_signs : Stmt := topS 31
theorem sc__law_signs : FnScope ["_law_source", "_law_most", "_law_turn"] ["_law_source", "_law_most"] (defScope s__law_signs) := ⟨rfl, rfl, rfl, by decide +kernel, rfl, by decide +kernel, by decide +kernel⟩
def m__law_signs (Z : Ad) : M Flw := mRet (mJoin (mC (.str "")) (mFl (mComp [2] (mApL rng1 (mCons (mCall (fn__law_next Z) (mCons (mVar 0) (mCons (mOp addV (mVar 1) (mC (.int 1))) (mNil)))) (mNil))) (gSet 2) (tYesM) (mCall (fn__law_one Z) (mCons (mVar 0) (mCons (mAp txtL (mCons (mC (.str "abxy (){}~")) (mNil))) (mNil)))))))
def fn__law_signs (Z : Ad) : Fn := ar 2 (runF 3 (m__law_signs Z))
theorem ok__law_signs {f : Addr} {fd : FuncData} (F : Fun K "_law_signs" "_law_signs" s__law_signs f fd) (T : Txt K w mg Z) {f__law_next : Addr} {d__law_next : FuncData} (B__law_next : FnB K mg "_law_next" s__law_next ["_law_source", "_law_many"] f__law_next d__law_next) (G__law_next : FnOk P w K mg base CX0 1 f__law_next d__law_next ["_law_source", "_law_many"] (spF K (fn__law_next Z))) {f__law_one : Addr} {d__law_one : FuncData} (B__law_one : FnB K mg "_law_one" s__law_one ["_law_source", "_law_some"] f__law_one d__law_one) (G__law_one : FnOk P w K mg base CX0 2 f__law_one d__law_one ["_law_source", "_law_some"] (spF K (fn__law_one Z))) : FnOk P w K mg base CX0 3 f fd ["_law_source", "_law_most"] (spF K (fn__law_signs Z)) := by
  have S := sc__law_signs
  exact okM0 (k := 2) F S fun cdv A outer s H E Θ hr hK hE => (ss_one (s_ret (e_join hK e_str (e_new (n_comp (own := [("_law_turn", 2)]) (us := [2]) (g := gSet 2) (t := tYesM) (me := mCall (fn__law_one Z) (mCons (mVar 0) (mCons (mAp txtL (mCons (mC (.str "abxy (){}~")) (mNil))) (mNil)))) rfl S.nd hK (i_range1 rfl T.n_range (a_cons (c_call B__law_next G__law_next hr (by decide) rfl hK hE (a_cons (e_var 0) (a_cons (e_add hK (e_var 1) e_int) a_nil))) a_nil)) (blkOk_by (N := ["_law_source", "_law_most", "_law_turn"]) (sc := defScope s__law_signs) (by decide +kernel)) (by decide) (fun _ _ _ _ _ Θ2 hS => by have hK := hS.1; have hE := hS.2; exact (g_name (i := 2) S.nd rfl (by first | exact Or.inl rfl | exact Or.inr rfl))) (fun _ _ _ _ _ Θ2 hS => by have hK := hS.1; have hE := hS.2; exact p_none) (fun _ _ _ _ _ Θ2 hS => by have hK := hS.1; have hE := hS.2; exact (c_call B__law_one G__law_one hr (by decide) rfl hK hE (a_cons (e_var 0) (a_cons (e_callTy (call_list_txt rfl) txtL_ok rfl T.n_list (by rfl) (a_cons e_str a_nil)) a_nil)))))))))
abbrev s_Doc___init__ : Stmt := inClass (topS 17) 0
theorem sc_Doc___init__ : FnScope ["self", "rows", "number", "row"] ["self", "rows"] (defScope s_Doc___init__) := ⟨rfl, rfl, rfl, by decide +kernel, rfl, by decide +kernel, by decide +kernel⟩
def m_Doc___init___r1 (Z : Ad) : M Flw := mSeq (mSelf Z.Doc "rows" (mFl (mComp [3] (mItL (mVar 1)) (gSet 3) (tYesM) (mCall (fn_copied_row Z) (mCons (mVar 3) (mNil)))))) (mSelf Z.Doc "layouts" (mC .fd))
def m_Doc___init__ (Z : Ad) : M Flw := mSeq (mIf (mOrT (mNotT (mTst (mAp isiV (mCons (mVar 1) (mCons (mC (.ty "list")) (mNil)))))) (mNotT (mTst (mChain leV leV (mC (.int 1)) (mAp lenV (mCons (mVar 1) (mNil))) (mC (.int 200)))))) (mNever) (mNx)) (mSeq (mFor (mApL enm (mCons (mVar 1) (mNil))) (gTp 2 (gCs (gSet 2) (gCs (gSet 3) (gNl)))) (mIf (mNotT (mTst (mCall (fn_is_row Z) (mCons (mVar 3) (mCons (mVar 2) (mNil)))))) (mNever) (mNx))) (m_Doc___init___r1 Z))
def fn_Doc___init__ (Z : Ad) : FnI := runI 4 2 Z.Doc (m_Doc___init__ Z)
theorem ok_Doc___init__ {f : Addr} {fd : FuncData} (F : Fun K "__init__" "Doc.__init__" s_Doc___init__ f fd) (T : Txt K w mg Z) {f_copied_row : Addr} {d_copied_row : FuncData} (B_copied_row : FnB K mg "copied_row" s_copied_row ["row"] f_copied_row d_copied_row) (G_copied_row : FnOk P w K mg base CX0 1 f_copied_row d_copied_row ["row"] (spF K (fn_copied_row Z))) {f_is_row : Addr} {d_is_row : FuncData} (B_is_row : FnB K mg "is_row" s_is_row ["value", "number"] f_is_row d_is_row) (G_is_row : FnOk P w K mg base CX0 3 f_is_row d_is_row ["value", "number"] (spF K (fn_is_row Z))) : FnOk P w K mg base CX0 4 f fd ["self", "rows"] (spI K Z.Doc (fn_Doc___init__ Z)) := by
  have S := sc_Doc___init__
  exact okI0 (C := Z.Doc) (k := 3) F S fun cdv A outer s H E Θ hr hK hE => (ss_cons (s_if (PW.pt (w_or (t_not (t_val (e_callB call_isi (isiV_ok hK) rfl T.n_isinstance (by rfl) (a_cons (e_var 1) (a_cons (e_bty rfl T.n_list (by rfl)) a_nil))))) (w_or1 (t_not (t_chain op_leV cmpV_ok op_leV cmpV_ok e_int (e_callB call_lenV (lenV_ok hK) rfl T.n_len (by rfl) (a_cons (e_var 1) a_nil)) (e_gint T.c_MOST_ROWS rfl)))))) (ss_one s_never) ss_nil) (ss_cons (s_for PassesOwn.never rfl (i_enum hK rfl T.n_enumerate (a_cons (e_var 1) a_nil)) (g_tup (n := 2) hK rfl (gs_cons (g_name (i := 2) S.nd rfl (by first | exact Or.inl rfl | exact Or.inr rfl)) (gs_cons (g_name (i := 3) S.nd rfl (by first | exact Or.inl rfl | exact Or.inr rfl)) gs_nil))) (ss_one (s_if (t_not (t_val (c_call B_is_row G_is_row hr (by decide) rfl hK hE (a_cons (e_var 3) (a_cons (e_var 2) a_nil))))) (ss_one s_never) ss_nil))) (ss_cons (s_self (C := Z.Doc) rfl (Or.inl rfl) T.cl_Doc T.na_Doc_rows (e_new (n_comp (own := [("row", 3)]) (us := [3]) (g := gSet 3) (t := tYesM) (me := mCall (fn_copied_row Z) (mCons (mVar 3) (mNil))) rfl S.nd hK (i_list hK (e_var 1)) (blkOk_by (N := ["self", "rows", "number", "row"]) (sc := defScope s_Doc___init__) (by decide +kernel)) (by decide) (fun _ _ _ _ _ Θ2 hS => by have hK := hS.1; have hE := hS.2; exact (g_name (i := 3) S.nd rfl (by first | exact Or.inl rfl | exact Or.inr rfl))) (fun _ _ _ _ _ Θ2 hS => by have hK := hS.1; have hE := hS.2; exact p_none) (fun _ _ _ _ _ Θ2 hS => by have hK := hS.1; have hE := hS.2; exact (c_call B_copied_row G_copied_row hr (by decide) rfl hK hE (a_cons (e_var 3) a_nil))))) rfl) (ss_one (s_self (C := Z.Doc) rfl (Or.inl rfl) T.cl_Doc T.na_Doc_layouts e_fd rfl)))))
abbrev s_LineReader_row : Stmt := inClass (topS 24) 6
theorem sc_LineReader_row : FnScope ["self", "word", "last", "found"] ["self"] (defScope s_LineReader_row) := ⟨rfl, rfl, rfl, by decide +kernel, rfl, by decide +kernel, by decide +kernel⟩
def m_LineReader_row_s1 (Z : Ad) : M Flw := mSet 1 (mMeth Z.LineReader "word" (fn_LineReader_word Z) (mVar 0) mNil)
def m_LineReader_row_s2 (Z : Ad) : M Flw := mIf (mTst (mOp isNV (mVar 1) (mC .non))) (mRet (mC .non)) (mNx)
def m_LineReader_row_s3 (Z : Ad) : M Flw := mSet 2 (mOp subV (mFld Z.LineReader "number" (mVar 0)) (mC (.int 1)))
def m_LineReader_row_s4 (Z : Ad) : M Flw := mIf (mTst (mUn (tabIn false tab_MOST_SIGNS) (mVar 1))) (mSet 3 (mMeth Z.LineReader "string" (fn_LineReader_string Z) (mVar 0) (mCons (mUn (tabV tab_MOST_SIGNS) (mVar 1)) (mNil)))) (mIf (mTst (mOp eqV (mVar 1) (mC (.str "cat")))) (mSet 3 (mMeth Z.LineReader "integers" (fn_LineReader_integers Z) (mVar 0) (mCons (mOp mulV (mOp mulV (mAp lstV (mCons (mVar 2) (mNil))) (mC (.int 8))) (mAp intV (mCons (mOp gtV (mFld Z.LineReader "number" (mVar 0)) (mC (.int 0))) (mNil)))) (mCons (mC (.int 0)) (mNil))))) (mSet 3 (mMeth Z.LineReader "integers" (fn_LineReader_integers Z) (mVar 0) (mCons (mMenu "hard" "nest" (mAp lstV (mNil)) (mAp lstV (mCons (mC (.int 8)) (mCons (mVar 2) (mNil)))) (mVar 1) (mAp lstV (mCons (mVar 2) (mNil)))) (mCons (mC (.int 2)) (mNil))))))
def m_LineReader_row_s5 (Z : Ad) : M Flw := mIf (mOrT (mTst (mOp isNV (mVar 3) (mC .non))) (mTst (mOp neV (mMeth Z.LineReader "rest" (fn_LineReader_rest Z) (mVar 0) mNil) (mC (.str ""))))) (mRet (mC .non)) (mNx)
def m_LineReader_row_s6 (Z : Ad) : M Flw := mIf (mOrT (mTst (mUn (tabIn false tab_MOST_SIGNS) (mVar 1))) (mTst (mOp eqV (mVar 1) (mC (.str "cat"))))) (mRet (mAp tupV (mCons (mVar 1) (mCons (mVar 3) (mNil))))) (mNx)
def m_LineReader_row_s7 (Z : Ad) : M Flw := mRet (mOp addV (mAp tupV (mCons (mVar 1) (mNil))) (mAp tupleV (mCons (mVar 3) (mNil))))
def m_LineReader_row_r6 (Z : Ad) : M Flw := m_LineReader_row_s7 Z
def m_LineReader_row_r5 (Z : Ad) : M Flw := mSeq (m_LineReader_row_s6 Z) (m_LineReader_row_r6 Z)
def m_LineReader_row_r4 (Z : Ad) : M Flw := mSeq (m_LineReader_row_s5 Z) (m_LineReader_row_r5 Z)
def m_LineReader_row_r3 (Z : Ad) : M Flw := mSeq (m_LineReader_row_s4 Z) (m_LineReader_row_r4 Z)
def m_LineReader_row_r2 (Z : Ad) : M Flw := mSeq (m_LineReader_row_s3 Z) (m_LineReader_row_r3 Z)
def m_LineReader_row_r1 (Z : Ad) : M Flw := mSeq (m_LineReader_row_s2 Z) (m_LineReader_row_r2 Z)
def m_LineReader_row (Z : Ad) : M Flw := mSeq (m_LineReader_row_s1 Z) (m_LineReader_row_r1 Z)
def fn_LineReader_row (Z : Ad) : Fn := ar 1 (runF 4 (m_LineReader_row Z))
theorem ok_LineReader_row {f : Addr} {fd : FuncData} (F : Fun K "row" "LineReader.row" s_LineReader_row f fd) (T : Txt K w mg Z) {f_LineReader_integers : Addr} {d_LineReader_integers : FuncData} (B_LineReader_integers : MtB K "integers" s_LineReader_integers "LineReader.integers" ["self", "highs", "least"] Z.LineReader f_LineReader_integers d_LineReader_integers) (G_LineReader_integers : FnOk P w K mg base CX0 3 f_LineReader_integers d_LineReader_integers ["self", "highs", "least"] (spF K (fn_LineReader_integers Z))) {f_LineReader_rest : Addr} {d_LineReader_rest : FuncData} (B_LineReader_rest : MtB K "rest" s_LineReader_rest "LineReader.rest" ["self"] Z.LineReader f_LineReader_rest d_LineReader_rest) (G_LineReader_rest : FnOk P w K mg base CX0 1 f_LineReader_rest d_LineReader_rest ["self"] (spF K (fn_LineReader_rest Z))) {f_LineReader_string : Addr} {d_LineReader_string : FuncData} (B_LineReader_string : MtB K "string" s_LineReader_string "LineReader.string" ["self", "most"] Z.LineReader f_LineReader_string d_LineReader_string) (G_LineReader_string : FnOk P w K mg base CX0 2 f_LineReader_string d_LineReader_string ["self", "most"] (spF K (fn_LineReader_string Z))) {f_LineReader_word : Addr} {d_LineReader_word : FuncData} (B_LineReader_word : MtB K "word" s_LineReader_word "LineReader.word" ["self"] Z.LineReader f_LineReader_word d_LineReader_word) (G_LineReader_word : FnOk P w K mg base CX0 2 f_LineReader_word d_LineReader_word ["self"] (spF K (fn_LineReader_word Z))) : FnOk P w K mg base CX0 4 f fd ["self"] (spF K (fn_LineReader_row Z)) := by
  have S := sc_LineReader_row
  exact okM0 (k := 3) F S fun cdv A outer s H E Θ hr hK hE => (ss_cons (s_set (i := 1) S.nd rfl (by first | exact Or.inl rfl | exact Or.inr rfl) (c_meth0 T.cl_LineReader B_LineReader_word G_LineReader_word hr (by decide) hK hE (e_var 0))) (ss_cons (s_if (t_cmp op_isN isNV_ok (e_var 1) e_non (nomark _)) (ss_one (s_ret e_non)) ss_nil) (ss_cons (s_set (i := 2) S.nd rfl (by first | exact Or.inl rfl | exact Or.inr rfl) (e_sub (e_fld hK T.cl_LineReader T.na_LineReader_number (e_var 0)) e_int)) (ss_cons (s_if (t_tabIn T.t_MOST_SIGNS (e_var 1) rfl T.g_MOST_SIGNS) (ss_one (s_set (i := 3) S.nd rfl (by first | exact Or.inl rfl | exact Or.inr rfl) (c_meth T.cl_LineReader B_LineReader_string G_LineReader_string hr (by decide) hK hE (e_var 0) (a_cons (e_tab T.t_MOST_SIGNS (e_var 1) rfl T.g_MOST_SIGNS (fun _ _ => rfl)) a_nil)))) (ss_one (s_if (t_cmp (op_eqV' hr.units) (eqV_ok hK) (e_var 1) e_str (nomark _)) (ss_one (s_set (i := 3) S.nd rfl (by first | exact Or.inl rfl | exact Or.inr rfl) (c_meth T.cl_LineReader B_LineReader_integers G_LineReader_integers hr (by decide) hK hE (e_var 0) (a_cons (e_mul hK (e_mul hK (e_lst (a_cons (e_var 2) a_nil)) (e_gint T.c_MOST_PARTS rfl)) (e_callTy call_int1 intV_ok rfl T.n_int (by rfl) (a_cons (e_cmp op_gtV cmpV_ok (e_fld hK T.cl_LineReader T.na_LineReader_number (e_var 0)) e_int (nomark _)) a_nil))) (a_cons e_int a_nil))))) (ss_one (s_set (i := 3) S.nd rfl (by first | exact Or.inl rfl | exact Or.inr rfl) (c_meth T.cl_LineReader B_LineReader_integers G_LineReader_integers hr (by decide) hK hE (e_var 0) (a_cons (e_menu hK (hu_of hr) (by decide) pe_str pe_str (fun Θ2 hS => by have hK := hS.1; have hE := hS.2; exact (e_lst a_nil)) (fun Θ2 hS => by have hK := hS.1; have hE := hS.2; exact (e_lst (a_cons (e_gint T.c_MOST_NEST rfl) (a_cons (e_var 2) a_nil)))) (e_var 1) (e_lst (a_cons (e_var 2) a_nil)) ⟨rfl, rfl, rfl, rfl⟩) (a_cons e_int a_nil)))))))) (ss_cons (s_if (PW.pt (w_or (t_cmp op_isN isNV_ok (e_var 3) e_non (nomark _)) (w_or1 (t_cmp (op_neV' hr.units) (neV_ok hK) (c_meth0 T.cl_LineReader B_LineReader_rest G_LineReader_rest hr (by decide) hK hE (e_var 0)) e_str (nomark _))))) (ss_one (s_ret e_non)) ss_nil) (ss_cons (s_if (PW.pt (w_or (t_tabIn T.t_MOST_SIGNS (e_var 1) rfl T.g_MOST_SIGNS) (w_or1 (t_cmp (op_eqV' hr.units) (eqV_ok hK) (e_var 1) e_str (nomark _))))) (ss_one (s_ret (e_tup (a_cons (e_var 1) (a_cons (e_var 3) a_nil))))) ss_nil) (ss_one (s_ret (e_add hK (e_tup (a_cons (e_var 1) a_nil)) (e_callTy call_tuple_of (tupleV_ok hK) rfl T.n_tuple (by rfl) (a_cons (e_var 3) a_nil)))))))))))
abbrev s__law_row : Stmt := topS 32
theorem sc__law_row : FnScope ["_law_source", "_law_number", "_law_way", "_law_part", "_law_many", "_law_k"] ["_law_source", "_law_number"] (defScope s__law_row) := ⟨rfl, rfl, rfl, by decide +kernel, rfl, by decide +kernel, by decide +kernel⟩
def m__law_row_s1 (Z : Ad) : M Flw := mSet 2 (mIfE (mTst (mOp gtV (mVar 1) (mC (.int 0)))) (mCall (fn__law_next Z) (mCons (mVar 0) (mCons (mC (.int 16)) (mNil)))) (mCall (fn__law_next Z) (mCons (mVar 0) (mCons (mC (.int 5)) (mNil)))))
def m__law_row_s2 (Z : Ad) : M Flw := mIf (mTst (mOp ltV (mVar 2) (mC (.int 3)))) (mRet (mAp tupV (mCons (mC (.str "text")) (mCons (mCall (fn__law_signs Z) (mCons (mVar 0) (mCons (mCall (fn__law_one Z) (mCons (mVar 0) (mCons (mAp lstV (mCons (mC (.int 2)) (mCons (mC (.int 5)) (mCons (mC (.int 20)) (mNil))))) (mNil)))) (mNil)))) (mNil))))) (mNx)
def m__law_row_s3 (Z : Ad) : M Flw := mIf (mTst (mOp ltV (mVar 2) (mC (.int 5)))) (mRet (mIx (mAp lstV (mCons (mAp tupV (mCons (mC (.str "line")) (mCons (mCall (fn__law_signs Z) (mCons (mVar 0) (mCons (mC (.int 3)) (mNil)))) (mNil)))) (mCons (mAp tupV (mCons (mC (.str "line")) (mCons (mC (.str " ")) (mNil)))) (mCons (mAp tupV (mCons (mC (.str "hard")) (mNil))) (mNil))))) (mCall (fn__law_next Z) (mCons (mVar 0) (mCons (mC (.int 3)) (mNil)))))) (mNx)
def m__law_row_s4 (Z : Ad) : M Flw := mSet 3 (mAp maxV (mCons (mCall (fn__law_next Z) (mCons (mVar 0) (mCons (mVar 1) (mNil)))) (mCons (mCall (fn__law_next Z) (mCons (mVar 0) (mCons (mVar 1) (mNil)))) (mNil))))
def m__law_row_s5 (Z : Ad) : M Flw := mIf (mTst (mOp ltV (mVar 2) (mC (.int 10)))) (mSeq (mSet 4 (mCall (fn__law_one Z) (mCons (mVar 0) (mCons (mAp lstV (mCons (mC (.int 0)) (mCons (mC (.int 1)) (mCons (mC (.int 2)) (mCons (mC (.int 3)) (mCons (mC (.int 4)) (mCons (mC (.int 8)) (mNil)))))))) (mNil))))) (mRet (mAp tupV (mCons (mC (.str "cat")) (mCons (mFl (mComp [5] (mApL rng1 (mCons (mVar 4) (mNil))) (gSet 5) (tYesM) (mAp maxV (mCons (mCall (fn__law_next Z) (mCons (mVar 0) (mCons (mVar 1) (mNil)))) (mCons (mCall (fn__law_next Z) (mCons (mVar 0) (mCons (mVar 1) (mNil)))) (mNil)))))) (mNil)))))) (mNx)
def m__law_row_s6 (Z : Ad) : M Flw := mIf (mTst (mOp ltV (mVar 2) (mC (.int 12)))) (mRet (mAp tupV (mCons (mC (.str "nest")) (mCons (mCall (fn__law_next Z) (mCons (mVar 0) (mCons (mC (.int 9)) (mNil)))) (mCons (mVar 3) (mNil)))))) (mNx)
def m__law_row_s7 (Z : Ad) : M Flw := mRet (mIfE (mTst (mOp eqV (mVar 2) (mC (.int 12)))) (mAp tupV (mCons (mC (.str "align")) (mCons (mVar 3) (mNil)))) (mAp tupV (mCons (mC (.str "group")) (mCons (mVar 3) (mNil)))))
def m__law_row_r6 (Z : Ad) : M Flw := m__law_row_s7 Z
def m__law_row_r5 (Z : Ad) : M Flw := mSeq (m__law_row_s6 Z) (m__law_row_r6 Z)
def m__law_row_r4 (Z : Ad) : M Flw := mSeq (m__law_row_s5 Z) (m__law_row_r5 Z)
def m__law_row_r3 (Z : Ad) : M Flw := mSeq (m__law_row_s4 Z) (m__law_row_r4 Z)
def m__law_row_r2 (Z : Ad) : M Flw := mSeq (m__law_row_s3 Z) (m__law_row_r3 Z)
def m__law_row_r1 (Z : Ad) : M Flw := mSeq (m__law_row_s2 Z) (m__law_row_r2 Z)
def m__law_row (Z : Ad) : M Flw := mSeq (m__law_row_s1 Z) (m__law_row_r1 Z)
def fn__law_row (Z : Ad) : Fn := ar 2 (runF 6 (m__law_row Z))
theorem ok__law_row {f : Addr} {fd : FuncData} (F : Fun K "_law_row" "_law_row" s__law_row f fd) (T : Txt K w mg Z) {f__law_next : Addr} {d__law_next : FuncData} (B__law_next : FnB K mg "_law_next" s__law_next ["_law_source", "_law_many"] f__law_next d__law_next) (G__law_next : FnOk P w K mg base CX0 1 f__law_next d__law_next ["_law_source", "_law_many"] (spF K (fn__law_next Z))) {f__law_one : Addr} {d__law_one : FuncData} (B__law_one : FnB K mg "_law_one" s__law_one ["_law_source", "_law_some"] f__law_one d__law_one) (G__law_one : FnOk P w K mg base CX0 2 f__law_one d__law_one ["_law_source", "_law_some"] (spF K (fn__law_one Z))) {f__law_signs : Addr} {d__law_signs : FuncData} (B__law_signs : FnB K mg "_law_signs" s__law_signs ["_law_source", "_law_most"] f__law_signs d__law_signs) (G__law_signs : FnOk P w K mg base CX0 3 f__law_signs d__law_signs ["_law_source", "_law_most"] (spF K (fn__law_signs Z))) : FnOk P w K mg base CX0 4 f fd ["_law_source", "_law_number"] (spF K (fn__law_row Z)) := by
  have S := sc__law_row
  exact okM0 (k := 3) F S fun cdv A outer s H E Θ hr hK hE => (ss_cons (s_set (i := 2) S.nd rfl (by first | exact Or.inl rfl | exact Or.inr rfl) (e_ifExp (t_cmp op_gtV cmpV_ok (e_var 1) e_int (nomark _)) (c_call B__law_next G__law_next hr (by decide) rfl hK hE (a_cons (e_var 0) (a_cons e_int a_nil))) (c_call B__law_next G__law_next hr (by decide) rfl hK hE (a_cons (e_var 0) (a_cons e_int a_nil))))) (ss_cons (s_if (t_cmp op_ltV cmpV_ok (e_var 2) e_int (nomark _)) (ss_one (s_ret (e_tup (a_cons e_str (a_cons (c_call B__law_signs G__law_signs hr (by decide) rfl hK hE (a_cons (e_var 0) (a_cons (c_call B__law_one G__law_one hr (by decide) rfl hK hE (a_cons (e_var 0) (a_cons (e_lst (a_cons e_int (a_cons e_int (a_cons e_int a_nil)))) a_nil))) a_nil))) a_nil))))) ss_nil) (ss_cons (s_if (t_cmp op_ltV cmpV_ok (e_var 2) e_int (nomark _)) (ss_one (s_ret (e_ixM hK (e_lst (a_cons (e_tup (a_cons e_str (a_cons (c_call B__law_signs G__law_signs hr (by decide) rfl hK hE (a_cons (e_var 0) (a_cons e_int a_nil))) a_nil))) (a_cons (e_tup (a_cons e_str (a_cons e_str a_nil))) (a_cons (e_tup (a_cons e_str a_nil)) a_nil)))) (c_call B__law_next G__law_next hr (by decide) rfl hK hE (a_cons (e_var 0) (a_cons e_int a_nil))) (fun _ _ => rfl)))) ss_nil) (ss_cons (s_set (i := 3) S.nd rfl (by first | exact Or.inl rfl | exact Or.inr rfl) (e_callB (call_maxV rfl) (maxV_ok hK) rfl T.n_max (by rfl) (a_cons (c_call B__law_next G__law_next hr (by decide) rfl hK hE (a_cons (e_var 0) (a_cons (e_var 1) a_nil))) (a_cons (c_call B__law_next G__law_next hr (by decide) rfl hK hE (a_cons (e_var 0) (a_cons (e_var 1) a_nil))) a_nil)))) (ss_cons (s_if (t_cmp op_ltV cmpV_ok (e_var 2) e_int (nomark _)) (ss_cons (s_set (i := 4) S.nd rfl (by first | exact Or.inl rfl | exact Or.inr rfl) (c_call B__law_one G__law_one hr (by decide) rfl hK hE (a_cons (e_var 0) (a_cons (e_lst (a_cons e_int (a_cons e_int (a_cons e_int (a_cons e_int (a_cons e_int (a_cons e_int a_nil))))))) a_nil)))) (ss_one (s_ret (e_tup (a_cons e_str (a_cons (e_new (n_comp (own := [("_law_k", 5)]) (us := [5]) (g := gSet 5) (t := tYesM) (me := mAp maxV (mCons (mCall (fn__law_next Z) (mCons (mVar 0) (mCons (mVar 1) (mNil)))) (mCons (mCall (fn__law_next Z) (mCons (mVar 0) (mCons (mVar 1) (mNil)))) (mNil)))) rfl S.nd hK (i_range1 rfl T.n_range (a_cons (e_var 4) a_nil)) (blkOk_by (N := ["_law_source", "_law_number", "_law_way", "_law_part", "_law_many", "_law_k"]) (sc := defScope s__law_row) (by decide +kernel)) (by decide) (fun _ _ _ _ _ Θ2 hS => by have hK := hS.1; have hE := hS.2; exact (g_name (i := 5) S.nd rfl (by first | exact Or.inl rfl | exact Or.inr rfl))) (fun _ _ _ _ _ Θ2 hS => by have hK := hS.1; have hE := hS.2; exact p_none) (fun _ _ _ _ _ Θ2 hS => by have hK := hS.1; have hE := hS.2; exact (e_callB (call_maxV rfl) (maxV_ok hK) rfl T.n_max (by rfl) (a_cons (c_call B__law_next G__law_next hr (by decide) rfl hK hE (a_cons (e_var 0) (a_cons (e_var 1) a_nil))) (a_cons (c_call B__law_next G__law_next hr (by decide) rfl hK hE (a_cons (e_var 0) (a_cons (e_var 1) a_nil))) a_nil)))))) a_nil)))))) ss_nil) (ss_cons (s_if (t_cmp op_ltV cmpV_ok (e_var 2) e_int (nomark _)) (ss_one (s_ret (e_tup (a_cons e_str (a_cons (c_call B__law_next G__law_next hr (by decide) rfl hK hE (a_cons (e_var 0) (a_cons e_int a_nil))) (a_cons (e_var 3) a_nil)))))) ss_nil) (ss_one (s_ret (e_ifExp (t_cmp (op_eqV' hr.units) (eqV_ok hK) (e_var 2) e_int (nomark _)) (e_tup (a_cons e_str (a_cons (e_var 3) a_nil))) (e_tup (a_cons e_str (a_cons (e_var 3) a_nil))))))))))))
abbrev s__law_rows : Stmt := topS 33
theorem sc__law_rows : FnScope ["_law_source", "_law_many", "_law_found", "_law_number"] ["_law_source", "_law_many"] (defScope s__law_rows) := ⟨rfl, rfl, rfl, by decide +kernel, rfl, by decide +kernel, by decide +kernel⟩
def m__law_rows (Z : Ad) : M Flw := mSeq (mOwn 2 (mApL szL (mNil))) (mSeq (mFor (mApL rng1 (mCons (mOp addV (mC (.int 1)) (mCall (fn__law_next Z) (mCons (mVar 0) (mCons (mVar 1) (mNil))))) (mNil))) (gSet 3) (mApp 2 (mCall (fn__law_row Z) (mCons (mVar 0) (mCons (mVar 3) (mNil)))))) (mFz 2 (mRet (mVar 2))))
def fn__law_rows (Z : Ad) : Fn := ar 2 (runF 4 (m__law_rows Z))
theorem ok__law_rows {f : Addr} {fd : FuncData} (F : Fun K "_law_rows" "_law_rows" s__law_rows f fd) (T : Txt K w mg Z) {f__law_next : Addr} {d__law_next : FuncData} (B__law_next : FnB K mg "_law_next" s__law_next ["_law_source", "_law_many"] f__law_next d__law_next) (G__law_next : FnOk P w K mg base CX0 1 f__law_next d__law_next ["_law_source", "_law_many"] (spF K (fn__law_next Z))) {f__law_row : Addr} {d__law_row : FuncData} (B__law_row : FnB K mg "_law_row" s__law_row ["_law_source", "_law_number"] f__law_row d__law_row) (G__law_row : FnOk P w K mg base CX0 4 f__law_row d__law_row ["_law_source", "_law_number"] (spF K (fn__law_row Z))) : FnOk P w K mg base CX0 5 f fd ["_law_source", "_law_many"] (spF K (fn__law_rows Z)) := by
  have S := sc__law_rows
  exact okM0 (k := 4) F S fun cdv A outer s H E Θ hr hK hE => (ss_cons (s_own (i := 2) S.nd rfl (by first | exact Or.inl rfl | exact Or.inr rfl) (n_lst a_nil)) (ss_cons (s_for PassesOwn.never rfl (i_range1 rfl T.n_range (a_cons (e_add hK e_int (c_call B__law_next G__law_next hr (by decide) rfl hK hE (a_cons (e_var 0) (a_cons (e_var 1) a_nil)))) a_nil)) (g_name (i := 3) S.nd rfl (by first | exact Or.inl rfl | exact Or.inr rfl)) (ss_one (s_app (i := 2) rfl (by first | exact Or.inl rfl | exact Or.inr (Or.inl rfl) | exact Or.inr (Or.inr rfl)) (c_call B__law_row G__law_row hr (by decide) rfl hK hE (a_cons (e_var 0) (a_cons (e_var 3) a_nil)))))) (ss_fz (i := 2) (ss_one (s_ret (e_var 2))))))
abbrev s_read_doc : Stmt := topS 25
theorem sc_read_doc : FnScope ["text", "rows", "number", "line", "reader", "row"] ["text"] (defScope s_read_doc) := ⟨rfl, rfl, rfl, by decide +kernel, rfl, by decide +kernel, by decide +kernel⟩
def m_read_doc (Z : Ad) : M Flw := mSeq (mIf (mNotT (mTst (mAp isiV (mCons (mVar 0) (mCons (mC (.ty "str")) (mNil)))))) (mNever) (mNx)) (mSeq (mOwn 1 (mApL szL (mNil))) (mSeq (mFor (mApL enm (mCons (mSplit (mVar 0) (mC (.str "\n"))) (mNil))) (gTp 2 (gCs (gSet 2) (gCs (gSet 3) (gNl)))) (mSeq (mIf (mTst (mOp eqV (mVar 2) (mC (.int 200)))) (mNever) (mNx)) (mSeq (mSet 4 (mMakeR Z.LineReader (fn_LineReader___init__ Z) (mCons (mVar 3) (mCons (mVar 2) (mNil))))) (mSeq (mSet 5 (mMeth Z.LineReader "row" (fn_LineReader_row Z) (mVar 4) mNil)) (mSeq (mIf (mTst (mOp isNV (mVar 5) (mC .non))) (mNever) (mNx)) (mApp 1 (mVar 5))))))) (mFz 1 (mRet (mMake Z.Doc (fn_Doc___init__ Z) (mCons (mVar 1) (mNil)))))))
def fn_read_doc (Z : Ad) : Fn := ar 1 (runF 6 (m_read_doc Z))
theorem ok_read_doc {f : Addr} {fd : FuncData} (F : Fun K "read_doc" "read_doc" s_read_doc f fd) (T : Txt K w mg Z) {f_LineReader_row : Addr} {d_LineReader_row : FuncData} (B_LineReader_row : MtB K "row" s_LineReader_row "LineReader.row" ["self"] Z.LineReader f_LineReader_row d_LineReader_row) (G_LineReader_row : FnOk P w K mg base CX0 4 f_LineReader_row d_LineReader_row ["self"] (spF K (fn_LineReader_row Z))) {f_Doc___init__ : Addr} {d_Doc___init__ : FuncData} (B_Doc : InB K mg "Doc" s_Doc___init__ "Doc.__init__" ["self", "rows"] Z.Doc f_Doc___init__ d_Doc___init__) (G_Doc___init__ : FnOk P w K mg base CX0 4 f_Doc___init__ d_Doc___init__ ["self", "rows"] (spI K Z.Doc (fn_Doc___init__ Z))) {f_LineReader___init__ : Addr} {d_LineReader___init__ : FuncData} (B_LineReader : InB K mg "LineReader" s_LineReader___init__ "LineReader.__init__" ["self", "line", "number"] Z.LineReader f_LineReader___init__ d_LineReader___init__) (G_LineReader___init__ : FnOk P w K mg base CX0 1 f_LineReader___init__ d_LineReader___init__ ["self", "line", "number"] (spIR K Z.LineReader (fn_LineReader___init__ Z))) : FnOk P w K mg base CX0 6 f fd ["text"] (spF K (fn_read_doc Z)) := by
  have S := sc_read_doc
  exact okM0 (k := 5) F S fun cdv A outer s H E Θ hr hK hE => (ss_cons (s_if (t_not (t_val (e_callB call_isi (isiV_ok hK) rfl T.n_isinstance (by rfl) (a_cons (e_var 0) (a_cons (e_bty rfl T.n_str (by rfl)) a_nil))))) (ss_one s_never) ss_nil) (ss_cons (s_own (i := 1) S.nd rfl (by first | exact Or.inl rfl | exact Or.inr rfl) (n_lst a_nil)) (ss_cons (s_for PassesOwn.never rfl (i_enum hK rfl T.n_enumerate (a_cons (e_split (e_var 0) e_str) a_nil)) (g_tup (n := 2) hK rfl (gs_cons (g_name (i := 2) S.nd rfl (by first | exact Or.inl rfl | exact Or.inr rfl)) (gs_cons (g_name (i := 3) S.nd rfl (by first | exact Or.inl rfl | exact Or.inr rfl)) gs_nil))) (ss_cons (s_if (t_cmp (op_eqV' hr.units) (eqV_ok hK) (e_var 2) (e_gint T.c_MOST_ROWS rfl) (nomark _)) (ss_one s_never) ss_nil) (ss_cons (s_set (i := 4) S.nd rfl (by first | exact Or.inl rfl | exact Or.inr rfl) (c_makeR B_LineReader G_LineReader___init__ hr (by decide) rfl hK hE (a_cons (e_var 3) (a_cons (e_var 2) a_nil)))) (ss_cons (s_set (i := 5) S.nd rfl (by first | exact Or.inl rfl | exact Or.inr rfl) (c_meth0 T.cl_LineReader B_LineReader_row G_LineReader_row hr (by decide) hK hE (e_var 4))) (ss_cons (s_if (t_cmp op_isN isNV_ok (e_var 5) e_non (nomark _)) (ss_one s_never) ss_nil) (ss_one (s_app (i := 1) rfl (by first | exact Or.inl rfl | exact Or.inr (Or.inl rfl) | exact Or.inr (Or.inr rfl)) (e_var 5)))))))) (ss_fz (i := 1) (ss_one (s_ret (c_make B_Doc G_Doc___init__ hr (by decide) rfl hK hE (a_cons (e_var 1) a_nil))))))))
abbrev s__law_right : Stmt := topS 35
theorem sc__law_right : FnScope ["_law_rows_here", "_law_wanted", "_law_paper", "_law_told", "_law_row_here"] ["_law_rows_here"] (defScope s__law_right) := ⟨rfl, rfl, rfl, by decide +kernel, rfl, by decide +kernel, by decide +kernel⟩
def m__law_right_s1 (Z : Ad) : M Flw := mSet 1 (mJoin (mC (.str "\n")) (mFl (mComp [4] (mItL (mVar 0)) (gSet 4) (tYesM) (mCall (fn__law_line Z) (mCons (mVar 4) (mNil))))))
def m__law_right_s2 (Z : Ad) : M Flw := mSet 2 (mMake Z.Doc (fn_Doc___init__ Z) (mCons (mVar 0) (mNil)))
def m__law_right_s3 (Z : Ad) : M Flw := mIf (mOrT (mTst (mOp neV (mCall (fn_doc_text Z) (mCons (mVar 2) (mNil))) (mVar 1))) (mTst (mOp neV (mCall (fn_doc_text Z) (mCons (mVar 2) (mNil))) (mVar 1)))) (mRet (mC (.bl false))) (mNx)
def m__law_right_s4 (Z : Ad) : M Flw := mSet 3 (mCall (fn_read_doc Z) (mCons (mVar 1) (mNil)))
def m__law_right_s5 (Z : Ad) : M Flw := mRet (mAndV (mEqM Z.Doc (fn_Doc___eq__ Z) (mVar 3) (mVar 2)) (mAndV (mOp eqV (mMeth Z.Doc "row_list" (fn_Doc_row_list Z) (mVar 3) mNil) (mVar 0)) (mOp eqV (mCall (fn_doc_text Z) (mCons (mCall (fn_read_doc Z) (mCons (mVar 1) (mNil))) (mNil))) (mVar 1))))
def m__law_right_r4 (Z : Ad) : M Flw := m__law_right_s5 Z
def m__law_right_r3 (Z : Ad) : M Flw := mSeq (m__law_right_s4 Z) (m__law_right_r4 Z)
def m__law_right_r2 (Z : Ad) : M Flw := mSeq (m__law_right_s3 Z) (m__law_right_r3 Z)
def m__law_right_r1 (Z : Ad) : M Flw := mSeq (m__law_right_s2 Z) (m__law_right_r2 Z)
def m__law_right (Z : Ad) : M Flw := mSeq (m__law_right_s1 Z) (m__law_right_r1 Z)
def fn__law_right (Z : Ad) : Fn := ar 1 (runF 5 (m__law_right Z))
theorem ok__law_right {f : Addr} {fd : FuncData} (F : Fun K "_law_right" "_law_right" s__law_right f fd) (T : Txt K w mg Z) {f_Doc___eq__ : Addr} {d_Doc___eq__ : FuncData} (B_Doc___eq__ : MtB K "__eq__" s_Doc___eq__ "Doc.__eq__" ["self", "other"] Z.Doc f_Doc___eq__ d_Doc___eq__) (G_Doc___eq__ : FnOk P w K mg base CX0 1 f_Doc___eq__ d_Doc___eq__ ["self", "other"] (spF K (fn_Doc___eq__ Z))) {f_Doc_row_list : Addr} {d_Doc_row_list : FuncData} (B_Doc_row_list : MtB K "row_list" s_Doc_row_list "Doc.row_list" ["self"] Z.Doc f_Doc_row_list d_Doc_row_list) (G_Doc_row_list : FnOk P w K mg base CX0 2 f_Doc_row_list d_Doc_row_list ["self"] (spF K (fn_Doc_row_list Z))) {f__law_line : Addr} {d__law_line : FuncData} (B__law_line : FnB K mg "_law_line" s__law_line ["_law_row_here"] f__law_line d__law_line) (G__law_line : FnOk P w K mg base CX0 1 f__law_line d__law_line ["_law_row_here"] (spF K (fn__law_line Z))) {f_doc_text : Addr} {d_doc_text : FuncData} (B_doc_text : FnB K mg "doc_text" s_doc_text ["doc"] f_doc_text d_doc_text) (G_doc_text : FnOk P w K mg base CX0 2 f_doc_text d_doc_text ["doc"] (spF K (fn_doc_text Z))) {f_read_doc : Addr} {d_read_doc : FuncData} (B_read_doc : FnB K mg "read_doc" s_read_doc ["text"] f_read_doc d_read_doc) (G_read_doc : FnOk P w K mg base CX0 6 f_read_doc d_read_doc ["text"] (spF K (fn_read_doc Z))) {f_Doc___init__ : Addr} {d_Doc___init__ : FuncData} (B_Doc : InB K mg "Doc" s_Doc___init__ "Doc.__init__" ["self", "rows"] Z.Doc f_Doc___init__ d_Doc___init__) (G_Doc___init__ : FnOk P w K mg base CX0 4 f_Doc___init__ d_Doc___init__ ["self", "rows"] (spI K Z.Doc (fn_Doc___init__ Z))) : FnOk P w K mg base CX0 7 f fd ["_law_rows_here"] (spF K (fn__law_right Z)) := by
  have S := sc__law_right
  exact okM0 (k := 6) F S fun cdv A outer s H E Θ hr hK hE => (ss_cons (s_set (i := 1) S.nd rfl (by first | exact Or.inl rfl | exact Or.inr rfl) (e_join hK e_str (e_new (n_comp (own := [("_law_row_here", 4)]) (us := [4]) (g := gSet 4) (t := tYesM) (me := mCall (fn__law_line Z) (mCons (mVar 4) (mNil))) rfl S.nd hK (i_list hK (e_var 0)) (blkOk_by (N := ["_law_rows_here", "_law_wanted", "_law_paper", "_law_told", "_law_row_here"]) (sc := defScope s__law_right) (by decide +kernel)) (by decide) (fun _ _ _ _ _ Θ2 hS => by have hK := hS.1; have hE := hS.2; exact (g_name (i := 4) S.nd rfl (by first | exact Or.inl rfl | exact Or.inr rfl))) (fun _ _ _ _ _ Θ2 hS => by have hK := hS.1; have hE := hS.2; exact p_none) (fun _ _ _ _ _ Θ2 hS => by have hK := hS.1; have hE := hS.2; exact (c_call B__law_line G__law_line hr (by decide) rfl hK hE (a_cons (e_var 4) a_nil))))))) (ss_cons (s_set (i := 2) S.nd rfl (by first | exact Or.inl rfl | exact Or.inr rfl) (c_make B_Doc G_Doc___init__ hr (by decide) rfl hK hE (a_cons (e_var 0) a_nil))) (ss_cons (s_if (PW.pt (w_or (t_cmp (op_neV' hr.units) (neV_ok hK) (c_call B_doc_text G_doc_text hr (by decide) rfl hK hE (a_cons (e_var 2) a_nil)) (e_var 1) (nomark _)) (w_or1 (t_cmp (op_neV' hr.units) (neV_ok hK) (c_kw B_doc_text G_doc_text hr (by decide) rfl hK hE (k_cons (e_var 2) k_nil) (fun _ _ _ _ _ _ us hl => match us, hl with | [_], _ => rfl) (len_cons len_nil)) (e_var 1) (nomark _))))) (ss_one (s_ret e_bl)) ss_nil) (ss_cons (s_set (i := 3) S.nd rfl (by first | exact Or.inl rfl | exact Or.inr rfl) (c_call B_read_doc G_read_doc hr (by decide) rfl hK hE (a_cons (e_var 1) a_nil))) (ss_one (s_ret (e_and (c_eqM B_Doc___eq__ G_Doc___eq__ hr (by decide) hK hE (e_var 3) (e_var 2) (nomark _)) (e_and (e_cmp (op_eqV' hr.units) (eqV_ok hK) (c_meth0 T.cl_Doc B_Doc_row_list G_Doc_row_list hr (by decide) hK hE (e_var 3)) (e_var 0) (nomark _)) (e_one (e_cmp (op_eqV' hr.units) (eqV_ok hK) (c_call B_doc_text G_doc_text hr (by decide) rfl hK hE (a_cons (c_kw B_read_doc G_read_doc hr (by decide) rfl hK hE (k_cons (e_var 1) k_nil) (fun _ _ _ _ _ _ us hl => match us, hl with | [_], _ => rfl) (len_cons len_nil)) a_nil)) (e_var 1) (nomark _)))))))))))
abbrev s_law : Stmt := topS 36
theorem sc_law : FnScope ["_law_script", "_law_cell", "_law_known", "_law_source", "_law_turn", "_law_many", "_law_rows_here", "_law_words", "_law_at"] ["_law_script"] (defScope s_law) := ⟨rfl, rfl, rfl, by decide +kernel, rfl, by decide +kernel, by decide +kernel⟩
def m_law_s1 (Z : Ad) : M Flw := mFor (mItL (mOp addV (mAp lstV (mCons (mCall (fn__law_cell_at Z) (mCons (mVar 0) (mCons (mC (.int 0)) (mNil)))) (mNil))) (mSl (mVar 0) (mPart (mC (.int 1))) (mPart (mC (.int 5)))))) (gSet 1) (mSeq (mSet 3 (mCall (fn__law_source_of Z) (mCons (mVar 1) (mNil)))) (mSeq (mFor (mApL rng1 (mCons (mC (.int 3)) (mNil))) (gSet 4) (mIf (mNotT (mTst (mCall (fn__law_right Z) (mCons (mCall (fn__law_rows Z) (mCons (mVar 3) (mCons (mC (.int 30)) (mNil)))) (mNil))))) (mRet (mC (.bl false))) (mNx))) (mSeq (mSet 5 (mOp addV (mOp addV (mAp lstV (mCons (mAp tupV (mCons (mC (.str "text")) (mCons (mC (.str "")) (mNil)))) (mNil))) (mFl (mComp [8] (mApL rng1 (mCons (mC (.int 198)) (mNil))) (gSet 8) (tYesM) (mAp tupV (mCons (mC (.str "nest")) (mCons (mOp modV (mAp intV (mCons (mVar 8) (mNil))) (mC (.int 9))) (mCons (mVar 8) (mNil)))))))) (mAp lstV (mCons (mAp tupV (mCons (mC (.str "cat")) (mCons (mOp mulV (mAp lstV (mCons (mC (.int 198)) (mNil))) (mC (.int 8))) (mNil)))) (mNil))))) (mIf (mOrT (mNotT (mTst (mCall (fn__law_right Z) (mCons (mVar 5) (mNil))))) (mNotT (mTst (mCall (fn__law_right Z) (mCons (mAp lstV (mCons (mCall (fn__law_row Z) (mCons (mVar 3) (mCons (mC (.int 0)) (mNil)))) (mNil))) (mNil)))))) (mRet (mC (.bl false))) (mNx)))))
def m_law_s2 (Z : Ad) : M Flw := mSet 2 (mAp lstV (mCons (mAp tupV (mCons (mAp lstV (mCons (mAp tupV (mCons (mC (.str "text")) (mCons (mC (.str "")) (mNil)))) (mNil))) (mCons (mC (.str "text ")) (mNil)))) (mCons (mAp tupV (mCons (mAp lstV (mCons (mAp tupV (mCons (mC (.str "line")) (mCons (mC (.str " ")) (mNil)))) (mNil))) (mCons (mC (.str "line  ")) (mNil)))) (mCons (mAp tupV (mCons (mAp lstV (mCons (mAp tupV (mCons (mC (.str "hard")) (mNil))) (mNil))) (mCons (mC (.str "hard")) (mNil)))) (mCons (mAp tupV (mCons (mAp lstV (mCons (mAp tupV (mCons (mC (.str "cat")) (mCons (mAp lstV (mNil)) (mNil)))) (mNil))) (mCons (mC (.str "cat")) (mNil)))) (mNil))))))
def m_law_s3 (Z : Ad) : M Flw := mRet (mOp eqV (mFl (mComp [6, 7] (mItL (mVar 2)) (gTp 2 (gCs (gSet 6) (gCs (gSet 7) (gNl)))) (mTst (mOp neV (mCall (fn_doc_text Z) (mCons (mMake Z.Doc (fn_Doc___init__ Z) (mCons (mVar 6) (mNil))) (mNil))) (mVar 7))) (mVar 6))) (mAp lstV (mNil)))
def m_law_r2 (Z : Ad) : M Flw := m_law_s3 Z
def m_law_r1 (Z : Ad) : M Flw := mSeq (m_law_s2 Z) (m_law_r2 Z)
def m_law (Z : Ad) : M Flw := mSeq (m_law_s1 Z) (m_law_r1 Z)
def fn_law (Z : Ad) : Fn := ar 1 (runF 9 (m_law Z))
theorem ok_law {f : Addr} {fd : FuncData} (F : Fun K "law" "law" s_law f fd) (T : Txt K w mg Z) {f__law_cell_at : Addr} {d__law_cell_at : FuncData} (B__law_cell_at : FnB K mg "_law_cell_at" s__law_cell_at ["_law_script", "_law_k"] f__law_cell_at d__law_cell_at) (G__law_cell_at : FnOk P w K mg base CX0 1 f__law_cell_at d__law_cell_at ["_law_script", "_law_k"] (spF K (fn__law_cell_at Z))) {f__law_right : Addr} {d__law_right : FuncData} (B__law_right : FnB K mg "_law_right" s__law_right ["_law_rows_here"] f__law_right d__law_right) (G__law_right : FnOk P w K mg base CX0 7 f__law_right d__law_right ["_law_rows_here"] (spF K (fn__law_right Z))) {f__law_row : Addr} {d__law_row : FuncData} (B__law_row : FnB K mg "_law_row" s__law_row ["_law_source", "_law_number"] f__law_row d__law_row) (G__law_row : FnOk P w K mg base CX0 4 f__law_row d__law_row ["_law_source", "_law_number"] (spF K (fn__law_row Z))) {f__law_rows : Addr} {d__law_rows : FuncData} (B__law_rows : FnB K mg "_law_rows" s__law_rows ["_law_source", "_law_many"] f__law_rows d__law_rows) (G__law_rows : FnOk P w K mg base CX0 5 f__law_rows d__law_rows ["_law_source", "_law_many"] (spF K (fn__law_rows Z))) {f__law_source_of : Addr} {d__law_source_of : FuncData} (B__law_source_of : FnB K mg "_law_source_of" s__law_source_of ["_law_cell"] f__law_source_of d__law_source_of) (G__law_source_of : FnOk P w K mg base CX0 1 f__law_source_of d__law_source_of ["_law_cell"] (spF K (fn__law_source_of Z))) {f_doc_text : Addr} {d_doc_text : FuncData} (B_doc_text : FnB K mg "doc_text" s_doc_text ["doc"] f_doc_text d_doc_text) (G_doc_text : FnOk P w K mg base CX0 2 f_doc_text d_doc_text ["doc"] (spF K (fn_doc_text Z))) {f_Doc___init__ : Addr} {d_Doc___init__ : FuncData} (B_Doc : InB K mg "Doc" s_Doc___init__ "Doc.__init__" ["self", "rows"] Z.Doc f_Doc___init__ d_Doc___init__) (G_Doc___init__ : FnOk P w K mg base CX0 4 f_Doc___init__ d_Doc___init__ ["self", "rows"] (spI K Z.Doc (fn_Doc___init__ Z))) : FnOk P w K mg base CX0 8 f fd ["_law_script"] (spF K (fn_law Z)) := by
  have S := sc_law
  exact okM0 (k := 7) F S fun cdv A outer s H E Θ hr hK hE => (ss_cons (s_for PassesOwn.never rfl (i_list hK (e_add hK (e_lst (a_cons (c_call B__law_cell_at G__law_cell_at hr (by decide) rfl hK hE (a_cons (e_var 0) (a_cons e_int a_nil))) a_nil)) (e_slice hK (e_var 0) (o_some e_int) (o_some e_int)))) (g_name (i := 1) S.nd rfl (by first | exact Or.inl rfl | exact Or.inr rfl)) (ss_cons (s_set (i := 3) S.nd rfl (by first | exact Or.inl rfl | exact Or.inr rfl) (c_call B__law_source_of G__law_source_of hr (by decide) rfl hK hE (a_cons (e_var 1) a_nil))) (ss_cons (s_for PassesOwn.never rfl (i_range1 rfl T.n_range (a_cons e_int a_nil)) (g_name (i := 4) S.nd rfl (by first | exact Or.inl rfl | exact Or.inr rfl)) (ss_one (s_if (t_not (t_val (c_call B__law_right G__law_right hr (by decide) rfl hK hE (a_cons (c_call B__law_rows G__law_rows hr (by decide) rfl hK hE (a_cons (e_var 3) (a_cons e_int a_nil))) a_nil)))) (ss_one (s_ret e_bl)) ss_nil))) (ss_cons (s_set (i := 5) S.nd rfl (by first | exact Or.inl rfl | exact Or.inr rfl) (e_add hK (e_add hK (e_lst (a_cons (e_tup (a_cons e_str (a_cons e_str a_nil))) a_nil)) (e_new (n_comp (own := [("_law_at", 8)]) (us := [8]) (g := gSet 8) (t := tYesM) (me := mAp tupV (mCons (mC (.str "nest")) (mCons (mOp modV (mAp intV (mCons (mVar 8) (mNil))) (mC (.int 9))) (mCons (mVar 8) (mNil))))) rfl S.nd hK (i_range1 rfl T.n_range (a_cons e_int a_nil)) (blkOk_by (N := ["_law_script", "_law_cell", "_law_known", "_law_source", "_law_turn", "_law_many", "_law_rows_here", "_law_words", "_law_at"]) (sc := defScope s_law) (by decide +kernel)) (by decide) (fun _ _ _ _ _ Θ2 hS => by have hK := hS.1; have hE := hS.2; exact (g_name (i := 8) S.nd rfl (by first | exact Or.inl rfl | exact Or.inr rfl))) (fun _ _ _ _ _ Θ2 hS => by have hK := hS.1; have hE := hS.2; exact p_none) (fun _ _ _ _ _ Θ2 hS => by have hK := hS.1; have hE := hS.2; exact (e_tup (a_cons e_str (a_cons (e_mod (e_callTy call_int1 intV_ok rfl T.n_int (by rfl) (a_cons (e_var 8) a_nil)) e_int) (a_cons (e_var 8) a_nil)))))))) (e_lst (a_cons (e_tup (a_cons e_str (a_cons (e_mul hK (e_lst (a_cons e_int a_nil)) e_int) a_nil))) a_nil)))) (ss_one (s_if (PW.pt (w_or (t_not (t_val (c_call B__law_right G__law_right hr (by decide) rfl hK hE (a_cons (e_var 5) a_nil)))) (w_or1 (t_not (t_val (c_call B__law_right G__law_right hr (by decide) rfl hK hE (a_cons (e_lst (a_cons (c_call B__law_row G__law_row hr (by decide) rfl hK hE (a_cons (e_var 3) (a_cons e_int a_nil))) a_nil)) a_nil))))))) (ss_one (s_ret e_bl)) ss_nil)))))) (ss_cons (s_set (i := 2) S.nd rfl (by first | exact Or.inl rfl | exact Or.inr rfl) (e_lst (a_cons (e_tup (a_cons (e_lst (a_cons (e_tup (a_cons e_str (a_cons e_str a_nil))) a_nil)) (a_cons e_str a_nil))) (a_cons (e_tup (a_cons (e_lst (a_cons (e_tup (a_cons e_str (a_cons e_str a_nil))) a_nil)) (a_cons e_str a_nil))) (a_cons (e_tup (a_cons (e_lst (a_cons (e_tup (a_cons e_str a_nil)) a_nil)) (a_cons e_str a_nil))) (a_cons (e_tup (a_cons (e_lst (a_cons (e_tup (a_cons e_str (a_cons (e_lst a_nil) a_nil))) a_nil)) (a_cons e_str a_nil))) a_nil)))))) (ss_one (s_ret (e_cmp (op_eqV' hr.units) (eqV_ok hK) (e_new (n_comp (own := [("_law_rows_here", 6), ("_law_words", 7)]) (us := [6, 7]) (g := gTp 2 (gCs (gSet 6) (gCs (gSet 7) (gNl)))) (t := mTst (mOp neV (mCall (fn_doc_text Z) (mCons (mMake Z.Doc (fn_Doc___init__ Z) (mCons (mVar 6) (mNil))) (mNil))) (mVar 7))) (me := mVar 6) rfl S.nd hK (i_list hK (e_var 2)) (blkOk_by (N := ["_law_script", "_law_cell", "_law_known", "_law_source", "_law_turn", "_law_many", "_law_rows_here", "_law_words", "_law_at"]) (sc := defScope s_law) (by decide +kernel)) (by decide) (fun _ _ _ _ _ Θ2 hS => by have hK := hS.1; have hE := hS.2; exact (g_tup (n := 2) hK rfl (gs_cons (g_name (i := 6) S.nd rfl (by first | exact Or.inl rfl | exact Or.inr rfl)) (gs_cons (g_name (i := 7) S.nd rfl (by first | exact Or.inl rfl | exact Or.inr rfl)) gs_nil)))) (fun _ _ _ _ _ Θ2 hS => by have hK := hS.1; have hE := hS.2; exact (p_one (t_cmp (op_neV' hr.units) (neV_ok hK) (c_call B_doc_text G_doc_text hr (by decide) rfl hK hE (a_cons (c_make B_Doc G_Doc___init__ hr (by decide) rfl hK hE (a_cons (e_var 6) a_nil)) a_nil)) (e_var 7) (nomark _)))) (fun _ _ _ _ _ Θ2 hS => by have hK := hS.1; have hE := hS.2; exact (e_var 6)))) (e_lst a_nil) (nomark _))))))
end
end Lw
set_option Elab.async false
set_option linter.all false
set_option maxRecDepth 100000
set_option maxHeartbeats 2000000
namespace Lw
open PySem L2 Mi
inductive Row where
  | text (s : Str) | line (s : Str) | hard | cat (l : List Nat) | nest (k p : Nat) | align (p : Nat) | group (p : Nat)
def Row.iv : Row → IV
  | .text s => .tup [.str "text", .str s]
  | .line s => .tup [.str "line", .str s]
  | .hard => .tup [.str "hard"]
  | .cat l => .tup [.str "cat", .fl (l.map nI)]
  | .nest k p => .tup [.str "nest", nI k, nI p]
  | .align p => .tup [.str "align", nI p]
  | .group p => .tup [.str "group", nI p]
def Row.parts : Row → List Nat
  | .text _ | .line _ | .hard => []
  | .cat l => l
  | .nest _ p | .align p | .group p => [p]
/-- rows that may stand at place n -/
def Row.ok (n : Nat) : Row → Prop
  | .text s => s.length ≤ 20 ∧ ∀ c ∈ s.cps.toList, 32 ≤ c ∧ c ≤ 126
  | .line s => s.length ≤ 3 ∧ ∀ c ∈ s.cps.toList, 32 ≤ c ∧ c ≤ 126
  | .hard => True
  | .cat l => l.length ≤ 8 ∧ ∀ p ∈ l, p < n
  | .nest k p => k ≤ 8 ∧ p < n
  | .align p => p < n
  | .group p => p < n
theorem copied_ok (Z : Ad) (r : Row) (μ : List SO) : fn_copied_row Z [r.iv] μ = .ok r.iv μ := by
  cases r <;> kernel_rfl
theorem integer_ok (Z : Ad) (i : Int) (μ : List SO) : fn_is_integer Z [.int i] μ = .ok (.bl true) μ := by kernel_rfl
theorem between_ok (Z : Ad) (i a b : Int) (h1 : a ≤ i) (h2 : i ≤ b) (μ : List SO) : fn_is_between Z [.int i, .int a, .int b] μ = .ok (.bl true) μ := by
  apply of_WF
  unfold fn_is_between m_is_between
  simp (config := { failIfUnchanged := false, decide := false }) only [W_bind, W_pure, W_no, W_opt, W_nox, W_op, W_un, W_C, W_varM, W_tst, W_boolM, W_ifB, W_notT, W_andT, W_orT, W_ifE, W_andV, W_orV, W_notV, W_chain, W_nil, W_cons, W_ap, W_apL, W_fl, W_nx, W_brk, W_cnt, W_seq, W_set, W_own, W_ret, W_retN, W_drop, W_if, W_call, W_make, W_fld, W_ix, W_part, W_noPart, W_sl, W_itL, W_itT, W_itS, W_for, W_forNil, W_while, W_gset, W_gcons, W_gnil, W_par2, W_fzM, W_rf, W_ownA, W_setIx, WF_run, WF_ok, WF_arM, eq_self, setE_mk, List.map_cons, List.map_nil, List.length_cons, List.length_nil, List.replicate, List.cons_append, List.nil_append, List.append_nil, List.set_cons_zero, List.set_cons_succ, List.getElem?_cons_zero, List.getElem?_cons_succ, Nat.reduceAdd, Nat.reduceSub, Nat.sub_zero, if_true, if_false, Bool.false_eq_true, and_self, and_true, true_and, Int.reduceLT, Int.reduceLE, Nat.reduceLeDiff, Nat.reduceLT, decide_true, decide_false, Bool.not_true, Bool.not_false, addV_int, subV_int, negV_int, ltV_int, leV_int, gtV_int, geV_int, eqV_int, neV_int, eqV_str, neV_str, intV_int, intV_bl, lenV_fl, lenV_tup, listV_fl, tupleV_fl, ixS_fl, ixS_tup, enm_fl, tupV, lstV, szL, szl, addV_fl, W_ownIxM, W_appM, W_parVN, W_parNV, W_parNN, W_parVVN, minV_int, maxV_int, scI, W_selfM, WI_run, WI_end, WI_ok, Int.cast_ofNat_Int, Int.reduceBEq, Int.reduceBNe, beq_self_eq_true, Bool.not_eq_true, Bool.and_true, Bool.true_and, W_gtupM, W_opL, W_ownSet, integer_ok, leV, cmpV, decide_eq_true h1, decide_eq_true h2]
theorem sp_cps : ((" " : Str)).cps.toList = [32] := by decide +kernel
theorem ti_cps : (("~" : Str)).cps.toList = [126] := by decide +kernel
theorem one_lt (a b : Nat) : decide ([a] < [b]) = decide (a < b) := by
  by_cases h : a < b
  · rw [decide_eq_true h]; exact decide_eq_true (List.Lex.rel h)
  · rw [decide_eq_false h]
    refine decide_eq_false fun z => ?_
    cases z with
    | rel z => exact h z
    | cons z => cases z
theorem signs_ok (Z : Ad) (z : Str) (m : Int) (h1 : (z.length : Int) ≤ m) (h2 : z.length ≤ 1000) (h : ∀ c ∈ z.cps.toList, 32 ≤ c ∧ c ≤ 126) (μ : List SO) : fn_is_signs Z [.str z, .int m] μ = .ok (.bl true) μ := by
  apply of_WF
  unfold fn_is_signs m_is_signs
  have z1 : isiV [.str z, .ty "str"] = some (.bl true) := by kernel_rfl
  have z2 : lenV [.str z] = some (.int z.length) := by
    unfold lenV
    exact if_pos (by unfold szl; omega)
  simp (config := { failIfUnchanged := false, decide := false }) only [W_bind, W_pure, W_no, W_opt, W_nox, W_op, W_un, W_C, W_varM, W_tst, W_boolM, W_ifB, W_notT, W_andT, W_orT, W_ifE, W_andV, W_orV, W_notV, W_chain, W_nil, W_cons, W_ap, W_apL, W_fl, W_nx, W_brk, W_cnt, W_seq, W_set, W_own, W_ret, W_retN, W_drop, W_if, W_call, W_make, W_fld, W_ix, W_part, W_noPart, W_sl, W_itL, W_itT, W_itS, W_for, W_forNil, W_while, W_gset, W_gcons, W_gnil, W_par2, W_fzM, W_rf, W_ownA, W_setIx, WF_run, WF_ok, WF_arM, eq_self, setE_mk, List.map_cons, List.map_nil, List.length_cons, List.length_nil, List.replicate, List.cons_append, List.nil_append, List.append_nil, List.set_cons_zero, List.set_cons_succ, List.getElem?_cons_zero, List.getElem?_cons_succ, Nat.reduceAdd, Nat.reduceSub, Nat.sub_zero, if_true, if_false, Bool.false_eq_true, and_self, and_true, true_and, Int.reduceLT, Int.reduceLE, Nat.reduceLeDiff, Nat.reduceLT, decide_true, decide_false, Bool.not_true, Bool.not_false, addV_int, subV_int, negV_int, ltV_int, leV_int, gtV_int, geV_int, eqV_int, neV_int, eqV_str, neV_str, intV_int, intV_bl, lenV_fl, lenV_tup, listV_fl, tupleV_fl, ixS_fl, ixS_tup, enm_fl, tupV, lstV, szL, szl, addV_fl, W_ownIxM, W_appM, W_parVN, W_parNV, W_parNN, W_parVVN, minV_int, maxV_int, scI, W_selfM, WI_run, WI_end, WI_ok, Int.cast_ofNat_Int, Int.reduceBEq, Int.reduceBNe, beq_self_eq_true, Bool.not_eq_true, Bool.and_true, Bool.true_and, W_gtupM, W_opL, W_ownSet, z1, z2, decide_eq_true h1]
  refine W_compM (fun _ => .bl true) ?_
  simp (config := { failIfUnchanged := false, decide := false }) only [W_bind, W_pure, W_no, W_opt, W_nox, W_op, W_un, W_C, W_varM, W_tst, W_boolM, W_ifB, W_notT, W_andT, W_orT, W_ifE, W_andV, W_orV, W_notV, W_chain, W_nil, W_cons, W_ap, W_apL, W_fl, W_nx, W_brk, W_cnt, W_seq, W_set, W_own, W_ret, W_retN, W_drop, W_if, W_call, W_make, W_fld, W_ix, W_part, W_noPart, W_sl, W_itL, W_itT, W_itS, W_for, W_forNil, W_while, W_gset, W_gcons, W_gnil, W_par2, W_fzM, W_rf, W_ownA, W_setIx, WF_run, WF_ok, WF_arM, eq_self, setE_mk, List.map_cons, List.map_nil, List.length_cons, List.length_nil, List.replicate, List.cons_append, List.nil_append, List.append_nil, List.set_cons_zero, List.set_cons_succ, List.getElem?_cons_zero, List.getElem?_cons_succ, Nat.reduceAdd, Nat.reduceSub, Nat.sub_zero, if_true, if_false, Bool.false_eq_true, and_self, and_true, true_and, Int.reduceLT, Int.reduceLE, Nat.reduceLeDiff, Nat.reduceLT, decide_true, decide_false, Bool.not_true, Bool.not_false, addV_int, subV_int, negV_int, ltV_int, leV_int, gtV_int, geV_int, eqV_int, neV_int, eqV_str, neV_str, intV_int, intV_bl, lenV_fl, lenV_tup, listV_fl, tupleV_fl, ixS_fl, ixS_tup, enm_fl, tupV, lstV, szL, szl, addV_fl, W_ownIxM, W_appM, W_parVN, W_parNV, W_parNN, W_parVVN, minV_int, maxV_int, scI, W_selfM, WI_run, WI_end, WI_ok, Int.cast_ofNat_Int, Int.reduceBEq, Int.reduceBNe, beq_self_eq_true, Bool.not_eq_true, Bool.and_true, Bool.true_and, W_gtupM, W_opL, W_ownSet]
  have hl : (sgnL z).length = z.length := by unfold sgnL; rw [List.length_map]; rfl
  refine ⟨by rw [hl]; omega, ?_, ?_⟩
  · intro x hx
    unfold sgnL at hx
    obtain ⟨c, hc, rfl⟩ := List.mem_map.mp hx
    obtain ⟨c1, c2⟩ := h c hc
    apply of_W
    simp (config := { failIfUnchanged := false, decide := false }) only [W_bind, W_pure, W_no, W_opt, W_nox, W_op, W_un, W_C, W_varM, W_tst, W_boolM, W_ifB, W_notT, W_andT, W_orT, W_ifE, W_andV, W_orV, W_notV, W_chain, W_nil, W_cons, W_ap, W_apL, W_fl, W_nx, W_brk, W_cnt, W_seq, W_set, W_own, W_ret, W_retN, W_drop, W_if, W_call, W_make, W_fld, W_ix, W_part, W_noPart, W_sl, W_itL, W_itT, W_itS, W_for, W_forNil, W_while, W_gset, W_gcons, W_gnil, W_par2, W_fzM, W_rf, W_ownA, W_setIx, WF_run, WF_ok, WF_arM, eq_self, setE_mk, List.map_cons, List.map_nil, List.length_cons, List.length_nil, List.replicate, List.cons_append, List.nil_append, List.append_nil, List.set_cons_zero, List.set_cons_succ, List.getElem?_cons_zero, List.getElem?_cons_succ, Nat.reduceAdd, Nat.reduceSub, Nat.sub_zero, if_true, if_false, Bool.false_eq_true, and_self, and_true, true_and, Int.reduceLT, Int.reduceLE, Nat.reduceLeDiff, Nat.reduceLT, decide_true, decide_false, Bool.not_true, Bool.not_false, addV_int, subV_int, negV_int, ltV_int, leV_int, gtV_int, geV_int, eqV_int, neV_int, eqV_str, neV_str, intV_int, intV_bl, lenV_fl, lenV_tup, listV_fl, tupleV_fl, ixS_fl, ixS_tup, enm_fl, tupV, lstV, szL, szl, addV_fl, W_ownIxM, W_appM, W_parVN, W_parNV, W_parNN, W_parVVN, minV_int, maxV_int, scI, W_selfM, WI_run, WI_end, WI_ok, Int.cast_ofNat_Int, Int.reduceBEq, Int.reduceBNe, beq_self_eq_true, Bool.not_eq_true, Bool.and_true, Bool.true_and, W_gtupM, W_opL, W_ownSet]
    have e1 : leV (.str " ") (.str ⟨#[c]⟩) = some (.bl true) := by
      show some (IV.bl (!decide ([c] < ((" " : Str)).cps.toList))) = _
      rw [sp_cps, one_lt, decide_eq_false (by omega)]; rfl
    have e2 : leV (.str ⟨#[c]⟩) (.str "~") = some (.bl true) := by
      show some (IV.bl (!decide ((("~" : Str)).cps.toList < [c]))) = _
      rw [ti_cps, one_lt, decide_eq_false (by omega)]; rfl
    simp (config := { failIfUnchanged := false, decide := false }) only [W_bind, W_pure, W_no, W_opt, W_nox, W_op, W_un, W_C, W_varM, W_tst, W_boolM, W_ifB, W_notT, W_andT, W_orT, W_ifE, W_andV, W_orV, W_notV, W_chain, W_nil, W_cons, W_ap, W_apL, W_fl, W_nx, W_brk, W_cnt, W_seq, W_set, W_own, W_ret, W_retN, W_drop, W_if, W_call, W_make, W_fld, W_ix, W_part, W_noPart, W_sl, W_itL, W_itT, W_itS, W_for, W_forNil, W_while, W_gset, W_gcons, W_gnil, W_par2, W_fzM, W_rf, W_ownA, W_setIx, WF_run, WF_ok, WF_arM, eq_self, setE_mk, List.map_cons, List.map_nil, List.length_cons, List.length_nil, List.replicate, List.cons_append, List.nil_append, List.append_nil, List.set_cons_zero, List.set_cons_succ, List.getElem?_cons_zero, List.getElem?_cons_succ, Nat.reduceAdd, Nat.reduceSub, Nat.sub_zero, if_true, if_false, Bool.false_eq_true, and_self, and_true, true_and, Int.reduceLT, Int.reduceLE, Nat.reduceLeDiff, Nat.reduceLT, decide_true, decide_false, Bool.not_true, Bool.not_false, addV_int, subV_int, negV_int, ltV_int, leV_int, gtV_int, geV_int, eqV_int, neV_int, eqV_str, neV_str, intV_int, intV_bl, lenV_fl, lenV_tup, listV_fl, tupleV_fl, ixS_fl, ixS_tup, enm_fl, tupV, lstV, szL, szl, addV_fl, W_ownIxM, W_appM, W_parVN, W_parNV, W_parNN, W_parVVN, minV_int, maxV_int, scI, W_selfM, WI_run, WI_end, WI_ok, Int.cast_ofNat_Int, Int.reduceBEq, Int.reduceBNe, beq_self_eq_true, Bool.not_eq_true, Bool.and_true, Bool.true_and, W_gtupM, W_opL, W_ownSet, e1, e2]
  · have e : (sgnL z).map (fun _ => IV.bl true) = ((sgnL z).map fun _ => true).map IV.bl := by rw [List.map_map]; rfl
    rw [e]
    simp (config := { failIfUnchanged := false, decide := false }) only [W_bind, W_pure, W_no, W_opt, W_nox, W_op, W_un, W_C, W_varM, W_tst, W_boolM, W_ifB, W_notT, W_andT, W_orT, W_ifE, W_andV, W_orV, W_notV, W_chain, W_nil, W_cons, W_ap, W_apL, W_fl, W_nx, W_brk, W_cnt, W_seq, W_set, W_own, W_ret, W_retN, W_drop, W_if, W_call, W_make, W_fld, W_ix, W_part, W_noPart, W_sl, W_itL, W_itT, W_itS, W_for, W_forNil, W_while, W_gset, W_gcons, W_gnil, W_par2, W_fzM, W_rf, W_ownA, W_setIx, WF_run, WF_ok, WF_arM, eq_self, setE_mk, List.map_cons, List.map_nil, List.length_cons, List.length_nil, List.replicate, List.cons_append, List.nil_append, List.append_nil, List.set_cons_zero, List.set_cons_succ, List.getElem?_cons_zero, List.getElem?_cons_succ, Nat.reduceAdd, Nat.reduceSub, Nat.sub_zero, if_true, if_false, Bool.false_eq_true, and_self, and_true, true_and, Int.reduceLT, Int.reduceLE, Nat.reduceLeDiff, Nat.reduceLT, decide_true, decide_false, Bool.not_true, Bool.not_false, addV_int, subV_int, negV_int, ltV_int, leV_int, gtV_int, geV_int, eqV_int, neV_int, eqV_str, neV_str, intV_int, intV_bl, lenV_fl, lenV_tup, listV_fl, tupleV_fl, ixS_fl, ixS_tup, enm_fl, tupV, lstV, szL, szl, addV_fl, W_ownIxM, W_appM, W_parVN, W_parNV, W_parNN, W_parVVN, minV_int, maxV_int, scI, W_selfM, WI_run, WI_end, WI_ok, Int.cast_ofNat_Int, Int.reduceBEq, Int.reduceBNe, beq_self_eq_true, Bool.not_eq_true, Bool.and_true, Bool.true_and, W_gtupM, W_opL, W_ownSet, allV_bools]
    simp
theorem w_text_line : (Str.ofString "text" == Str.ofString "line") = false := by decide +kernel
theorem w_text_hard : (Str.ofString "text" == Str.ofString "hard") = false := by decide +kernel
theorem w_text_cat : (Str.ofString "text" == Str.ofString "cat") = false := by decide +kernel
theorem w_text_nest : (Str.ofString "text" == Str.ofString "nest") = false := by decide +kernel
theorem w_text_align : (Str.ofString "text" == Str.ofString "align") = false := by decide +kernel
theorem w_text_group : (Str.ofString "text" == Str.ofString "group") = false := by decide +kernel
theorem w_line_text : (Str.ofString "line" == Str.ofString "text") = false := by decide +kernel
theorem w_line_hard : (Str.ofString "line" == Str.ofString "hard") = false := by decide +kernel
theorem w_line_cat : (Str.ofString "line" == Str.ofString "cat") = false := by decide +kernel
theorem w_line_nest : (Str.ofString "line" == Str.ofString "nest") = false := by decide +kernel
theorem w_line_align : (Str.ofString "line" == Str.ofString "align") = false := by decide +kernel
theorem w_line_group : (Str.ofString "line" == Str.ofString "group") = false := by decide +kernel
theorem w_hard_text : (Str.ofString "hard" == Str.ofString "text") = false := by decide +kernel
theorem w_hard_line : (Str.ofString "hard" == Str.ofString "line") = false := by decide +kernel
theorem w_hard_cat : (Str.ofString "hard" == Str.ofString "cat") = false := by decide +kernel
theorem w_hard_nest : (Str.ofString "hard" == Str.ofString "nest") = false := by decide +kernel
theorem w_hard_align : (Str.ofString "hard" == Str.ofString "align") = false := by decide +kernel
theorem w_hard_group : (Str.ofString "hard" == Str.ofString "group") = false := by decide +kernel
theorem w_cat_text : (Str.ofString "cat" == Str.ofString "text") = false := by decide +kernel
theorem w_cat_line : (Str.ofString "cat" == Str.ofString "line") = false := by decide +kernel
theorem w_cat_hard : (Str.ofString "cat" == Str.ofString "hard") = false := by decide +kernel
theorem w_cat_nest : (Str.ofString "cat" == Str.ofString "nest") = false := by decide +kernel
theorem w_cat_align : (Str.ofString "cat" == Str.ofString "align") = false := by decide +kernel
theorem w_cat_group : (Str.ofString "cat" == Str.ofString "group") = false := by decide +kernel
theorem w_nest_text : (Str.ofString "nest" == Str.ofString "text") = false := by decide +kernel
theorem w_nest_line : (Str.ofString "nest" == Str.ofString "line") = false := by decide +kernel
theorem w_nest_hard : (Str.ofString "nest" == Str.ofString "hard") = false := by decide +kernel
theorem w_nest_cat : (Str.ofString "nest" == Str.ofString "cat") = false := by decide +kernel
theorem w_nest_align : (Str.ofString "nest" == Str.ofString "align") = false := by decide +kernel
theorem w_nest_group : (Str.ofString "nest" == Str.ofString "group") = false := by decide +kernel
theorem w_align_text : (Str.ofString "align" == Str.ofString "text") = false := by decide +kernel
theorem w_align_line : (Str.ofString "align" == Str.ofString "line") = false := by decide +kernel
theorem w_align_hard : (Str.ofString "align" == Str.ofString "hard") = false := by decide +kernel
theorem w_align_cat : (Str.ofString "align" == Str.ofString "cat") = false := by decide +kernel
theorem w_align_nest : (Str.ofString "align" == Str.ofString "nest") = false := by decide +kernel
theorem w_align_group : (Str.ofString "align" == Str.ofString "group") = false := by decide +kernel
theorem w_group_text : (Str.ofString "group" == Str.ofString "text") = false := by decide +kernel
theorem w_group_line : (Str.ofString "group" == Str.ofString "line") = false := by decide +kernel
theorem w_group_hard : (Str.ofString "group" == Str.ofString "hard") = false := by decide +kernel
theorem w_group_cat : (Str.ofString "group" == Str.ofString "cat") = false := by decide +kernel
theorem w_group_nest : (Str.ofString "group" == Str.ofString "nest") = false := by decide +kernel
theorem w_group_align : (Str.ofString "group" == Str.ofString "align") = false := by decide +kernel
/-! ### documents -/
theorem row_is (Z : Ad) (n : Nat) (r : Row) (h : r.ok n) (μ : List SO) : fn_is_row Z [r.iv, nI n] μ = .ok (.bl true) μ := by
  cases r with
  | text s =>
    apply of_WF
    unfold fn_is_row m_is_row m_is_row_r1
    have z1 : isiV [.tup [.str "text", .str s], .ty "tuple"] = some (.bl true) := by kernel_rfl
    have z2 : atI [IV.str "text", .str s] 0 = some (.str "text") := by kernel_rfl
    have z3 : atI [IV.str "text", .str s] 1 = some (.str s) := by kernel_rfl
    have z4 : isiV [.str "text", .ty "str"] = some (.bl true) := by kernel_rfl
    have z5 : tabIn true tab_SIZES (.str "text") = some (.bl false) := by kernel_rfl
    have z6 : tabV tab_SIZES (.str "text") = some (.int 2) := by kernel_rfl
    have z7 : tabIn false tab_MOST_SIGNS (.str "text") = some (.bl true) := by kernel_rfl
    have z8 : tabV tab_MOST_SIGNS (.str "text") = some (.int 20) := by kernel_rfl
    unfold Row.iv
    have b1 := signs_ok Z s 20 (by have := h.1; omega) (by have := h.1; omega) h.2 μ
    simp (config := { failIfUnchanged := false, decide := false }) only [W_bind, W_pure, W_no, W_opt, W_nox, W_op, W_un, W_C, W_varM, W_tst, W_boolM, W_ifB, W_notT, W_andT, W_orT, W_ifE, W_andV, W_orV, W_notV, W_chain, W_nil, W_cons, W_ap, W_apL, W_fl, W_nx, W_brk, W_cnt, W_seq, W_set, W_own, W_ret, W_retN, W_drop, W_if, W_call, W_make, W_fld, W_ix, W_part, W_noPart, W_sl, W_itL, W_itT, W_itS, W_for, W_forNil, W_while, W_gset, W_gcons, W_gnil, W_par2, W_fzM, W_rf, W_ownA, W_setIx, WF_run, WF_ok, WF_arM, eq_self, setE_mk, List.map_cons, List.map_nil, List.length_cons, List.length_nil, List.replicate, List.cons_append, List.nil_append, List.append_nil, List.set_cons_zero, List.set_cons_succ, List.getElem?_cons_zero, List.getElem?_cons_succ, Nat.reduceAdd, Nat.reduceSub, Nat.sub_zero, if_true, if_false, Bool.false_eq_true, and_self, and_true, true_and, Int.reduceLT, Int.reduceLE, Nat.reduceLeDiff, Nat.reduceLT, decide_true, decide_false, Bool.not_true, Bool.not_false, addV_int, subV_int, negV_int, ltV_int, leV_int, gtV_int, geV_int, eqV_int, neV_int, eqV_str, neV_str, intV_int, intV_bl, lenV_fl, lenV_tup, listV_fl, tupleV_fl, ixS_fl, ixS_tup, enm_fl, tupV, lstV, szL, szl, addV_fl, W_ownIxM, W_appM, W_parVN, W_parNV, W_parNN, W_parVVN, minV_int, maxV_int, scI, W_selfM, WI_run, WI_end, WI_ok, Int.cast_ofNat_Int, Int.reduceBEq, Int.reduceBNe, beq_self_eq_true, Bool.not_eq_true, Bool.and_true, Bool.true_and, W_gtupM, W_opL, W_ownSet, z1, z2, z3, z4, z5, z6, z7, z8, b1]
  | line s =>
    apply of_WF
    unfold fn_is_row m_is_row m_is_row_r1
    have z1 : isiV [.tup [.str "line", .str s], .ty "tuple"] = some (.bl true) := by kernel_rfl
    have z2 : atI [IV.str "line", .str s] 0 = some (.str "line") := by kernel_rfl
    have z3 : atI [IV.str "line", .str s] 1 = some (.str s) := by kernel_rfl
    have z4 : isiV [.str "line", .ty "str"] = some (.bl true) := by kernel_rfl
    have z5 : tabIn true tab_SIZES (.str "line") = some (.bl false) := by kernel_rfl
    have z6 : tabV tab_SIZES (.str "line") = some (.int 2) := by kernel_rfl
    have z7 : tabIn false tab_MOST_SIGNS (.str "line") = some (.bl true) := by kernel_rfl
    have z8 : tabV tab_MOST_SIGNS (.str "line") = some (.int 3) := by kernel_rfl
    unfold Row.iv
    have b1 := signs_ok Z s 3 (by have := h.1; omega) (by have := h.1; omega) h.2 μ
    simp (config := { failIfUnchanged := false, decide := false }) only [W_bind, W_pure, W_no, W_opt, W_nox, W_op, W_un, W_C, W_varM, W_tst, W_boolM, W_ifB, W_notT, W_andT, W_orT, W_ifE, W_andV, W_orV, W_notV, W_chain, W_nil, W_cons, W_ap, W_apL, W_fl, W_nx, W_brk, W_cnt, W_seq, W_set, W_own, W_ret, W_retN, W_drop, W_if, W_call, W_make, W_fld, W_ix, W_part, W_noPart, W_sl, W_itL, W_itT, W_itS, W_for, W_forNil, W_while, W_gset, W_gcons, W_gnil, W_par2, W_fzM, W_rf, W_ownA, W_setIx, WF_run, WF_ok, WF_arM, eq_self, setE_mk, List.map_cons, List.map_nil, List.length_cons, List.length_nil, List.replicate, List.cons_append, List.nil_append, List.append_nil, List.set_cons_zero, List.set_cons_succ, List.getElem?_cons_zero, List.getElem?_cons_succ, Nat.reduceAdd, Nat.reduceSub, Nat.sub_zero, if_true, if_false, Bool.false_eq_true, and_self, and_true, true_and, Int.reduceLT, Int.reduceLE, Nat.reduceLeDiff, Nat.reduceLT, decide_true, decide_false, Bool.not_true, Bool.not_false, addV_int, subV_int, negV_int, ltV_int, leV_int, gtV_int, geV_int, eqV_int, neV_int, eqV_str, neV_str, intV_int, intV_bl, lenV_fl, lenV_tup, listV_fl, tupleV_fl, ixS_fl, ixS_tup, enm_fl, tupV, lstV, szL, szl, addV_fl, W_ownIxM, W_appM, W_parVN, W_parNV, W_parNN, W_parVVN, minV_int, maxV_int, scI, W_selfM, WI_run, WI_end, WI_ok, Int.cast_ofNat_Int, Int.reduceBEq, Int.reduceBNe, beq_self_eq_true, Bool.not_eq_true, Bool.and_true, Bool.true_and, W_gtupM, W_opL, W_ownSet, z1, z2, z3, z4, z5, z6, z7, z8, b1]
  | hard => kernel_rfl
  | cat l =>
    obtain ⟨h1, h2⟩ := h
    apply of_WF
    unfold fn_is_row m_is_row m_is_row_r1
    have z1 : isiV [.tup [.str "cat", .fl (l.map nI)], .ty "tuple"] = some (.bl true) := by kernel_rfl
    have z2 : atI [IV.str "cat", .fl (l.map nI)] 0 = some (.str "cat") := by kernel_rfl
    have z3 : atI [IV.str "cat", .fl (l.map nI)] 1 = some (.fl (l.map nI)) := by kernel_rfl
    have z4 : isiV [.str "cat", .ty "str"] = some (.bl true) := by kernel_rfl
    have z5 : tabIn true tab_SIZES (.str "cat") = some (.bl false) := by kernel_rfl
    have z6 : tabV tab_SIZES (.str "cat") = some (.int 2) := by kernel_rfl
    have z7 : tabIn false tab_MOST_SIGNS (.str "cat") = some (.bl false) := by kernel_rfl
    have z8 : isiV [.fl (l.map nI), .ty "list"] = some (.bl true) := by kernel_rfl
    have z9 : decide (((l.map nI).length : Int) ≤ 8) = true := by rw [List.length_map]; exact decide_eq_true (by omega)
    unfold Row.iv
    simp (config := { failIfUnchanged := false, decide := false }) only [W_bind, W_pure, W_no, W_opt, W_nox, W_op, W_un, W_C, W_varM, W_tst, W_boolM, W_ifB, W_notT, W_andT, W_orT, W_ifE, W_andV, W_orV, W_notV, W_chain, W_nil, W_cons, W_ap, W_apL, W_fl, W_nx, W_brk, W_cnt, W_seq, W_set, W_own, W_ret, W_retN, W_drop, W_if, W_call, W_make, W_fld, W_ix, W_part, W_noPart, W_sl, W_itL, W_itT, W_itS, W_for, W_forNil, W_while, W_gset, W_gcons, W_gnil, W_par2, W_fzM, W_rf, W_ownA, W_setIx, WF_run, WF_ok, WF_arM, eq_self, setE_mk, List.map_cons, List.map_nil, List.length_cons, List.length_nil, List.replicate, List.cons_append, List.nil_append, List.append_nil, List.set_cons_zero, List.set_cons_succ, List.getElem?_cons_zero, List.getElem?_cons_succ, Nat.reduceAdd, Nat.reduceSub, Nat.sub_zero, if_true, if_false, Bool.false_eq_true, and_self, and_true, true_and, Int.reduceLT, Int.reduceLE, Nat.reduceLeDiff, Nat.reduceLT, decide_true, decide_false, Bool.not_true, Bool.not_false, addV_int, subV_int, negV_int, ltV_int, leV_int, gtV_int, geV_int, eqV_int, neV_int, eqV_str, neV_str, intV_int, intV_bl, lenV_fl, lenV_tup, listV_fl, tupleV_fl, ixS_fl, ixS_tup, enm_fl, tupV, lstV, szL, szl, addV_fl, W_ownIxM, W_appM, W_parVN, W_parNV, W_parNN, W_parVVN, minV_int, maxV_int, scI, W_selfM, WI_run, WI_end, WI_ok, Int.cast_ofNat_Int, Int.reduceBEq, Int.reduceBNe, beq_self_eq_true, Bool.not_eq_true, Bool.and_true, Bool.true_and, W_gtupM, W_opL, W_ownSet, z1, z2, z3, z4, z5, z6, z7, z8, z9]
    refine W_compM (fun _ => .bl true) ?_
    simp (config := { failIfUnchanged := false, decide := false }) only [W_bind, W_pure, W_no, W_opt, W_nox, W_op, W_un, W_C, W_varM, W_tst, W_boolM, W_ifB, W_notT, W_andT, W_orT, W_ifE, W_andV, W_orV, W_notV, W_chain, W_nil, W_cons, W_ap, W_apL, W_fl, W_nx, W_brk, W_cnt, W_seq, W_set, W_own, W_ret, W_retN, W_drop, W_if, W_call, W_make, W_fld, W_ix, W_part, W_noPart, W_sl, W_itL, W_itT, W_itS, W_for, W_forNil, W_while, W_gset, W_gcons, W_gnil, W_par2, W_fzM, W_rf, W_ownA, W_setIx, WF_run, WF_ok, WF_arM, eq_self, setE_mk, List.map_cons, List.map_nil, List.length_cons, List.length_nil, List.replicate, List.cons_append, List.nil_append, List.append_nil, List.set_cons_zero, List.set_cons_succ, List.getElem?_cons_zero, List.getElem?_cons_succ, Nat.reduceAdd, Nat.reduceSub, Nat.sub_zero, if_true, if_false, Bool.false_eq_true, and_self, and_true, true_and, Int.reduceLT, Int.reduceLE, Nat.reduceLeDiff, Nat.reduceLT, decide_true, decide_false, Bool.not_true, Bool.not_false, addV_int, subV_int, negV_int, ltV_int, leV_int, gtV_int, geV_int, eqV_int, neV_int, eqV_str, neV_str, intV_int, intV_bl, lenV_fl, lenV_tup, listV_fl, tupleV_fl, ixS_fl, ixS_tup, enm_fl, tupV, lstV, szL, szl, addV_fl, W_ownIxM, W_appM, W_parVN, W_parNV, W_parNN, W_parVVN, minV_int, maxV_int, scI, W_selfM, WI_run, WI_end, WI_ok, Int.cast_ofNat_Int, Int.reduceBEq, Int.reduceBNe, beq_self_eq_true, Bool.not_eq_true, Bool.and_true, Bool.true_and, W_gtupM, W_opL, W_ownSet, z3]
    refine ⟨by rw [List.length_map]; omega, ?_, ?_⟩
    · intro x hx
      obtain ⟨p, hp, rfl⟩ := List.mem_map.mp hx
      have hp := h2 p hp
      apply of_W
      simp (config := { failIfUnchanged := false, decide := false }) only [W_bind, W_pure, W_no, W_opt, W_nox, W_op, W_un, W_C, W_varM, W_tst, W_boolM, W_ifB, W_notT, W_andT, W_orT, W_ifE, W_andV, W_orV, W_notV, W_chain, W_nil, W_cons, W_ap, W_apL, W_fl, W_nx, W_brk, W_cnt, W_seq, W_set, W_own, W_ret, W_retN, W_drop, W_if, W_call, W_make, W_fld, W_ix, W_part, W_noPart, W_sl, W_itL, W_itT, W_itS, W_for, W_forNil, W_while, W_gset, W_gcons, W_gnil, W_par2, W_fzM, W_rf, W_ownA, W_setIx, WF_run, WF_ok, WF_arM, eq_self, setE_mk, List.map_cons, List.map_nil, List.length_cons, List.length_nil, List.replicate, List.cons_append, List.nil_append, List.append_nil, List.set_cons_zero, List.set_cons_succ, List.getElem?_cons_zero, List.getElem?_cons_succ, Nat.reduceAdd, Nat.reduceSub, Nat.sub_zero, if_true, if_false, Bool.false_eq_true, and_self, and_true, true_and, Int.reduceLT, Int.reduceLE, Nat.reduceLeDiff, Nat.reduceLT, decide_true, decide_false, Bool.not_true, Bool.not_false, addV_int, subV_int, negV_int, ltV_int, leV_int, gtV_int, geV_int, eqV_int, neV_int, eqV_str, neV_str, intV_int, intV_bl, lenV_fl, lenV_tup, listV_fl, tupleV_fl, ixS_fl, ixS_tup, enm_fl, tupV, lstV, szL, szl, addV_fl, W_ownIxM, W_appM, W_parVN, W_parNV, W_parNN, W_parVVN, minV_int, maxV_int, scI, W_selfM, WI_run, WI_end, WI_ok, Int.cast_ofNat_Int, Int.reduceBEq, Int.reduceBNe, beq_self_eq_true, Bool.not_eq_true, Bool.and_true, Bool.true_and, W_gtupM, W_opL, W_ownSet, between_ok Z (p : Int) 0 ((n : Int) - 1) (by omega) (by omega)]
    · have e : (l.map nI).map (fun _ => IV.bl true) = (l.map fun _ => true).map IV.bl := by rw [List.map_map, List.map_map]; rfl
      rw [e]
      simp (config := { failIfUnchanged := false, decide := false }) only [W_bind, W_pure, W_no, W_opt, W_nox, W_op, W_un, W_C, W_varM, W_tst, W_boolM, W_ifB, W_notT, W_andT, W_orT, W_ifE, W_andV, W_orV, W_notV, W_chain, W_nil, W_cons, W_ap, W_apL, W_fl, W_nx, W_brk, W_cnt, W_seq, W_set, W_own, W_ret, W_retN, W_drop, W_if, W_call, W_make, W_fld, W_ix, W_part, W_noPart, W_sl, W_itL, W_itT, W_itS, W_for, W_forNil, W_while, W_gset, W_gcons, W_gnil, W_par2, W_fzM, W_rf, W_ownA, W_setIx, WF_run, WF_ok, WF_arM, eq_self, setE_mk, List.map_cons, List.map_nil, List.length_cons, List.length_nil, List.replicate, List.cons_append, List.nil_append, List.append_nil, List.set_cons_zero, List.set_cons_succ, List.getElem?_cons_zero, List.getElem?_cons_succ, Nat.reduceAdd, Nat.reduceSub, Nat.sub_zero, if_true, if_false, Bool.false_eq_true, and_self, and_true, true_and, Int.reduceLT, Int.reduceLE, Nat.reduceLeDiff, Nat.reduceLT, decide_true, decide_false, Bool.not_true, Bool.not_false, addV_int, subV_int, negV_int, ltV_int, leV_int, gtV_int, geV_int, eqV_int, neV_int, eqV_str, neV_str, intV_int, intV_bl, lenV_fl, lenV_tup, listV_fl, tupleV_fl, ixS_fl, ixS_tup, enm_fl, tupV, lstV, szL, szl, addV_fl, W_ownIxM, W_appM, W_parVN, W_parNV, W_parNN, W_parVVN, minV_int, maxV_int, scI, W_selfM, WI_run, WI_end, WI_ok, Int.cast_ofNat_Int, Int.reduceBEq, Int.reduceBNe, beq_self_eq_true, Bool.not_eq_true, Bool.and_true, Bool.true_and, W_gtupM, W_opL, W_ownSet, allV_bools]
      simp
  | nest k p =>
    apply of_WF
    unfold fn_is_row m_is_row m_is_row_r1
    have z1 : isiV [.tup [.str "nest", nI k, nI p], .ty "tuple"] = some (.bl true) := by kernel_rfl
    have z2 : atI [IV.str "nest", nI k, nI p] 0 = some (.str "nest") := by kernel_rfl
    have z3 : atI [IV.str "nest", nI k, nI p] 1 = some (nI k) := by kernel_rfl
    have z9 : atI [IV.str "nest", nI k, nI p] (-1) = some (nI p) := by kernel_rfl
    have z4 : isiV [.str "nest", .ty "str"] = some (.bl true) := by kernel_rfl
    have z5 : tabIn true tab_SIZES (.str "nest") = some (.bl false) := by kernel_rfl
    have z6 : tabV tab_SIZES (.str "nest") = some (.int 3) := by kernel_rfl
    have z7 : tabIn false tab_MOST_SIGNS (.str "nest") = some (.bl false) := by kernel_rfl
    have b1 : fn_is_between Z [nI p, .int 0, .int ((n : Int) - 1)] μ = .ok (.bl true) μ := between_ok Z _ _ _ (by omega) (by have := h.2; omega) μ
    have b2 : fn_is_between Z [nI k, .int 0, .int 8] μ = .ok (.bl true) μ := between_ok Z _ _ _ (by omega) (by have := h.1; omega) μ
    unfold Row.iv
    simp (config := { failIfUnchanged := false, decide := false }) only [W_bind, W_pure, W_no, W_opt, W_nox, W_op, W_un, W_C, W_varM, W_tst, W_boolM, W_ifB, W_notT, W_andT, W_orT, W_ifE, W_andV, W_orV, W_notV, W_chain, W_nil, W_cons, W_ap, W_apL, W_fl, W_nx, W_brk, W_cnt, W_seq, W_set, W_own, W_ret, W_retN, W_drop, W_if, W_call, W_make, W_fld, W_ix, W_part, W_noPart, W_sl, W_itL, W_itT, W_itS, W_for, W_forNil, W_while, W_gset, W_gcons, W_gnil, W_par2, W_fzM, W_rf, W_ownA, W_setIx, WF_run, WF_ok, WF_arM, eq_self, setE_mk, List.map_cons, List.map_nil, List.length_cons, List.length_nil, List.replicate, List.cons_append, List.nil_append, List.append_nil, List.set_cons_zero, List.set_cons_succ, List.getElem?_cons_zero, List.getElem?_cons_succ, Nat.reduceAdd, Nat.reduceSub, Nat.sub_zero, if_true, if_false, Bool.false_eq_true, and_self, and_true, true_and, Int.reduceLT, Int.reduceLE, Nat.reduceLeDiff, Nat.reduceLT, decide_true, decide_false, Bool.not_true, Bool.not_false, addV_int, subV_int, negV_int, ltV_int, leV_int, gtV_int, geV_int, eqV_int, neV_int, eqV_str, neV_str, intV_int, intV_bl, lenV_fl, lenV_tup, listV_fl, tupleV_fl, ixS_fl, ixS_tup, enm_fl, tupV, lstV, szL, szl, addV_fl, W_ownIxM, W_appM, W_parVN, W_parNV, W_parNN, W_parVVN, minV_int, maxV_int, scI, W_selfM, WI_run, WI_end, WI_ok, Int.cast_ofNat_Int, Int.reduceBEq, Int.reduceBNe, beq_self_eq_true, Bool.not_eq_true, Bool.and_true, Bool.true_and, W_gtupM, W_opL, W_ownSet, z1, z2, z3, z4, z5, z6, z7, z9, b1, b2, w_cat_nest, w_cat_hard, w_nest_cat, w_nest_hard, w_align_cat, w_align_nest, w_align_hard, w_group_cat, w_group_nest, w_group_hard]
  | align p =>
    apply of_WF
    unfold fn_is_row m_is_row m_is_row_r1
    have z1 : isiV [.tup [.str "align", nI p], .ty "tuple"] = some (.bl true) := by kernel_rfl
    have z2 : atI [IV.str "align", nI p] 0 = some (.str "align") := by kernel_rfl
    have z3 : atI [IV.str "align", nI p] 1 = some (nI p) := by kernel_rfl
    have z9 : atI [IV.str "align", nI p] (-1) = some (nI p) := by kernel_rfl
    have z4 : isiV [.str "align", .ty "str"] = some (.bl true) := by kernel_rfl
    have z5 : tabIn true tab_SIZES (.str "align") = some (.bl false) := by kernel_rfl
    have z6 : tabV tab_SIZES (.str "align") = some (.int 2) := by kernel_rfl
    have z7 : tabIn false tab_MOST_SIGNS (.str "align") = some (.bl false) := by kernel_rfl
    have b1 : fn_is_between Z [nI p, .int 0, .int ((n : Int) - 1)] μ = .ok (.bl true) μ := between_ok Z _ _ _ (by omega) (by have : p < n := h; omega) μ

    unfold Row.iv
    simp (config := { failIfUnchanged := false, decide := false }) only [W_bind, W_pure, W_no, W_opt, W_nox, W_op, W_un, W_C, W_varM, W_tst, W_boolM, W_ifB, W_notT, W_andT, W_orT, W_ifE, W_andV, W_orV, W_notV, W_chain, W_nil, W_cons, W_ap, W_apL, W_fl, W_nx, W_brk, W_cnt, W_seq, W_set, W_own, W_ret, W_retN, W_drop, W_if, W_call, W_make, W_fld, W_ix, W_part, W_noPart, W_sl, W_itL, W_itT, W_itS, W_for, W_forNil, W_while, W_gset, W_gcons, W_gnil, W_par2, W_fzM, W_rf, W_ownA, W_setIx, WF_run, WF_ok, WF_arM, eq_self, setE_mk, List.map_cons, List.map_nil, List.length_cons, List.length_nil, List.replicate, List.cons_append, List.nil_append, List.append_nil, List.set_cons_zero, List.set_cons_succ, List.getElem?_cons_zero, List.getElem?_cons_succ, Nat.reduceAdd, Nat.reduceSub, Nat.sub_zero, if_true, if_false, Bool.false_eq_true, and_self, and_true, true_and, Int.reduceLT, Int.reduceLE, Nat.reduceLeDiff, Nat.reduceLT, decide_true, decide_false, Bool.not_true, Bool.not_false, addV_int, subV_int, negV_int, ltV_int, leV_int, gtV_int, geV_int, eqV_int, neV_int, eqV_str, neV_str, intV_int, intV_bl, lenV_fl, lenV_tup, listV_fl, tupleV_fl, ixS_fl, ixS_tup, enm_fl, tupV, lstV, szL, szl, addV_fl, W_ownIxM, W_appM, W_parVN, W_parNV, W_parNN, W_parVVN, minV_int, maxV_int, scI, W_selfM, WI_run, WI_end, WI_ok, Int.cast_ofNat_Int, Int.reduceBEq, Int.reduceBNe, beq_self_eq_true, Bool.not_eq_true, Bool.and_true, Bool.true_and, W_gtupM, W_opL, W_ownSet, z1, z2, z3, z4, z5, z6, z7, z9, b1, w_cat_nest, w_cat_hard, w_nest_cat, w_nest_hard, w_align_cat, w_align_nest, w_align_hard, w_group_cat, w_group_nest, w_group_hard]
  | group p =>
    apply of_WF
    unfold fn_is_row m_is_row m_is_row_r1
    have z1 : isiV [.tup [.str "group", nI p], .ty "tuple"] = some (.bl true) := by kernel_rfl
    have z2 : atI [IV.str "group", nI p] 0 = some (.str "group") := by kernel_rfl
    have z3 : atI [IV.str "group", nI p] 1 = some (nI p) := by kernel_rfl
    have z9 : atI [IV.str "group", nI p] (-1) = some (nI p) := by kernel_rfl
    have z4 : isiV [.str "group", .ty "str"] = some (.bl true) := by kernel_rfl
    have z5 : tabIn true tab_SIZES (.str "group") = some (.bl false) := by kernel_rfl
    have z6 : tabV tab_SIZES (.str "group") = some (.int 2) := by kernel_rfl
    have z7 : tabIn false tab_MOST_SIGNS (.str "group") = some (.bl false) := by kernel_rfl
    have b1 : fn_is_between Z [nI p, .int 0, .int ((n : Int) - 1)] μ = .ok (.bl true) μ := between_ok Z _ _ _ (by omega) (by have : p < n := h; omega) μ

    unfold Row.iv
    simp (config := { failIfUnchanged := false, decide := false }) only [W_bind, W_pure, W_no, W_opt, W_nox, W_op, W_un, W_C, W_varM, W_tst, W_boolM, W_ifB, W_notT, W_andT, W_orT, W_ifE, W_andV, W_orV, W_notV, W_chain, W_nil, W_cons, W_ap, W_apL, W_fl, W_nx, W_brk, W_cnt, W_seq, W_set, W_own, W_ret, W_retN, W_drop, W_if, W_call, W_make, W_fld, W_ix, W_part, W_noPart, W_sl, W_itL, W_itT, W_itS, W_for, W_forNil, W_while, W_gset, W_gcons, W_gnil, W_par2, W_fzM, W_rf, W_ownA, W_setIx, WF_run, WF_ok, WF_arM, eq_self, setE_mk, List.map_cons, List.map_nil, List.length_cons, List.length_nil, List.replicate, List.cons_append, List.nil_append, List.append_nil, List.set_cons_zero, List.set_cons_succ, List.getElem?_cons_zero, List.getElem?_cons_succ, Nat.reduceAdd, Nat.reduceSub, Nat.sub_zero, if_true, if_false, Bool.false_eq_true, and_self, and_true, true_and, Int.reduceLT, Int.reduceLE, Nat.reduceLeDiff, Nat.reduceLT, decide_true, decide_false, Bool.not_true, Bool.not_false, addV_int, subV_int, negV_int, ltV_int, leV_int, gtV_int, geV_int, eqV_int, neV_int, eqV_str, neV_str, intV_int, intV_bl, lenV_fl, lenV_tup, listV_fl, tupleV_fl, ixS_fl, ixS_tup, enm_fl, tupV, lstV, szL, szl, addV_fl, W_ownIxM, W_appM, W_parVN, W_parNV, W_parNN, W_parVVN, minV_int, maxV_int, scI, W_selfM, WI_run, WI_end, WI_ok, Int.cast_ofNat_Int, Int.reduceBEq, Int.reduceBNe, beq_self_eq_true, Bool.not_eq_true, Bool.and_true, Bool.true_and, W_gtupM, W_opL, W_ownSet, z1, z2, z3, z4, z5, z6, z7, z9, b1, w_cat_nest, w_cat_hard, w_nest_cat, w_nest_hard, w_align_cat, w_align_nest, w_align_hard, w_group_cat, w_group_nest, w_group_hard]

def RowsOk (rs : List Row) : Prop := ∀ (k : Nat) (r : Row), rs[k]? = some r → r.ok k
theorem RowsOk.snoc {rs : List Row} {r : Row} (h : RowsOk rs) (hr : r.ok rs.length) : RowsOk (rs ++ [r]) := by
  intro k (r' : Row) e
  rw [List.getElem?_append] at e
  split at e
  · exact h k r' e
  · rename_i hk
    have : k = rs.length := by
      have := (List.getElem?_eq_some_iff.mp e).1
      simp at this; omega
    subst this
    simp at e
    subst e
    exact hr
theorem Row.ok.lt {n : Nat} {r : Row} (h : r.ok n) : ∀ p ∈ r.parts, p < n := by
  cases r <;> simp [Row.ok, Row.parts] at h ⊢
  · exact h.2
  · exact h.2
  · exact h
  · exact h
theorem Row.ok.len {n : Nat} {r : Row} (h : r.ok n) : r.parts.length ≤ 8 := by
  cases r <;> simp [Row.ok, Row.parts] at h ⊢
  exact h.1
/-- [found[part] for part in parts], found a list of sizes -/
def atF (t : List Nat) : IV → IV := fun x => match x with
  | .int k => nI (t.getD k.toNat 0)
  | _ => .non
theorem atF_map {t : List Nat} {ps : List Nat} : (ps.map nI).map (atF t) = (ps.map fun p => t.getD p 0).map nI := by
  rw [List.map_map, List.map_map]; rfl
theorem at_nats {t : List Nat} {p : Nat} (h : p < t.length) : atI (t.map nI) (p : Int) = some (nI (t.getD p 0)) := by
  rw [Mi.atI_n (by simpa using h), List.getElem?_map, List.getElem?_eq_getElem h]
  simp [List.getD, List.getElem?_eq_getElem h]
/-! ### values by rows -/
def vals {α : Type} (f : List α → Row → α) (rs : List Row) : List α := rs.foldl (fun acc r => acc ++ [f acc r]) []
theorem vals_snoc {α : Type} (f : List α → Row → α) (rs : List Row) (r : Row) : vals f (rs ++ [r]) = vals f rs ++ [f (vals f rs) r] := by unfold vals; rw [List.foldl_append]; rfl
theorem vals_len {α : Type} (f : List α → Row → α) (rs : List Row) : (vals f rs).length = rs.length := by
  unfold vals
  have : ∀ (rs : List Row) (acc : List α), (rs.foldl (fun acc r => acc ++ [f acc r]) acc).length = acc.length + rs.length := by
    intro rs
    induction rs with
    | nil => intro acc; rfl
    | cons r rs ih => intro acc; rw [List.foldl_cons, ih]; simp; omega
  simpa using this rs []
theorem vals_take {α : Type} (f : List α → Row → α) {rs : List Row} {k : Nat} {r : Row} (h : rs[k]? = some r) : vals f (rs.take (k + 1)) = vals f (rs.take k) ++ [f (vals f (rs.take k)) r] := by
  rw [List.take_add_one, h]
  exact vals_snoc f _ _
theorem vals_take_len {α : Type} (f : List α → Row → α) {rs : List Row} {k : Nat} (h : k ≤ rs.length) : (vals f (rs.take k)).length = k := by rw [vals_len, List.length_take]; omega
theorem vals_pre {α : Type} (f : List α → Row → α) (rs qs : List Row) : ∃ z, vals f (rs ++ qs) = vals f rs ++ z := by
  unfold vals
  rw [List.foldl_append]
  have : ∀ (qs : List Row) (acc : List α), ∃ z, qs.foldl (fun acc r => acc ++ [f acc r]) acc = acc ++ z := by
    intro qs
    induction qs with
    | nil => intro acc; exact ⟨[], by simp⟩
    | cons q qs ih => intro acc; obtain ⟨z, e⟩ := ih (acc ++ [f acc q]); exact ⟨[f acc q] ++ z, by rw [List.foldl_cons, e]; simp⟩
  exact this qs _
abbrev rowsV (rs : List Row) : IV := .fl (rs.map Row.iv)
abbrev docF (rs : List Row) : List (Str × IV) := [("rows", rowsV rs), ("layouts", .fd)]
abbrev docV (Z : Ad) (rs : List Row) : IV := .obj Z.Doc (docF rs)
theorem doc_ok (Z : Ad) (rs : List Row) (h1 : rs ≠ []) (h2 : rs.length ≤ 200) (h : RowsOk rs) (μ : List SO) : fn_Doc___init__ Z [rowsV rs] μ = .ok (docF rs) μ := by
  apply of_WI
  unfold fn_Doc___init__ m_Doc___init__ m_Doc___init___r1
  have hl : 0 < rs.length := List.length_pos_iff.mpr h1
  have z1 : isiV [rowsV rs, .ty "list"] = some (.bl true) := by kernel_rfl
  have z2 : decide ((1 : Int) ≤ rs.length) = true := decide_eq_true (by omega)
  have z3 : decide ((rs.length : Int) ≤ 200) = true := decide_eq_true (by omega)
  simp (config := { failIfUnchanged := false, decide := false }) only [W_bind, W_pure, W_no, W_opt, W_nox, W_op, W_un, W_C, W_varM, W_tst, W_boolM, W_ifB, W_notT, W_andT, W_orT, W_ifE, W_andV, W_orV, W_notV, W_chain, W_nil, W_cons, W_ap, W_apL, W_fl, W_nx, W_brk, W_cnt, W_seq, W_set, W_own, W_ret, W_retN, W_drop, W_if, W_call, W_make, W_fld, W_ix, W_part, W_noPart, W_sl, W_itL, W_itT, W_itS, W_for, W_forNil, W_while, W_gset, W_gcons, W_gnil, W_par2, W_fzM, W_rf, W_ownA, W_setIx, WF_run, WF_ok, WF_arM, eq_self, setE_mk, List.map_cons, List.map_nil, List.length_cons, List.length_nil, List.replicate, List.cons_append, List.nil_append, List.append_nil, List.set_cons_zero, List.set_cons_succ, List.getElem?_cons_zero, List.getElem?_cons_succ, Nat.reduceAdd, Nat.reduceSub, Nat.sub_zero, if_true, if_false, Bool.false_eq_true, and_self, and_true, true_and, Int.reduceLT, Int.reduceLE, Nat.reduceLeDiff, Nat.reduceLT, decide_true, decide_false, Bool.not_true, Bool.not_false, addV_int, subV_int, negV_int, ltV_int, leV_int, gtV_int, geV_int, eqV_int, neV_int, eqV_str, neV_str, intV_int, intV_bl, lenV_fl, lenV_tup, listV_fl, tupleV_fl, ixS_fl, ixS_tup, enm_fl, tupV, lstV, szL, szl, addV_fl, W_ownIxM, W_appM, W_parVN, W_parNV, W_parNN, W_parVVN, minV_int, maxV_int, scI, W_selfM, WI_run, WI_end, WI_ok, Int.cast_ofNat_Int, Int.reduceBEq, Int.reduceBNe, beq_self_eq_true, Bool.not_eq_true, Bool.and_true, Bool.true_and, W_gtupM, W_opL, W_ownSet, z1, List.length_map, z2, z3]
  refine W_forI (fun k s => ∃ a b, s = ⟨[.ins Z.Doc [], .val (rowsV rs), a, b], μ⟩) _ 0 _ ⟨_, _, rfl⟩ ?_ ?_
  · rintro k x s hk ⟨a, b, rfl⟩
    obtain ⟨y, hy, rfl⟩ := enmL_at hk
    obtain ⟨r, hr, rfl⟩ := map_at hy
    simp (config := { failIfUnchanged := false, decide := false }) only [W_bind, W_pure, W_no, W_opt, W_nox, W_op, W_un, W_C, W_varM, W_tst, W_boolM, W_ifB, W_notT, W_andT, W_orT, W_ifE, W_andV, W_orV, W_notV, W_chain, W_nil, W_cons, W_ap, W_apL, W_fl, W_nx, W_brk, W_cnt, W_seq, W_set, W_own, W_ret, W_retN, W_drop, W_if, W_call, W_make, W_fld, W_ix, W_part, W_noPart, W_sl, W_itL, W_itT, W_itS, W_for, W_forNil, W_while, W_gset, W_gcons, W_gnil, W_par2, W_fzM, W_rf, W_ownA, W_setIx, WF_run, WF_ok, WF_arM, eq_self, setE_mk, List.map_cons, List.map_nil, List.length_cons, List.length_nil, List.replicate, List.cons_append, List.nil_append, List.append_nil, List.set_cons_zero, List.set_cons_succ, List.getElem?_cons_zero, List.getElem?_cons_succ, Nat.reduceAdd, Nat.reduceSub, Nat.sub_zero, if_true, if_false, Bool.false_eq_true, and_self, and_true, true_and, Int.reduceLT, Int.reduceLE, Nat.reduceLeDiff, Nat.reduceLT, decide_true, decide_false, Bool.not_true, Bool.not_false, addV_int, subV_int, negV_int, ltV_int, leV_int, gtV_int, geV_int, eqV_int, neV_int, eqV_str, neV_str, intV_int, intV_bl, lenV_fl, lenV_tup, listV_fl, tupleV_fl, ixS_fl, ixS_tup, enm_fl, tupV, lstV, szL, szl, addV_fl, W_ownIxM, W_appM, W_parVN, W_parNV, W_parNN, W_parVVN, minV_int, maxV_int, scI, W_selfM, WI_run, WI_end, WI_ok, Int.cast_ofNat_Int, Int.reduceBEq, Int.reduceBNe, beq_self_eq_true, Bool.not_eq_true, Bool.and_true, Bool.true_and, W_gtupM, W_opL, W_ownSet, row_is Z k r (h k r hr)]
    exact ⟨.inl trivial, _, _, rfl⟩
  · rintro s ⟨a, b, rfl⟩
    simp (config := { failIfUnchanged := false, decide := false }) only [W_bind, W_pure, W_no, W_opt, W_nox, W_op, W_un, W_C, W_varM, W_tst, W_boolM, W_ifB, W_notT, W_andT, W_orT, W_ifE, W_andV, W_orV, W_notV, W_chain, W_nil, W_cons, W_ap, W_apL, W_fl, W_nx, W_brk, W_cnt, W_seq, W_set, W_own, W_ret, W_retN, W_drop, W_if, W_call, W_make, W_fld, W_ix, W_part, W_noPart, W_sl, W_itL, W_itT, W_itS, W_for, W_forNil, W_while, W_gset, W_gcons, W_gnil, W_par2, W_fzM, W_rf, W_ownA, W_setIx, WF_run, WF_ok, WF_arM, eq_self, setE_mk, List.map_cons, List.map_nil, List.length_cons, List.length_nil, List.replicate, List.cons_append, List.nil_append, List.append_nil, List.set_cons_zero, List.set_cons_succ, List.getElem?_cons_zero, List.getElem?_cons_succ, Nat.reduceAdd, Nat.reduceSub, Nat.sub_zero, if_true, if_false, Bool.false_eq_true, and_self, and_true, true_and, Int.reduceLT, Int.reduceLE, Nat.reduceLeDiff, Nat.reduceLT, decide_true, decide_false, Bool.not_true, Bool.not_false, addV_int, subV_int, negV_int, ltV_int, leV_int, gtV_int, geV_int, eqV_int, neV_int, eqV_str, neV_str, intV_int, intV_bl, lenV_fl, lenV_tup, listV_fl, tupleV_fl, ixS_fl, ixS_tup, enm_fl, tupV, lstV, szL, szl, addV_fl, W_ownIxM, W_appM, W_parVN, W_parNV, W_parNN, W_parVVN, minV_int, maxV_int, scI, W_selfM, WI_run, WI_end, WI_ok, Int.cast_ofNat_Int, Int.reduceBEq, Int.reduceBNe, beq_self_eq_true, Bool.not_eq_true, Bool.and_true, Bool.true_and, W_gtupM, W_opL, W_ownSet]
    refine W_compM (fun x => x) ?_
    simp (config := { failIfUnchanged := false, decide := false }) only [W_bind, W_pure, W_no, W_opt, W_nox, W_op, W_un, W_C, W_varM, W_tst, W_boolM, W_ifB, W_notT, W_andT, W_orT, W_ifE, W_andV, W_orV, W_notV, W_chain, W_nil, W_cons, W_ap, W_apL, W_fl, W_nx, W_brk, W_cnt, W_seq, W_set, W_own, W_ret, W_retN, W_drop, W_if, W_call, W_make, W_fld, W_ix, W_part, W_noPart, W_sl, W_itL, W_itT, W_itS, W_for, W_forNil, W_while, W_gset, W_gcons, W_gnil, W_par2, W_fzM, W_rf, W_ownA, W_setIx, WF_run, WF_ok, WF_arM, eq_self, setE_mk, List.map_cons, List.map_nil, List.length_cons, List.length_nil, List.replicate, List.cons_append, List.nil_append, List.append_nil, List.set_cons_zero, List.set_cons_succ, List.getElem?_cons_zero, List.getElem?_cons_succ, Nat.reduceAdd, Nat.reduceSub, Nat.sub_zero, if_true, if_false, Bool.false_eq_true, and_self, and_true, true_and, Int.reduceLT, Int.reduceLE, Nat.reduceLeDiff, Nat.reduceLT, decide_true, decide_false, Bool.not_true, Bool.not_false, addV_int, subV_int, negV_int, ltV_int, leV_int, gtV_int, geV_int, eqV_int, neV_int, eqV_str, neV_str, intV_int, intV_bl, lenV_fl, lenV_tup, listV_fl, tupleV_fl, ixS_fl, ixS_tup, enm_fl, tupV, lstV, szL, szl, addV_fl, W_ownIxM, W_appM, W_parVN, W_parNV, W_parNN, W_parVVN, minV_int, maxV_int, scI, W_selfM, WI_run, WI_end, WI_ok, Int.cast_ofNat_Int, Int.reduceBEq, Int.reduceBNe, beq_self_eq_true, Bool.not_eq_true, Bool.and_true, Bool.true_and, W_gtupM, W_opL, W_ownSet, List.length_map]
    refine ⟨by omega, ?_, ?_⟩
    · intro x hx
      obtain ⟨r, hr, rfl⟩ := List.mem_map.mp hx
      apply of_W
      simp (config := { failIfUnchanged := false, decide := false }) only [W_bind, W_pure, W_no, W_opt, W_nox, W_op, W_un, W_C, W_varM, W_tst, W_boolM, W_ifB, W_notT, W_andT, W_orT, W_ifE, W_andV, W_orV, W_notV, W_chain, W_nil, W_cons, W_ap, W_apL, W_fl, W_nx, W_brk, W_cnt, W_seq, W_set, W_own, W_ret, W_retN, W_drop, W_if, W_call, W_make, W_fld, W_ix, W_part, W_noPart, W_sl, W_itL, W_itT, W_itS, W_for, W_forNil, W_while, W_gset, W_gcons, W_gnil, W_par2, W_fzM, W_rf, W_ownA, W_setIx, WF_run, WF_ok, WF_arM, eq_self, setE_mk, List.map_cons, List.map_nil, List.length_cons, List.length_nil, List.replicate, List.cons_append, List.nil_append, List.append_nil, List.set_cons_zero, List.set_cons_succ, List.getElem?_cons_zero, List.getElem?_cons_succ, Nat.reduceAdd, Nat.reduceSub, Nat.sub_zero, if_true, if_false, Bool.false_eq_true, and_self, and_true, true_and, Int.reduceLT, Int.reduceLE, Nat.reduceLeDiff, Nat.reduceLT, decide_true, decide_false, Bool.not_true, Bool.not_false, addV_int, subV_int, negV_int, ltV_int, leV_int, gtV_int, geV_int, eqV_int, neV_int, eqV_str, neV_str, intV_int, intV_bl, lenV_fl, lenV_tup, listV_fl, tupleV_fl, ixS_fl, ixS_tup, enm_fl, tupV, lstV, szL, szl, addV_fl, W_ownIxM, W_appM, W_parVN, W_parNV, W_parNN, W_parVVN, minV_int, maxV_int, scI, W_selfM, WI_run, WI_end, WI_ok, Int.cast_ofNat_Int, Int.reduceBEq, Int.reduceBNe, beq_self_eq_true, Bool.not_eq_true, Bool.and_true, Bool.true_and, W_gtupM, W_opL, W_ownSet, copied_ok]
    · simp (config := { failIfUnchanged := false, decide := false }) only [W_bind, W_pure, W_no, W_opt, W_nox, W_op, W_un, W_C, W_varM, W_tst, W_boolM, W_ifB, W_notT, W_andT, W_orT, W_ifE, W_andV, W_orV, W_notV, W_chain, W_nil, W_cons, W_ap, W_apL, W_fl, W_nx, W_brk, W_cnt, W_seq, W_set, W_own, W_ret, W_retN, W_drop, W_if, W_call, W_make, W_fld, W_ix, W_part, W_noPart, W_sl, W_itL, W_itT, W_itS, W_for, W_forNil, W_while, W_gset, W_gcons, W_gnil, W_par2, W_fzM, W_rf, W_ownA, W_setIx, WF_run, WF_ok, WF_arM, eq_self, setE_mk, List.map_cons, List.map_nil, List.length_cons, List.length_nil, List.replicate, List.cons_append, List.nil_append, List.append_nil, List.set_cons_zero, List.set_cons_succ, List.getElem?_cons_zero, List.getElem?_cons_succ, Nat.reduceAdd, Nat.reduceSub, Nat.sub_zero, if_true, if_false, Bool.false_eq_true, and_self, and_true, true_and, Int.reduceLT, Int.reduceLE, Nat.reduceLeDiff, Nat.reduceLT, decide_true, decide_false, Bool.not_true, Bool.not_false, addV_int, subV_int, negV_int, ltV_int, leV_int, gtV_int, geV_int, eqV_int, neV_int, eqV_str, neV_str, intV_int, intV_bl, lenV_fl, lenV_tup, listV_fl, tupleV_fl, ixS_fl, ixS_tup, enm_fl, tupV, lstV, szL, szl, addV_fl, W_ownIxM, W_appM, W_parVN, W_parNV, W_parNN, W_parVVN, minV_int, maxV_int, scI, W_selfM, WI_run, WI_end, WI_ok, Int.cast_ofNat_Int, Int.reduceBEq, Int.reduceBNe, beq_self_eq_true, Bool.not_eq_true, Bool.and_true, Bool.true_and, W_gtupM, W_opL, W_ownSet, List.map_id']
      have p1 : putI "rows" (.fl (rs.map Row.iv)) [] = ([("rows", rowsV rs)] : List (Str × IV)) := rfl
      have p2 : putI "layouts" .fd ([("rows", rowsV rs)] : List (Str × IV)) = docF rs := by
        unfold putI
        rw [if_neg (by decide +kernel)]
        rfl
      simp (config := { failIfUnchanged := false, decide := false }) only [W_bind, W_pure, W_no, W_opt, W_nox, W_op, W_un, W_C, W_varM, W_tst, W_boolM, W_ifB, W_notT, W_andT, W_orT, W_ifE, W_andV, W_orV, W_notV, W_chain, W_nil, W_cons, W_ap, W_apL, W_fl, W_nx, W_brk, W_cnt, W_seq, W_set, W_own, W_ret, W_retN, W_drop, W_if, W_call, W_make, W_fld, W_ix, W_part, W_noPart, W_sl, W_itL, W_itT, W_itS, W_for, W_forNil, W_while, W_gset, W_gcons, W_gnil, W_par2, W_fzM, W_rf, W_ownA, W_setIx, WF_run, WF_ok, WF_arM, eq_self, setE_mk, List.map_cons, List.map_nil, List.length_cons, List.length_nil, List.replicate, List.cons_append, List.nil_append, List.append_nil, List.set_cons_zero, List.set_cons_succ, List.getElem?_cons_zero, List.getElem?_cons_succ, Nat.reduceAdd, Nat.reduceSub, Nat.sub_zero, if_true, if_false, Bool.false_eq_true, and_self, and_true, true_and, Int.reduceLT, Int.reduceLE, Nat.reduceLeDiff, Nat.reduceLT, decide_true, decide_false, Bool.not_true, Bool.not_false, addV_int, subV_int, negV_int, ltV_int, leV_int, gtV_int, geV_int, eqV_int, neV_int, eqV_str, neV_str, intV_int, intV_bl, lenV_fl, lenV_tup, listV_fl, tupleV_fl, ixS_fl, ixS_tup, enm_fl, tupV, lstV, szL, szl, addV_fl, W_ownIxM, W_appM, W_parVN, W_parNV, W_parNN, W_parVVN, minV_int, maxV_int, scI, W_selfM, WI_run, WI_end, WI_ok, Int.cast_ofNat_Int, Int.reduceBEq, Int.reduceBNe, beq_self_eq_true, Bool.not_eq_true, Bool.and_true, Bool.true_and, W_gtupM, W_opL, W_ownSet, p1, p2]
theorem fld_rows (Z : Ad) (rs : List Row) (s : S) : fldOf Z.Doc "rows" (docV Z rs) s = some (rowsV rs) := by
  unfold fldOf
  simp only [if_true]
  kernel_rfl
theorem check_ok (Z : Ad) (rs : List Row) (μ : List SO) : fn_check_doc Z [docV Z rs] μ = .ok .non μ := by
  apply of_WF
  unfold fn_check_doc m_check_doc
  have z : isiC Z.Doc [Z.Doc] [docV Z rs, .adr Z.Doc] = some (.bl true) := by simp [isiC]
  simp (config := { failIfUnchanged := false, decide := false }) only [W_bind, W_pure, W_no, W_opt, W_nox, W_op, W_un, W_C, W_varM, W_tst, W_boolM, W_ifB, W_notT, W_andT, W_orT, W_ifE, W_andV, W_orV, W_notV, W_chain, W_nil, W_cons, W_ap, W_apL, W_fl, W_nx, W_brk, W_cnt, W_seq, W_set, W_own, W_ret, W_retN, W_drop, W_if, W_call, W_make, W_fld, W_ix, W_part, W_noPart, W_sl, W_itL, W_itT, W_itS, W_for, W_forNil, W_while, W_gset, W_gcons, W_gnil, W_par2, W_fzM, W_rf, W_ownA, W_setIx, WF_run, WF_ok, WF_arM, eq_self, setE_mk, List.map_cons, List.map_nil, List.length_cons, List.length_nil, List.replicate, List.cons_append, List.nil_append, List.append_nil, List.set_cons_zero, List.set_cons_succ, List.getElem?_cons_zero, List.getElem?_cons_succ, Nat.reduceAdd, Nat.reduceSub, Nat.sub_zero, if_true, if_false, Bool.false_eq_true, and_self, and_true, true_and, Int.reduceLT, Int.reduceLE, Nat.reduceLeDiff, Nat.reduceLT, decide_true, decide_false, Bool.not_true, Bool.not_false, addV_int, subV_int, negV_int, ltV_int, leV_int, gtV_int, geV_int, eqV_int, neV_int, eqV_str, neV_str, intV_int, intV_bl, lenV_fl, lenV_tup, listV_fl, tupleV_fl, ixS_fl, ixS_tup, enm_fl, tupV, lstV, szL, szl, addV_fl, W_ownIxM, W_appM, W_parVN, W_parNV, W_parNN, W_parVVN, minV_int, maxV_int, scI, W_selfM, WI_run, WI_end, WI_ok, Int.cast_ofNat_Int, Int.reduceBEq, Int.reduceBNe, beq_self_eq_true, Bool.not_eq_true, Bool.and_true, Bool.true_and, W_gtupM, W_opL, W_ownSet, z]
end Lw
set_option Elab.async false
set_option linter.all false
set_option maxRecDepth 100000
set_option maxHeartbeats 2000000
namespace Lw
open PySem L2 Mi
def Well (μ : List SO) (i : Nat) : Prop := ∃ a b c : Int, μ[i]? = some (.lst [.int a, .int b, .int c])
theorem mod_small (x m y : Int) (h0 : 0 < m) (h : m ≤ 4294967296) : (x % m).natAbs < 18446744073709551616 ∨ y.natAbs < 18446744073709551616 := by
  have := Int.emod_nonneg x (show m ≠ 0 by omega)
  have := Int.emod_lt_of_pos x h0
  omega
theorem set_at {μ : List SO} {i : Nat} {o o' : SO} (h : μ[i]? = some o) : (μ.set i o')[i]? = some o' := by
  have := (List.getElem?_eq_some_iff.mp h).1
  simp [this]
theorem source_at (Z : Ad) (c : Int) (μ : List SO) : ∃ a b, fn__law_source_of Z [.int c] μ = .ok (.ref μ.length) (μ ++ [.lst [.int a, .int b, .int 0]]) := by
  have hp : powV (.int 10) (.int 18) = some (.int (10 ^ 18)) := rfl
  have c1 : ∀ x : Int, mulV (.int 3) (.int x) = some (.int (3 * x)) := fun x => mulV_int (.inl (by decide))
  have c2 : ∀ x : Int, modV (.int x) (.int 2147483647) = some (.int (x % 2147483647)) := fun x => modV_int (by decide)
  have c3 : ∀ (x : Int) (p : Bool), mulV (.int x) (.int (if p = true then 1 else 0)) = some (.int (x * (if p = true then 1 else 0))) := fun x p => mulV_int (.inr (by split <;> decide))
  have go : ∀ x : Int, x = (if decide (0 ≤ c) = true then c else 0 - 3 * c - 1) → fn__law_source_of Z [.int c] μ = .ok (.ref μ.length) (μ ++ [.lst [.int (x * (if decide ((10 : Int) ^ 18 ≤ x) = true then 1 else 0)), .int (x % 2147483647), .int 0]]) := by
    intro x hx
    apply of_WF
    unfold fn__law_source_of m__law_source_of
    simp (config := { failIfUnchanged := false, decide := false }) only [W_bind, W_pure, W_no, W_opt, W_nox, W_op, W_un, W_C, W_varM, W_tst, W_boolM, W_ifB, W_notT, W_andT, W_orT, W_ifE, W_andV, W_orV, W_notV, W_chain, W_nil, W_cons, W_ap, W_apL, W_fl, W_nx, W_brk, W_cnt, W_seq, W_set, W_own, W_ret, W_retN, W_drop, W_if, W_call, W_make, W_fld, W_ix, W_part, W_noPart, W_sl, W_itL, W_itT, W_itS, W_for, W_forNil, W_while, W_gset, W_gcons, W_gnil, W_par2, W_fzM, W_rf, W_ownA, W_setIx, WF_run, WF_ok, WF_arM, eq_self, setE_mk, List.map_cons, List.map_nil, List.length_cons, List.length_nil, List.replicate, List.cons_append, List.nil_append, List.append_nil, List.set_cons_zero, List.set_cons_succ, List.getElem?_cons_zero, List.getElem?_cons_succ, Nat.reduceAdd, Nat.reduceSub, Nat.sub_zero, if_true, if_false, Bool.false_eq_true, and_self, and_true, true_and, Int.reduceLT, Int.reduceLE, Nat.reduceLeDiff, Nat.reduceLT, decide_true, decide_false, Bool.not_true, Bool.not_false, addV_int, subV_int, negV_int, ltV_int, leV_int, gtV_int, geV_int, eqV_int, neV_int, eqV_str, neV_str, intV_int, intV_bl, lenV_fl, lenV_tup, listV_fl, tupleV_fl, ixS_fl, ixS_tup, enm_fl, tupV, lstV, szL, szl, addV_fl, W_ownIxM, W_appM, W_parVN, W_parNV, W_parNN, W_parVVN, minV_int, maxV_int, scI, W_selfM, WI_run, WI_end, WI_ok, Int.cast_ofNat_Int, Int.reduceBEq, Int.reduceBNe, beq_self_eq_true, Bool.not_eq_true, Bool.and_true, Bool.true_and, W_gtupM, W_opL, W_ownSet, hp, c1, c2, c3]
    by_cases h : (0 : Int) ≤ c
    · rw [decide_eq_true h] at hx ⊢
      rw [if_pos rfl] at hx ⊢
      subst hx
      rfl
    · rw [decide_eq_false h] at hx ⊢
      rw [if_neg (by decide)] at hx ⊢
      subst hx
      rfl
  exact ⟨_, _, go _ rfl⟩
theorem next_ok (Z : Ad) (i : Nat) (m : Int) (μ : List SO) (Q : IV → List SO → Prop) (hw : Well μ i) (h0 : 0 < m) (h1 : m < 1000000) (hQ : ∀ v μ', 0 ≤ v → v < m → Well μ' i → μ'.length = μ.length → Q (.int v) μ') :
    WF (fn__law_next Z [.ref i, .int m] μ) Q := by
  obtain ⟨a, b, c, hw⟩ := hw
  have a0 : atI [IV.int a, IV.int b, IV.int c] 0 = some (.int a) := rfl
  have a2 : atI [IV.int a, IV.int b, IV.int c] 2 = some (.int c) := rfl
  have n0 : ixN 3 0 = some 0 := rfl
  have n2 : ixN 3 2 = some 2 := rfl
  have mm : ∀ x : Int, modV (.int x) (.int m) = some (.int (x % m)) := fun x => modV_int h0
  have dm : ∀ x : Int, divV (.int x) (.int m) = some (.int (x / m)) := fun x => divV_int h0 (by omega)
  unfold fn__law_next m__law_next m__law_next_r2 m__law_next_r1
  simp (config := { failIfUnchanged := false, decide := false }) only [W_bind, W_pure, W_no, W_opt, W_nox, W_op, W_un, W_C, W_varM, W_tst, W_boolM, W_ifB, W_notT, W_andT, W_orT, W_ifE, W_andV, W_orV, W_notV, W_chain, W_nil, W_cons, W_ap, W_apL, W_fl, W_nx, W_brk, W_cnt, W_seq, W_set, W_own, W_ret, W_retN, W_drop, W_if, W_call, W_make, W_fld, W_ix, W_part, W_noPart, W_sl, W_itL, W_itT, W_itS, W_for, W_forNil, W_while, W_gset, W_gcons, W_gnil, W_par2, W_fzM, W_rf, W_ownA, W_setIx, WF_run, WF_ok, WF_arM, eq_self, setE_mk, List.map_cons, List.map_nil, List.length_cons, List.length_nil, List.replicate, List.cons_append, List.nil_append, List.append_nil, List.set_cons_zero, List.set_cons_succ, List.getElem?_cons_zero, List.getElem?_cons_succ, Nat.reduceAdd, Nat.reduceSub, Nat.sub_zero, if_true, if_false, Bool.false_eq_true, and_self, and_true, true_and, Int.reduceLT, Int.reduceLE, Nat.reduceLeDiff, Nat.reduceLT, decide_true, decide_false, Bool.not_true, Bool.not_false, addV_int, subV_int, negV_int, ltV_int, leV_int, gtV_int, geV_int, eqV_int, neV_int, eqV_str, neV_str, intV_int, intV_bl, lenV_fl, lenV_tup, listV_fl, tupleV_fl, ixS_fl, ixS_tup, enm_fl, tupV, lstV, szL, szl, addV_fl, W_ownIxM, W_appM, W_parVN, W_parNV, W_parNN, W_parVVN, minV_int, maxV_int, scI, W_selfM, WI_run, WI_end, WI_ok, Int.cast_ofNat_Int, Int.reduceBEq, Int.reduceBNe, beq_self_eq_true, Bool.not_eq_true, Bool.and_true, Bool.true_and, W_gtupM, W_opL, W_ownSet, ixS_ref hw, hw, a0]
  by_cases ha : 0 < a
  · rw [decide_eq_true ha]
    simp (config := { failIfUnchanged := false, decide := false }) only [W_bind, W_pure, W_no, W_opt, W_nox, W_op, W_un, W_C, W_varM, W_tst, W_boolM, W_ifB, W_notT, W_andT, W_orT, W_ifE, W_andV, W_orV, W_notV, W_chain, W_nil, W_cons, W_ap, W_apL, W_fl, W_nx, W_brk, W_cnt, W_seq, W_set, W_own, W_ret, W_retN, W_drop, W_if, W_call, W_make, W_fld, W_ix, W_part, W_noPart, W_sl, W_itL, W_itT, W_itS, W_for, W_forNil, W_while, W_gset, W_gcons, W_gnil, W_par2, W_fzM, W_rf, W_ownA, W_setIx, WF_run, WF_ok, WF_arM, eq_self, setE_mk, List.map_cons, List.map_nil, List.length_cons, List.length_nil, List.replicate, List.cons_append, List.nil_append, List.append_nil, List.set_cons_zero, List.set_cons_succ, List.getElem?_cons_zero, List.getElem?_cons_succ, Nat.reduceAdd, Nat.reduceSub, Nat.sub_zero, if_true, if_false, Bool.false_eq_true, and_self, and_true, true_and, Int.reduceLT, Int.reduceLE, Nat.reduceLeDiff, Nat.reduceLT, decide_true, decide_false, Bool.not_true, Bool.not_false, addV_int, subV_int, negV_int, ltV_int, leV_int, gtV_int, geV_int, eqV_int, neV_int, eqV_str, neV_str, intV_int, intV_bl, lenV_fl, lenV_tup, listV_fl, tupleV_fl, ixS_fl, ixS_tup, enm_fl, tupV, lstV, szL, szl, addV_fl, W_ownIxM, W_appM, W_parVN, W_parNV, W_parNN, W_parVVN, minV_int, maxV_int, scI, W_selfM, WI_run, WI_end, WI_ok, Int.cast_ofNat_Int, Int.reduceBEq, Int.reduceBNe, beq_self_eq_true, Bool.not_eq_true, Bool.and_true, Bool.true_and, W_gtupM, W_opL, W_ownSet, ixS_ref hw, hw, a0, n0, mm, dm]
    exact hQ _ _ (Int.emod_nonneg _ (by omega)) (Int.emod_lt_of_pos _ h0) ⟨_, _, _, set_at hw⟩ (by simp)
  · rw [decide_eq_false ha]
    have hs : (μ.set i (SO.lst [IV.int a, IV.int b, IV.int (c + 1)]))[i]? = some (SO.lst [IV.int a, IV.int b, IV.int (c + 1)]) := set_at hw
    have b1 : atI [IV.int a, IV.int b, IV.int (c + 1)] 1 = some (.int b) := rfl
    have b2 : atI [IV.int a, IV.int b, IV.int (c + 1)] 2 = some (.int (c + 1)) := rfl
    have c1 : ∀ x : Int, mulV (.int 104729) (.int x) = some (.int (104729 * x)) := fun x => mulV_int (.inl (by decide))
    have c2 : ∀ x : Int, modV (.int x) (.int 2147483647) = some (.int (x % 2147483647)) := fun x => modV_int (by decide)
    have c4 : ∀ x : Int, modV (.int x) (.int 2147483399) = some (.int (x % 2147483399)) := fun x => modV_int (by decide)
    have c5 : ∀ x : Int, divV (.int x) (.int 1009) = some (.int (x / 1009)) := fun x => divV_int (by decide) (by decide)
    have c6 : ∀ x : Int, divV (.int x) (.int 2003) = some (.int (x / 2003)) := fun x => divV_int (by decide) (by decide)
    have c7 : ∀ x : Int, divV (.int x) (.int 7) = some (.int (x / 7)) := fun x => divV_int (by decide) (by decide)
    have c8 : ∀ x y : Int, mulV (.int (x % 2147483647)) (.int y) = some (.int ((x % 2147483647) * y)) := fun x y => mulV_int (mod_small _ _ _ (by decide) (by decide))
    simp (config := { failIfUnchanged := false, decide := false }) only [W_bind, W_pure, W_no, W_opt, W_nox, W_op, W_un, W_C, W_varM, W_tst, W_boolM, W_ifB, W_notT, W_andT, W_orT, W_ifE, W_andV, W_orV, W_notV, W_chain, W_nil, W_cons, W_ap, W_apL, W_fl, W_nx, W_brk, W_cnt, W_seq, W_set, W_own, W_ret, W_retN, W_drop, W_if, W_call, W_make, W_fld, W_ix, W_part, W_noPart, W_sl, W_itL, W_itT, W_itS, W_for, W_forNil, W_while, W_gset, W_gcons, W_gnil, W_par2, W_fzM, W_rf, W_ownA, W_setIx, WF_run, WF_ok, WF_arM, eq_self, setE_mk, List.map_cons, List.map_nil, List.length_cons, List.length_nil, List.replicate, List.cons_append, List.nil_append, List.append_nil, List.set_cons_zero, List.set_cons_succ, List.getElem?_cons_zero, List.getElem?_cons_succ, Nat.reduceAdd, Nat.reduceSub, Nat.sub_zero, if_true, if_false, Bool.false_eq_true, and_self, and_true, true_and, Int.reduceLT, Int.reduceLE, Nat.reduceLeDiff, Nat.reduceLT, decide_true, decide_false, Bool.not_true, Bool.not_false, addV_int, subV_int, negV_int, ltV_int, leV_int, gtV_int, geV_int, eqV_int, neV_int, eqV_str, neV_str, intV_int, intV_bl, lenV_fl, lenV_tup, listV_fl, tupleV_fl, ixS_fl, ixS_tup, enm_fl, tupV, lstV, szL, szl, addV_fl, W_ownIxM, W_appM, W_parVN, W_parNV, W_parNN, W_parVVN, minV_int, maxV_int, scI, W_selfM, WI_run, WI_end, WI_ok, Int.cast_ofNat_Int, Int.reduceBEq, Int.reduceBNe, beq_self_eq_true, Bool.not_eq_true, Bool.and_true, Bool.true_and, W_gtupM, W_opL, W_ownSet, ixS_ref hw, hw, a0, a2, n2, ixS_ref hs, b1, b2, c1, c2, c4, c5, c6, c7, c8, mm]
    exact hQ _ _ (Int.emod_nonneg _ (by omega)) (Int.emod_lt_of_pos _ h0) ⟨_, _, _, hs⟩ (by simp)
theorem one_ok (Z : Ad) (i : Nat) (l : List IV) (μ : List SO) (Q : IV → List SO → Prop) (hw : Well μ i) (h0 : 0 < l.length) (h1 : l.length < 1000) (hQ : ∀ v μ', v ∈ l → Well μ' i → μ'.length = μ.length → Q v μ') :
    WF (fn__law_one Z [.ref i, .fl l] μ) Q := by
  unfold fn__law_one m__law_one
  simp (config := { failIfUnchanged := false, decide := false }) only [W_bind, W_pure, W_no, W_opt, W_nox, W_op, W_un, W_C, W_varM, W_tst, W_boolM, W_ifB, W_notT, W_andT, W_orT, W_ifE, W_andV, W_orV, W_notV, W_chain, W_nil, W_cons, W_ap, W_apL, W_fl, W_nx, W_brk, W_cnt, W_seq, W_set, W_own, W_ret, W_retN, W_drop, W_if, W_call, W_make, W_fld, W_ix, W_part, W_noPart, W_sl, W_itL, W_itT, W_itS, W_for, W_forNil, W_while, W_gset, W_gcons, W_gnil, W_par2, W_fzM, W_rf, W_ownA, W_setIx, WF_run, WF_ok, WF_arM, eq_self, setE_mk, List.map_cons, List.map_nil, List.length_cons, List.length_nil, List.replicate, List.cons_append, List.nil_append, List.append_nil, List.set_cons_zero, List.set_cons_succ, List.getElem?_cons_zero, List.getElem?_cons_succ, Nat.reduceAdd, Nat.reduceSub, Nat.sub_zero, if_true, if_false, Bool.false_eq_true, and_self, and_true, true_and, Int.reduceLT, Int.reduceLE, Nat.reduceLeDiff, Nat.reduceLT, decide_true, decide_false, Bool.not_true, Bool.not_false, addV_int, subV_int, negV_int, ltV_int, leV_int, gtV_int, geV_int, eqV_int, neV_int, eqV_str, neV_str, intV_int, intV_bl, lenV_fl, lenV_tup, listV_fl, tupleV_fl, ixS_fl, ixS_tup, enm_fl, tupV, lstV, szL, szl, addV_fl, W_ownIxM, W_appM, W_parVN, W_parNV, W_parNN, W_parVVN, minV_int, maxV_int, scI, W_selfM, WI_run, WI_end, WI_ok, Int.cast_ofNat_Int, Int.reduceBEq, Int.reduceBNe, beq_self_eq_true, Bool.not_eq_true, Bool.and_true, Bool.true_and, W_gtupM, W_opL, W_ownSet]
  refine next_ok Z i _ μ _ hw (by omega) (by omega) fun v μ' v0 v1 hw' hl => ?_
  obtain ⟨n, rfl⟩ := Int.eq_ofNat_of_zero_le v0
  have hn : n < l.length := by omega
  rw [ixS_fl, Mi.atI_n hn, List.getElem?_eq_getElem hn]
  exact hQ _ _ (List.getElem_mem hn) hw' hl
/-! ### kinds of rows -/
def Row.word : Row → Str
  | .text _ => "text" | .line _ => "line" | .hard => "hard" | .cat _ => "cat" | .nest _ _ => "nest" | .align _ => "align" | .group _ => "group"
def Row.leaf : Row → Bool
  | .text _ | .line _ | .hard => true
  | _ => false
def Row.brk : Row → Bool
  | .line _ | .hard => true
  | _ => false
def Row.isG : Row → Bool
  | .group _ => true
  | _ => false
def Row.isT : Row → Bool
  | .text _ => true
  | _ => false
theorem word_at (r : Row) (μ : List SO) : ixS μ r.iv (.int 0) = some (.str r.word) := by cases r <;> kernel_rfl
theorem leaf_at (r : Row) : inV' (.str r.word) (.tup [.str "text", .str "line", .str "hard"]) = some (.bl r.leaf) := by cases r <;> kernel_rfl
theorem brk_at (r : Row) : inV' (.str r.word) (.tup [.str "line", .str "hard"]) = some (.bl r.brk) := by cases r <;> kernel_rfl
theorem isG_at (r : Row) : (r.word == Str.ofString "group") = r.isG := by cases r <;> kernel_rfl
theorem isT_at (r : Row) : (r.word == Str.ofString "text") = r.isT := by cases r <;> kernel_rfl
/-- [found[part] for part in parts_of(row)] -/
def atG {α : Type} (iv : α → IV) (d : α) (t : List α) : IV → IV := fun x => match x with
  | .int k => iv (t.getD k.toNat d)
  | _ => .non
theorem atG_map {α : Type} {iv : α → IV} {d : α} {t : List α} {ps : List Nat} : (ps.map nI).map (atG iv d t) = (ps.map fun p => t.getD p d).map iv := by
  rw [List.map_map, List.map_map]; rfl
theorem at_of {α : Type} {iv : α → IV} {d : α} {t : List α} {p : Nat} (h : p < t.length) : atI (t.map iv) (p : Int) = some (iv (t.getD p d)) := by
  rw [Mi.atI_n (by simpa using h), List.getElem?_map, List.getElem?_eq_getElem h]
  simp [List.getD, List.getElem?_eq_getElem h]
theorem atG_at {α : Type} {iv : α → IV} {d : α} {t : List α} {p : Nat} (h : p < t.length) : atI (t.map iv) (p : Int) = some (atG iv d t (nI p)) := at_of h
def oI : Option Nat → IV
  | none => .non
  | some n => nI n
def lI (p : Nat × Bool) : IV := .tup [nI p.1, .bl p.2]
def fT (acc : List Nat) (r : Row) : Nat := 1 + (r.parts.map fun p => acc.getD p 0).sum
def fG (acc : List Nat) (r : Row) : Nat := (if r.isG = true then 1 else 0) + (r.parts.map fun p => acc.getD p 0).sum
theorem fetch {α : Type} (iv : α → IV) (d : α) (f : List α → Row → α) {rs : List Row} {k : Nat} {r : Row} (h : RowsOk rs) (hr : rs[k]? = some r) : ∀ x ∈ r.parts.map nI, atI ((vals f (rs.take k)).map iv) (match x with | .int j => j | _ => 0) = some (atG iv d (vals f (rs.take k)) x) := by
  intro x hx
  obtain ⟨p, hp, rfl⟩ := List.mem_map.mp hx
  have hkl := (List.getElem?_eq_some_iff.mp hr).1
  exact atG_at (by rw [vals_take_len f (Nat.le_of_lt hkl)]; exact (h k r hr).lt p hp)
end Lw
set_option Elab.async false
set_option linter.all false
set_option maxRecDepth 100000
set_option maxHeartbeats 2000000
namespace Lw
open PySem L2 Mi
/-! ### the reader -/
abbrev rd (Z : Ad) (l : List Nat) (n p : Nat) : SO := .ins Z.LineReader [("line", .str (tx l)), ("number", nI n), ("place", nI p)]
section
variable {Z : Ad} {μ : List SO} {j n p : Nat} {l : List Nat} {env : List Slot}
theorem gS {x : SO} (hj : j < μ.length) : (μ.set j x)[j]? = some x := by simp [hj]
theorem fL (hj : j < μ.length) : fldOf Z.LineReader "line" (.ref j) ⟨env, μ.set j (rd Z l n p)⟩ = some (.str (tx l)) := by
  unfold fldOf; simp only [gS hj, if_true]; kernel_rfl
theorem fN (hj : j < μ.length) : fldOf Z.LineReader "number" (.ref j) ⟨env, μ.set j (rd Z l n p)⟩ = some (nI n) := by
  unfold fldOf; simp only [gS hj, if_true]; kernel_rfl
theorem fP (hj : j < μ.length) : fldOf Z.LineReader "place" (.ref j) ⟨env, μ.set j (rd Z l n p)⟩ = some (nI p) := by
  unfold fldOf; simp only [gS hj, if_true]; kernel_rfl
theorem iX {m : Str} (hj : j < μ.length) (hm : List.lookup m ([("line", .str (tx l)), ("number", nI n), ("place", nI p)] : List (Str × IV)) = none) : isI Z.LineReader m (.ref j) ⟨env, μ.set j (rd Z l n p)⟩ = True := by
  unfold isI; simp only [gS hj]; exact eq_true ⟨trivial, hm⟩
theorem iR (hj : j < μ.length) : isI Z.LineReader "rest" (.ref j) ⟨env, μ.set j (rd Z l n p)⟩ = True := iX hj (by kernel_rfl)
theorem iW (hj : j < μ.length) : isI Z.LineReader "word" (.ref j) ⟨env, μ.set j (rd Z l n p)⟩ = True := iX hj (by kernel_rfl)
theorem iS (hj : j < μ.length) : isI Z.LineReader "string" (.ref j) ⟨env, μ.set j (rd Z l n p)⟩ = True := iX hj (by kernel_rfl)
theorem iI (hj : j < μ.length) : isI Z.LineReader "integer" (.ref j) ⟨env, μ.set j (rd Z l n p)⟩ = True := iX hj (by kernel_rfl)
theorem iIs (hj : j < μ.length) : isI Z.LineReader "integers" (.ref j) ⟨env, μ.set j (rd Z l n p)⟩ = True := iX hj (by kernel_rfl)
theorem iRow (hj : j < μ.length) : isI Z.LineReader "row" (.ref j) ⟨env, μ.set j (rd Z l n p)⟩ = True := iX hj (by kernel_rfl)
theorem pP {v : IV} : putI "place" v ([("line", .str (tx l)), ("number", nI n), ("place", nI p)] : List (Str × IV)) = ([("line", .str (tx l)), ("number", nI n), ("place", v)] : List (Str × IV)) := by
  unfold putI
  rw [if_neg (by decide +kernel)]
  unfold putI
  rw [if_neg (by decide +kernel)]
  unfold putI
  rw [if_pos rfl]
theorem slV_tx {a b : Option Int} (h : l.length ≤ 1000) : slV (.str (tx l)) a b = some (.str (cutS (tx l) a b)) := if_pos (by rw [tx_len]; unfold szl; omega)
theorem rest_ok (hj : j < μ.length) (hl : l.length ≤ 1000) : fn_LineReader_rest Z [.ref j] (μ.set j (rd Z l n p)) = .ok (.str (tx (l.drop p))) (μ.set j (rd Z l n p)) := by
  apply of_WF
  unfold fn_LineReader_rest m_LineReader_rest
  simp (config := { failIfUnchanged := false, decide := false }) only [W_bind, W_pure, W_no, W_opt, W_nox, W_op, W_un, W_C, W_varM, W_tst, W_boolM, W_ifB, W_notT, W_andT, W_orT, W_ifE, W_andV, W_orV, W_notV, W_chain, W_nil, W_cons, W_ap, W_apL, W_fl, W_nx, W_brk, W_cnt, W_seq, W_set, W_own, W_ret, W_retN, W_drop, W_if, W_call, W_make, W_fld, W_ix, W_part, W_noPart, W_sl, W_itL, W_itT, W_itS, W_for, W_forNil, W_while, W_gset, W_gcons, W_gnil, W_par2, W_fzM, W_rf, W_ownA, W_setIx, WF_run, WF_ok, WF_arM, eq_self, setE_mk, List.map_cons, List.map_nil, List.length_cons, List.length_nil, List.replicate, List.cons_append, List.nil_append, List.append_nil, List.set_cons_zero, List.set_cons_succ, List.getElem?_cons_zero, List.getElem?_cons_succ, Nat.reduceAdd, Nat.reduceSub, Nat.sub_zero, if_true, if_false, Bool.false_eq_true, and_self, and_true, true_and, Int.reduceLT, Int.reduceLE, Nat.reduceLeDiff, Nat.reduceLT, decide_true, decide_false, Bool.not_true, Bool.not_false, addV_int, subV_int, negV_int, ltV_int, leV_int, gtV_int, geV_int, eqV_int, neV_int, eqV_str, neV_str, intV_int, intV_bl, lenV_fl, lenV_tup, listV_fl, tupleV_fl, ixS_fl, ixS_tup, enm_fl, tupV, lstV, szL, szl, addV_fl, W_ownIxM, W_appM, W_parVN, W_parNV, W_parNN, W_parVVN, minV_int, maxV_int, scI, W_selfM, WI_run, WI_end, WI_ok, Int.cast_ofNat_Int, Int.reduceBEq, Int.reduceBNe, beq_self_eq_true, Bool.not_eq_true, Bool.and_true, Bool.true_and, W_gtupM, W_opL, W_ownSet, W_meth, W_eqM, W_setFld, W_makeR, W_join, W_split, W_ifL, W_extM, W_itK, W_menu, ite_true, ite_false, List.set_set, fL hj, fP hj, slV_tx hl, cut_from]
theorem nI_succ (k : Nat) : ((k : Int) + 1) = ((k + 1 : Nat) : Int) := by omega
/-! #### the word ahead -/
def firstIs (c : Nat) : IV → Bool
  | .str z => decide (z.cps.toList.head? = some c)
  | _ => false
theorem first_of {x : IV} {d c : Nat} (h1 : ∀ ν, ixS ν x (.int 0) = some (.str (tx [d]))) (h2 : ∀ c, firstIs c x = decide ((some d : Option Nat) = some c)) : firstIs c x = (tx [d] == tx [c]) := by
  rw [h2, tx_beq]
  by_cases h : d = c
  · subst h; simp
  · rw [decide_eq_false (by simp [h]), decide_eq_false (by simp [h])]
theorem word_firsts (c : Nat) : ∀ x ∈ ktup_WORDS, ∃ d, (∀ ν, ixS ν x (.int 0) = some (.str (tx [d]))) ∧ firstIs c x = (tx [d] == tx [c]) := by
  intro x hx
  simp only [ktup_WORDS, List.mem_cons, List.not_mem_nil, or_false] at hx
  rcases hx with rfl | rfl | rfl | rfl | rfl | rfl | rfl
  · exact ⟨116, fun ν => by kernel_rfl, first_of (fun ν => by kernel_rfl) fun c => by kernel_rfl⟩
  · exact ⟨108, fun ν => by kernel_rfl, first_of (fun ν => by kernel_rfl) fun c => by kernel_rfl⟩
  · exact ⟨104, fun ν => by kernel_rfl, first_of (fun ν => by kernel_rfl) fun c => by kernel_rfl⟩
  · exact ⟨99, fun ν => by kernel_rfl, first_of (fun ν => by kernel_rfl) fun c => by kernel_rfl⟩
  · exact ⟨110, fun ν => by kernel_rfl, first_of (fun ν => by kernel_rfl) fun c => by kernel_rfl⟩
  · exact ⟨97, fun ν => by kernel_rfl, first_of (fun ν => by kernel_rfl) fun c => by kernel_rfl⟩
  · exact ⟨103, fun ν => by kernel_rfl, first_of (fun ν => by kernel_rfl) fun c => by kernel_rfl⟩

theorem wipe1 {i : Nat} {s : S} : wipeS [i] s = ⟨s.env.set i .emp, s.sto⟩ := rfl
section
variable {c : Nat} {t : List Nat} {R : Flw → S → Prop}
theorem word_s1 (hj : j < μ.length) (hl : (c :: t).length ≤ 1000) (hR : R .nx ⟨[.val (.ref j), .val (.fl (ktup_WORDS.filter (firstIs c))), .emp, .emp], μ.set j (rd Z (c :: t) n 0)⟩) :
    W (m_LineReader_word_s1 Z) ⟨[.val (.ref j), .emp, .emp, .emp], μ.set j (rd Z (c :: t) n 0)⟩ R := by
  unfold m_LineReader_word_s1
  simp (config := { failIfUnchanged := false, decide := false }) only [W_bind, W_pure, W_no, W_opt, W_nox, W_op, W_un, W_C, W_varM, W_tst, W_boolM, W_ifB, W_notT, W_andT, W_orT, W_ifE, W_andV, W_orV, W_notV, W_chain, W_nil, W_cons, W_ap, W_apL, W_fl, W_nx, W_brk, W_cnt, W_seq, W_set, W_own, W_ret, W_retN, W_drop, W_if, W_call, W_make, W_fld, W_ix, W_part, W_noPart, W_sl, W_itL, W_itT, W_itS, W_for, W_forNil, W_while, W_gset, W_gcons, W_gnil, W_par2, W_fzM, W_rf, W_ownA, W_setIx, WF_run, WF_ok, WF_arM, eq_self, setE_mk, List.map_cons, List.map_nil, List.length_cons, List.length_nil, List.replicate, List.cons_append, List.nil_append, List.append_nil, List.set_cons_zero, List.set_cons_succ, List.getElem?_cons_zero, List.getElem?_cons_succ, Nat.reduceAdd, Nat.reduceSub, Nat.sub_zero, if_true, if_false, Bool.false_eq_true, and_self, and_true, true_and, Int.reduceLT, Int.reduceLE, Nat.reduceLeDiff, Nat.reduceLT, decide_true, decide_false, Bool.not_true, Bool.not_false, addV_int, subV_int, negV_int, ltV_int, leV_int, gtV_int, geV_int, eqV_int, neV_int, eqV_str, neV_str, intV_int, intV_bl, lenV_fl, lenV_tup, listV_fl, tupleV_fl, ixS_fl, ixS_tup, enm_fl, tupV, lstV, szL, szl, addV_fl, W_ownIxM, W_appM, W_parVN, W_parNV, W_parNN, W_parVVN, minV_int, maxV_int, scI, W_selfM, WI_run, WI_end, WI_ok, Int.cast_ofNat_Int, Int.reduceBEq, Int.reduceBNe, beq_self_eq_true, Bool.not_eq_true, Bool.and_true, Bool.true_and, W_gtupM, W_opL, W_ownSet, W_meth, W_eqM, W_setFld, W_makeR, W_join, W_split, W_ifL, W_extM, W_itK, W_menu, ite_true, ite_false, List.set_set]
  refine W_compP (firstIs c) (fun x => x) ?_
  simp (config := { failIfUnchanged := false, decide := false }) only [W_bind, W_pure, W_no, W_opt, W_nox, W_op, W_un, W_C, W_varM, W_tst, W_boolM, W_ifB, W_notT, W_andT, W_orT, W_ifE, W_andV, W_orV, W_notV, W_chain, W_nil, W_cons, W_ap, W_apL, W_fl, W_nx, W_brk, W_cnt, W_seq, W_set, W_own, W_ret, W_retN, W_drop, W_if, W_call, W_make, W_fld, W_ix, W_part, W_noPart, W_sl, W_itL, W_itT, W_itS, W_for, W_forNil, W_while, W_gset, W_gcons, W_gnil, W_par2, W_fzM, W_rf, W_ownA, W_setIx, WF_run, WF_ok, WF_arM, eq_self, setE_mk, List.map_cons, List.map_nil, List.length_cons, List.length_nil, List.replicate, List.cons_append, List.nil_append, List.append_nil, List.set_cons_zero, List.set_cons_succ, List.getElem?_cons_zero, List.getElem?_cons_succ, Nat.reduceAdd, Nat.reduceSub, Nat.sub_zero, if_true, if_false, Bool.false_eq_true, and_self, and_true, true_and, Int.reduceLT, Int.reduceLE, Nat.reduceLeDiff, Nat.reduceLT, decide_true, decide_false, Bool.not_true, Bool.not_false, addV_int, subV_int, negV_int, ltV_int, leV_int, gtV_int, geV_int, eqV_int, neV_int, eqV_str, neV_str, intV_int, intV_bl, lenV_fl, lenV_tup, listV_fl, tupleV_fl, ixS_fl, ixS_tup, enm_fl, tupV, lstV, szL, szl, addV_fl, W_ownIxM, W_appM, W_parVN, W_parNV, W_parNN, W_parVVN, minV_int, maxV_int, scI, W_selfM, WI_run, WI_end, WI_ok, Int.cast_ofNat_Int, Int.reduceBEq, Int.reduceBNe, beq_self_eq_true, Bool.not_eq_true, Bool.and_true, Bool.true_and, W_gtupM, W_opL, W_ownSet, W_meth, W_eqM, W_setFld, W_makeR, W_join, W_split, W_ifL, W_extM, W_itK, W_menu, ite_true, ite_false, List.set_set]
  refine ⟨by unfold ktup_WORDS; decide, ?_, ?_⟩
  · intro x hx
    obtain ⟨d, h1, h2⟩ := word_firsts c x hx
    rw [h2]
    simp (config := { failIfUnchanged := false, decide := false }) only [W_bind, W_pure, W_no, W_opt, W_nox, W_op, W_un, W_C, W_varM, W_tst, W_boolM, W_ifB, W_notT, W_andT, W_orT, W_ifE, W_andV, W_orV, W_notV, W_chain, W_nil, W_cons, W_ap, W_apL, W_fl, W_nx, W_brk, W_cnt, W_seq, W_set, W_own, W_ret, W_retN, W_drop, W_if, W_call, W_make, W_fld, W_ix, W_part, W_noPart, W_sl, W_itL, W_itT, W_itS, W_for, W_forNil, W_while, W_gset, W_gcons, W_gnil, W_par2, W_fzM, W_rf, W_ownA, W_setIx, WF_run, WF_ok, WF_arM, eq_self, setE_mk, List.map_cons, List.map_nil, List.length_cons, List.length_nil, List.replicate, List.cons_append, List.nil_append, List.append_nil, List.set_cons_zero, List.set_cons_succ, List.getElem?_cons_zero, List.getElem?_cons_succ, Nat.reduceAdd, Nat.reduceSub, Nat.sub_zero, if_true, if_false, Bool.false_eq_true, and_self, and_true, true_and, Int.reduceLT, Int.reduceLE, Nat.reduceLeDiff, Nat.reduceLT, decide_true, decide_false, Bool.not_true, Bool.not_false, addV_int, subV_int, negV_int, ltV_int, leV_int, gtV_int, geV_int, eqV_int, neV_int, eqV_str, neV_str, intV_int, intV_bl, lenV_fl, lenV_tup, listV_fl, tupleV_fl, ixS_fl, ixS_tup, enm_fl, tupV, lstV, szL, szl, addV_fl, W_ownIxM, W_appM, W_parVN, W_parNV, W_parNN, W_parVVN, minV_int, maxV_int, scI, W_selfM, WI_run, WI_end, WI_ok, Int.cast_ofNat_Int, Int.reduceBEq, Int.reduceBNe, beq_self_eq_true, Bool.not_eq_true, Bool.and_true, Bool.true_and, W_gtupM, W_opL, W_ownSet, W_meth, W_eqM, W_setFld, W_makeR, W_join, W_split, W_ifL, W_extM, W_itK, W_menu, ite_true, ite_false, List.set_set, wipe1, h1, fL hj, slV_tx hl, cut_to (c :: t) 1, show cutS (tx (c :: t)) none (some 1) = tx [c] from cut_to (c :: t) 1]
    cases (tx [d] == tx [c]) <;> simp (config := { failIfUnchanged := false, decide := false }) only [W_bind, W_pure, W_no, W_opt, W_nox, W_op, W_un, W_C, W_varM, W_tst, W_boolM, W_ifB, W_notT, W_andT, W_orT, W_ifE, W_andV, W_orV, W_notV, W_chain, W_nil, W_cons, W_ap, W_apL, W_fl, W_nx, W_brk, W_cnt, W_seq, W_set, W_own, W_ret, W_retN, W_drop, W_if, W_call, W_make, W_fld, W_ix, W_part, W_noPart, W_sl, W_itL, W_itT, W_itS, W_for, W_forNil, W_while, W_gset, W_gcons, W_gnil, W_par2, W_fzM, W_rf, W_ownA, W_setIx, WF_run, WF_ok, WF_arM, eq_self, setE_mk, List.map_cons, List.map_nil, List.length_cons, List.length_nil, List.replicate, List.cons_append, List.nil_append, List.append_nil, List.set_cons_zero, List.set_cons_succ, List.getElem?_cons_zero, List.getElem?_cons_succ, Nat.reduceAdd, Nat.reduceSub, Nat.sub_zero, if_true, if_false, Bool.false_eq_true, and_self, and_true, true_and, Int.reduceLT, Int.reduceLE, Nat.reduceLeDiff, Nat.reduceLT, decide_true, decide_false, Bool.not_true, Bool.not_false, addV_int, subV_int, negV_int, ltV_int, leV_int, gtV_int, geV_int, eqV_int, neV_int, eqV_str, neV_str, intV_int, intV_bl, lenV_fl, lenV_tup, listV_fl, tupleV_fl, ixS_fl, ixS_tup, enm_fl, tupV, lstV, szL, szl, addV_fl, W_ownIxM, W_appM, W_parVN, W_parNV, W_parNN, W_parVVN, minV_int, maxV_int, scI, W_selfM, WI_run, WI_end, WI_ok, Int.cast_ofNat_Int, Int.reduceBEq, Int.reduceBNe, beq_self_eq_true, Bool.not_eq_true, Bool.and_true, Bool.true_and, W_gtupM, W_opL, W_ownSet, W_meth, W_eqM, W_setFld, W_makeR, W_join, W_split, W_ifL, W_extM, W_itK, W_menu, ite_true, ite_false, List.set_set, wipe1]
  · rw [List.map_id']
    exact hR
theorem word_s2 {w : List Nat} {b : Bool} (hj : j < μ.length) (he : Mi.eqV (.fl [.str (tx w)]) (.fl []) = some (.bl false)) (hi : inV' (.str (tx w)) (.tup [.str "nest", .str "align", .str "group"]) = some (.bl b)) (hb : b = true → n ≠ 0)
    (hR : R .nx ⟨[.val (.ref j), .val (.fl [.str (tx w)]), .emp, .emp], μ.set j (rd Z l n p)⟩) :
    W (m_LineReader_word_s2 Z) ⟨[.val (.ref j), .val (.fl [.str (tx w)]), .emp, .emp], μ.set j (rd Z l n p)⟩ R := by
  unfold m_LineReader_word_s2
  have a0 : atI [IV.str (tx w)] 0 = some (.str (tx w)) := rfl
  simp (config := { failIfUnchanged := false, decide := false }) only [W_bind, W_pure, W_no, W_opt, W_nox, W_op, W_un, W_C, W_varM, W_tst, W_boolM, W_ifB, W_notT, W_andT, W_orT, W_ifE, W_andV, W_orV, W_notV, W_chain, W_nil, W_cons, W_ap, W_apL, W_fl, W_nx, W_brk, W_cnt, W_seq, W_set, W_own, W_ret, W_retN, W_drop, W_if, W_call, W_make, W_fld, W_ix, W_part, W_noPart, W_sl, W_itL, W_itT, W_itS, W_for, W_forNil, W_while, W_gset, W_gcons, W_gnil, W_par2, W_fzM, W_rf, W_ownA, W_setIx, WF_run, WF_ok, WF_arM, eq_self, setE_mk, List.map_cons, List.map_nil, List.length_cons, List.length_nil, List.replicate, List.cons_append, List.nil_append, List.append_nil, List.set_cons_zero, List.set_cons_succ, List.getElem?_cons_zero, List.getElem?_cons_succ, Nat.reduceAdd, Nat.reduceSub, Nat.sub_zero, if_true, if_false, Bool.false_eq_true, and_self, and_true, true_and, Int.reduceLT, Int.reduceLE, Nat.reduceLeDiff, Nat.reduceLT, decide_true, decide_false, Bool.not_true, Bool.not_false, addV_int, subV_int, negV_int, ltV_int, leV_int, gtV_int, geV_int, eqV_int, neV_int, eqV_str, neV_str, intV_int, intV_bl, lenV_fl, lenV_tup, listV_fl, tupleV_fl, ixS_fl, ixS_tup, enm_fl, tupV, lstV, szL, szl, addV_fl, W_ownIxM, W_appM, W_parVN, W_parNV, W_parNN, W_parVVN, minV_int, maxV_int, scI, W_selfM, WI_run, WI_end, WI_ok, Int.cast_ofNat_Int, Int.reduceBEq, Int.reduceBNe, beq_self_eq_true, Bool.not_eq_true, Bool.and_true, Bool.true_and, W_gtupM, W_opL, W_ownSet, W_meth, W_eqM, W_setFld, W_makeR, W_join, W_split, W_ifL, W_extM, W_itK, W_menu, ite_true, ite_false, List.set_set, he, a0, hi]
  cases b with
  | false => simp (config := { failIfUnchanged := false, decide := false }) only [W_bind, W_pure, W_no, W_opt, W_nox, W_op, W_un, W_C, W_varM, W_tst, W_boolM, W_ifB, W_notT, W_andT, W_orT, W_ifE, W_andV, W_orV, W_notV, W_chain, W_nil, W_cons, W_ap, W_apL, W_fl, W_nx, W_brk, W_cnt, W_seq, W_set, W_own, W_ret, W_retN, W_drop, W_if, W_call, W_make, W_fld, W_ix, W_part, W_noPart, W_sl, W_itL, W_itT, W_itS, W_for, W_forNil, W_while, W_gset, W_gcons, W_gnil, W_par2, W_fzM, W_rf, W_ownA, W_setIx, WF_run, WF_ok, WF_arM, eq_self, setE_mk, List.map_cons, List.map_nil, List.length_cons, List.length_nil, List.replicate, List.cons_append, List.nil_append, List.append_nil, List.set_cons_zero, List.set_cons_succ, List.getElem?_cons_zero, List.getElem?_cons_succ, Nat.reduceAdd, Nat.reduceSub, Nat.sub_zero, if_true, if_false, Bool.false_eq_true, and_self, and_true, true_and, Int.reduceLT, Int.reduceLE, Nat.reduceLeDiff, Nat.reduceLT, decide_true, decide_false, Bool.not_true, Bool.not_false, addV_int, subV_int, negV_int, ltV_int, leV_int, gtV_int, geV_int, eqV_int, neV_int, eqV_str, neV_str, intV_int, intV_bl, lenV_fl, lenV_tup, listV_fl, tupleV_fl, ixS_fl, ixS_tup, enm_fl, tupV, lstV, szL, szl, addV_fl, W_ownIxM, W_appM, W_parVN, W_parNV, W_parNN, W_parVVN, minV_int, maxV_int, scI, W_selfM, WI_run, WI_end, WI_ok, Int.cast_ofNat_Int, Int.reduceBEq, Int.reduceBNe, beq_self_eq_true, Bool.not_eq_true, Bool.and_true, Bool.true_and, W_gtupM, W_opL, W_ownSet, W_meth, W_eqM, W_setFld, W_makeR, W_join, W_split, W_ifL, W_extM, W_itK, W_menu, ite_true, ite_false, List.set_set]; exact hR
  | true =>
    have : ((n : Int) == 0) = false := beq_eq_false_iff_ne.mpr (by have := hb rfl; omega)
    simp (config := { failIfUnchanged := false, decide := false }) only [W_bind, W_pure, W_no, W_opt, W_nox, W_op, W_un, W_C, W_varM, W_tst, W_boolM, W_ifB, W_notT, W_andT, W_orT, W_ifE, W_andV, W_orV, W_notV, W_chain, W_nil, W_cons, W_ap, W_apL, W_fl, W_nx, W_brk, W_cnt, W_seq, W_set, W_own, W_ret, W_retN, W_drop, W_if, W_call, W_make, W_fld, W_ix, W_part, W_noPart, W_sl, W_itL, W_itT, W_itS, W_for, W_forNil, W_while, W_gset, W_gcons, W_gnil, W_par2, W_fzM, W_rf, W_ownA, W_setIx, WF_run, WF_ok, WF_arM, eq_self, setE_mk, List.map_cons, List.map_nil, List.length_cons, List.length_nil, List.replicate, List.cons_append, List.nil_append, List.append_nil, List.set_cons_zero, List.set_cons_succ, List.getElem?_cons_zero, List.getElem?_cons_succ, Nat.reduceAdd, Nat.reduceSub, Nat.sub_zero, if_true, if_false, Bool.false_eq_true, and_self, and_true, true_and, Int.reduceLT, Int.reduceLE, Nat.reduceLeDiff, Nat.reduceLT, decide_true, decide_false, Bool.not_true, Bool.not_false, addV_int, subV_int, negV_int, ltV_int, leV_int, gtV_int, geV_int, eqV_int, neV_int, eqV_str, neV_str, intV_int, intV_bl, lenV_fl, lenV_tup, listV_fl, tupleV_fl, ixS_fl, ixS_tup, enm_fl, tupV, lstV, szL, szl, addV_fl, W_ownIxM, W_appM, W_parVN, W_parNV, W_parNN, W_parVVN, minV_int, maxV_int, scI, W_selfM, WI_run, WI_end, WI_ok, Int.cast_ofNat_Int, Int.reduceBEq, Int.reduceBNe, beq_self_eq_true, Bool.not_eq_true, Bool.and_true, Bool.true_and, W_gtupM, W_opL, W_ownSet, W_meth, W_eqM, W_setFld, W_makeR, W_join, W_split, W_ifL, W_extM, W_itK, W_menu, ite_true, ite_false, List.set_set, fN hj, this]; exact hR
theorem neV_tx (a b : List Nat) : neV (.str (tx a)) (.str (tx b)) = some (.bl (!decide (a = b))) := by rw [neV_str, tx_beq]
theorem eqV_tx (a b : List Nat) : Mi.eqV (.str (tx a)) (.str (tx b)) = some (.bl (decide (a = b))) := by rw [eqV_str, tx_beq]
theorem cut1 (l : List Nat) : cutS (tx l) none (some 1) = tx (l.take 1) := cut_to l 1
theorem word_s3 {w : List Nat} (hj : j < μ.length) (hl : (w ++ t).length ≤ 1000) (hR : ∀ x, R .nx ⟨[.val (.ref j), .val (.fl [.str (tx w)]), x, .emp], μ.set j (rd Z (w ++ t) n w.length)⟩) :
    W (m_LineReader_word_s3 Z) ⟨[.val (.ref j), .val (.fl [.str (tx w)]), .emp, .emp], μ.set j (rd Z (w ++ t) n 0)⟩ R := by
  unfold m_LineReader_word_s3
  have a0 : atI [IV.str (tx w)] 0 = some (.str (tx w)) := rfl
  simp (config := { failIfUnchanged := false, decide := false }) only [W_bind, W_pure, W_no, W_opt, W_nox, W_op, W_un, W_C, W_varM, W_tst, W_boolM, W_ifB, W_notT, W_andT, W_orT, W_ifE, W_andV, W_orV, W_notV, W_chain, W_nil, W_cons, W_ap, W_apL, W_fl, W_nx, W_brk, W_cnt, W_seq, W_set, W_own, W_ret, W_retN, W_drop, W_if, W_call, W_make, W_fld, W_ix, W_part, W_noPart, W_sl, W_itL, W_itT, W_itS, W_for, W_forNil, W_while, W_gset, W_gcons, W_gnil, W_par2, W_fzM, W_rf, W_ownA, W_setIx, WF_run, WF_ok, WF_arM, eq_self, setE_mk, List.map_cons, List.map_nil, List.length_cons, List.length_nil, List.replicate, List.cons_append, List.nil_append, List.append_nil, List.set_cons_zero, List.set_cons_succ, List.getElem?_cons_zero, List.getElem?_cons_succ, Nat.reduceAdd, Nat.reduceSub, Nat.sub_zero, if_true, if_false, Bool.false_eq_true, and_self, and_true, true_and, Int.reduceLT, Int.reduceLE, Nat.reduceLeDiff, Nat.reduceLT, decide_true, decide_false, Bool.not_true, Bool.not_false, addV_int, subV_int, negV_int, ltV_int, leV_int, gtV_int, geV_int, eqV_int, neV_int, eqV_str, neV_str, intV_int, intV_bl, lenV_fl, lenV_tup, listV_fl, tupleV_fl, ixS_fl, ixS_tup, enm_fl, tupV, lstV, szL, szl, addV_fl, W_ownIxM, W_appM, W_parVN, W_parNV, W_parNN, W_parVVN, minV_int, maxV_int, scI, W_selfM, WI_run, WI_end, WI_ok, Int.cast_ofNat_Int, Int.reduceBEq, Int.reduceBNe, beq_self_eq_true, Bool.not_eq_true, Bool.and_true, Bool.true_and, W_gtupM, W_opL, W_ownSet, W_meth, W_eqM, W_setFld, W_makeR, W_join, W_split, W_ifL, W_extM, W_itK, W_menu, ite_true, ite_false, List.set_set, a0, sgn_tx]
  refine W_forI (fun k s => ∃ x, s = ⟨[.val (.ref j), .val (.fl [.str (tx w)]), x, .emp], μ.set j (rd Z (w ++ t) n k)⟩) _ 0 _ ⟨_, rfl⟩ ?_ ?_
  · rintro k x s hk ⟨x0, rfl⟩
    obtain ⟨c, hc, rfl⟩ := map_at hk
    rw [show 0 + k = k from by omega]
    have hkl := (List.getElem?_eq_some_iff.mp hc).1
    have e1 : ((w ++ t).drop k).take 1 = [c] := by
      have : (w ++ t)[k]? = some c := by rw [List.getElem?_append_left hkl]; exact hc
      rw [List.take_one, List.head?_drop, this]; rfl
    have hl' : ((w ++ t).drop k).length ≤ 1000 := by rw [List.length_drop]; omega
    simp (config := { failIfUnchanged := false, decide := false }) only [W_bind, W_pure, W_no, W_opt, W_nox, W_op, W_un, W_C, W_varM, W_tst, W_boolM, W_ifB, W_notT, W_andT, W_orT, W_ifE, W_andV, W_orV, W_notV, W_chain, W_nil, W_cons, W_ap, W_apL, W_fl, W_nx, W_brk, W_cnt, W_seq, W_set, W_own, W_ret, W_retN, W_drop, W_if, W_call, W_make, W_fld, W_ix, W_part, W_noPart, W_sl, W_itL, W_itT, W_itS, W_for, W_forNil, W_while, W_gset, W_gcons, W_gnil, W_par2, W_fzM, W_rf, W_ownA, W_setIx, WF_run, WF_ok, WF_arM, eq_self, setE_mk, List.map_cons, List.map_nil, List.length_cons, List.length_nil, List.replicate, List.cons_append, List.nil_append, List.append_nil, List.set_cons_zero, List.set_cons_succ, List.getElem?_cons_zero, List.getElem?_cons_succ, Nat.reduceAdd, Nat.reduceSub, Nat.sub_zero, if_true, if_false, Bool.false_eq_true, and_self, and_true, true_and, Int.reduceLT, Int.reduceLE, Nat.reduceLeDiff, Nat.reduceLT, decide_true, decide_false, Bool.not_true, Bool.not_false, addV_int, subV_int, negV_int, ltV_int, leV_int, gtV_int, geV_int, eqV_int, neV_int, eqV_str, neV_str, intV_int, intV_bl, lenV_fl, lenV_tup, listV_fl, tupleV_fl, ixS_fl, ixS_tup, enm_fl, tupV, lstV, szL, szl, addV_fl, W_ownIxM, W_appM, W_parVN, W_parNV, W_parNN, W_parVVN, minV_int, maxV_int, scI, W_selfM, WI_run, WI_end, WI_ok, Int.cast_ofNat_Int, Int.reduceBEq, Int.reduceBNe, beq_self_eq_true, Bool.not_eq_true, Bool.and_true, Bool.true_and, W_gtupM, W_opL, W_ownSet, W_meth, W_eqM, W_setFld, W_makeR, W_join, W_split, W_ifL, W_extM, W_itK, W_menu, ite_true, ite_false, List.set_set, iR hj, rest_ok hj hl, slV_tx hl', cut1, e1, neV_tx, fP hj, gS hj, pP, nI_succ, if_true]
    exact ⟨.inl trivial, _, rfl⟩
  · rintro s ⟨x, rfl⟩
    rw [show 0 + (w.map fun c => IV.str (tx [c])).length = w.length from by simp]
    exact hR x
theorem word_ok (hj : j < μ.length) {w : List Nat} {b : Bool} (hw : w = c :: w.tail) (hf : ktup_WORDS.filter (firstIs c) = [.str (tx w)]) (he : Mi.eqV (.fl [.str (tx w)]) (.fl []) = some (.bl false))
    (hi : inV' (.str (tx w)) (.tup [.str "nest", .str "align", .str "group"]) = some (.bl b)) (hb : b = true → n ≠ 0) (hl : (w ++ t).length ≤ 1000) :
    fn_LineReader_word Z [.ref j] (μ.set j (rd Z (w ++ t) n 0)) = .ok (.str (tx w)) (μ.set j (rd Z (w ++ t) n w.length)) := by
  apply of_WF
  unfold fn_LineReader_word m_LineReader_word m_LineReader_word_r1 m_LineReader_word_r2 m_LineReader_word_r3
  simp (config := { failIfUnchanged := false, decide := false }) only [W_bind, W_pure, W_no, W_opt, W_nox, W_op, W_un, W_C, W_varM, W_tst, W_boolM, W_ifB, W_notT, W_andT, W_orT, W_ifE, W_andV, W_orV, W_notV, W_chain, W_nil, W_cons, W_ap, W_apL, W_fl, W_nx, W_brk, W_cnt, W_seq, W_set, W_own, W_ret, W_retN, W_drop, W_if, W_call, W_make, W_fld, W_ix, W_part, W_noPart, W_sl, W_itL, W_itT, W_itS, W_for, W_forNil, W_while, W_gset, W_gcons, W_gnil, W_par2, W_fzM, W_rf, W_ownA, W_setIx, WF_run, WF_ok, WF_arM, eq_self, setE_mk, List.map_cons, List.map_nil, List.length_cons, List.length_nil, List.replicate, List.cons_append, List.nil_append, List.append_nil, List.set_cons_zero, List.set_cons_succ, List.getElem?_cons_zero, List.getElem?_cons_succ, Nat.reduceAdd, Nat.reduceSub, Nat.sub_zero, if_true, if_false, Bool.false_eq_true, and_self, and_true, true_and, Int.reduceLT, Int.reduceLE, Nat.reduceLeDiff, Nat.reduceLT, decide_true, decide_false, Bool.not_true, Bool.not_false, addV_int, subV_int, negV_int, ltV_int, leV_int, gtV_int, geV_int, eqV_int, neV_int, eqV_str, neV_str, intV_int, intV_bl, lenV_fl, lenV_tup, listV_fl, tupleV_fl, ixS_fl, ixS_tup, enm_fl, tupV, lstV, szL, szl, addV_fl, W_ownIxM, W_appM, W_parVN, W_parNV, W_parNN, W_parVVN, minV_int, maxV_int, scI, W_selfM, WI_run, WI_end, WI_ok, Int.cast_ofNat_Int, Int.reduceBEq, Int.reduceBNe, beq_self_eq_true, Bool.not_eq_true, Bool.and_true, Bool.true_and, W_gtupM, W_opL, W_ownSet, W_meth, W_eqM, W_setFld, W_makeR, W_join, W_split, W_ifL, W_extM, W_itK, W_menu, ite_true, ite_false, List.set_set]
  have e : w ++ t = c :: (w.tail ++ t) := by rw [← List.cons_append, ← hw]
  rw [e]
  refine word_s1 hj (by rw [← e]; exact hl) ?_
  rw [← e, hf]
  refine word_s2 hj he hi hb ?_
  refine word_s3 hj hl fun x => ?_
  unfold m_LineReader_word_s4
  have a0 : atI [IV.str (tx w)] 0 = some (.str (tx w)) := rfl
  simp (config := { failIfUnchanged := false, decide := false }) only [W_bind, W_pure, W_no, W_opt, W_nox, W_op, W_un, W_C, W_varM, W_tst, W_boolM, W_ifB, W_notT, W_andT, W_orT, W_ifE, W_andV, W_orV, W_notV, W_chain, W_nil, W_cons, W_ap, W_apL, W_fl, W_nx, W_brk, W_cnt, W_seq, W_set, W_own, W_ret, W_retN, W_drop, W_if, W_call, W_make, W_fld, W_ix, W_part, W_noPart, W_sl, W_itL, W_itT, W_itS, W_for, W_forNil, W_while, W_gset, W_gcons, W_gnil, W_par2, W_fzM, W_rf, W_ownA, W_setIx, WF_run, WF_ok, WF_arM, eq_self, setE_mk, List.map_cons, List.map_nil, List.length_cons, List.length_nil, List.replicate, List.cons_append, List.nil_append, List.append_nil, List.set_cons_zero, List.set_cons_succ, List.getElem?_cons_zero, List.getElem?_cons_succ, Nat.reduceAdd, Nat.reduceSub, Nat.sub_zero, if_true, if_false, Bool.false_eq_true, and_self, and_true, true_and, Int.reduceLT, Int.reduceLE, Nat.reduceLeDiff, Nat.reduceLT, decide_true, decide_false, Bool.not_true, Bool.not_false, addV_int, subV_int, negV_int, ltV_int, leV_int, gtV_int, geV_int, eqV_int, neV_int, eqV_str, neV_str, intV_int, intV_bl, lenV_fl, lenV_tup, listV_fl, tupleV_fl, ixS_fl, ixS_tup, enm_fl, tupV, lstV, szL, szl, addV_fl, W_ownIxM, W_appM, W_parVN, W_parNV, W_parNN, W_parVVN, minV_int, maxV_int, scI, W_selfM, WI_run, WI_end, WI_ok, Int.cast_ofNat_Int, Int.reduceBEq, Int.reduceBNe, beq_self_eq_true, Bool.not_eq_true, Bool.and_true, Bool.true_and, W_gtupM, W_opL, W_ownSet, W_meth, W_eqM, W_setFld, W_makeR, W_join, W_split, W_ifL, W_extM, W_itK, W_menu, ite_true, ite_false, List.set_set, a0]
end
/-! #### strings -/
theorem sp_cps' : (Str.ofString " ") = tx [32] := by decide +kernel
theorem nil_cps : (Str.ofString "") = tx [] := by decide +kernel
theorem range_sign {c : Nat} (h : 32 ≤ c ∧ c ≤ 126) : leV (.str " ") (.str (tx [c])) = some (.bl true) ∧ leV (.str (tx [c])) (.str "~") = some (.bl true) := by
  constructor
  · show some (IV.bl (!decide ([c] < ((" " : Str)).cps.toList))) = _
    rw [sp_cps, one_lt, decide_eq_false (by omega)]; rfl
  · show some (IV.bl (!decide ((("~" : Str)).cps.toList < [c]))) = _
    rw [ti_cps, one_lt, decide_eq_false (by omega)]; rfl
theorem drop_cons {pre : List Nat} {c : Nat} {t : List Nat} : ((pre ++ c :: t).drop pre.length).take 1 = [c] := by
  rw [List.drop_left]; rfl
theorem string_ok (hj : j < μ.length) {pre sg : List Nat} {m : Nat} (hs : ∀ c ∈ sg, 32 ≤ c ∧ c ≤ 126) (hm : sg.length ≤ m) (hl : (pre ++ 32 :: sg).length ≤ 1000) :
    fn_LineReader_string Z [.ref j, nI m] (μ.set j (rd Z (pre ++ 32 :: sg) n pre.length)) = .ok (.str (tx sg)) (μ.set j (rd Z (pre ++ 32 :: sg) n (pre ++ 32 :: sg).length)) := by
  apply of_WF
  unfold fn_LineReader_string m_LineReader_string m_LineReader_string_r1 m_LineReader_string_r2 m_LineReader_string_r3 m_LineReader_string_r4
  unfold m_LineReader_string_s1 m_LineReader_string_s2 m_LineReader_string_s3 m_LineReader_string_s4 m_LineReader_string_s5
  have hl' : ∀ k, ((pre ++ 32 :: sg).drop k).length ≤ 1000 := fun k => by rw [List.length_drop]; omega
  have e2 : (pre ++ 32 :: sg).drop (pre.length + 1) = sg := by
    rw [show pre ++ 32 :: sg = (pre ++ [32]) ++ sg from by simp, show pre.length + 1 = (pre ++ [32]).length from by simp, List.drop_left]
  simp (config := { failIfUnchanged := false, decide := false }) only [W_bind, W_pure, W_no, W_opt, W_nox, W_op, W_un, W_C, W_varM, W_tst, W_boolM, W_ifB, W_notT, W_andT, W_orT, W_ifE, W_andV, W_orV, W_notV, W_chain, W_nil, W_cons, W_ap, W_apL, W_fl, W_nx, W_brk, W_cnt, W_seq, W_set, W_own, W_ret, W_retN, W_drop, W_if, W_call, W_make, W_fld, W_ix, W_part, W_noPart, W_sl, W_itL, W_itT, W_itS, W_for, W_forNil, W_while, W_gset, W_gcons, W_gnil, W_par2, W_fzM, W_rf, W_ownA, W_setIx, WF_run, WF_ok, WF_arM, eq_self, setE_mk, List.map_cons, List.map_nil, List.length_cons, List.length_nil, List.replicate, List.cons_append, List.nil_append, List.append_nil, List.set_cons_zero, List.set_cons_succ, List.getElem?_cons_zero, List.getElem?_cons_succ, Nat.reduceAdd, Nat.reduceSub, Nat.sub_zero, if_true, if_false, Bool.false_eq_true, and_self, and_true, true_and, Int.reduceLT, Int.reduceLE, Nat.reduceLeDiff, Nat.reduceLT, decide_true, decide_false, Bool.not_true, Bool.not_false, addV_int, subV_int, negV_int, ltV_int, leV_int, gtV_int, geV_int, eqV_int, neV_int, eqV_str, neV_str, intV_int, intV_bl, lenV_fl, lenV_tup, listV_fl, tupleV_fl, ixS_fl, ixS_tup, enm_fl, tupV, lstV, szL, szl, addV_fl, W_ownIxM, W_appM, W_parVN, W_parNV, W_parNN, W_parVVN, minV_int, maxV_int, scI, W_selfM, WI_run, WI_end, WI_ok, Int.cast_ofNat_Int, Int.reduceBEq, Int.reduceBNe, beq_self_eq_true, Bool.not_eq_true, Bool.and_true, Bool.true_and, W_gtupM, W_opL, W_ownSet, W_meth, W_eqM, W_setFld, W_makeR, W_join, W_split, W_ifL, W_extM, W_itK, W_menu, ite_true, ite_false, List.set_set, iR hj, rest_ok hj hl, slV_tx (hl' _), cut1, drop_cons, sp_cps', neV_tx, fP hj, gS hj, pP, nI_succ, e2, slV_tx (l := sg) (by simp at hl; omega), cut_to sg m, List.take_of_length_le hm, sgn_tx]
  refine W_forI (fun k s => ∃ x, s = ⟨[.val (.ref j), .val (nI m), .val (nI (pre.length + 1)), x], μ.set j (rd Z (pre ++ 32 :: sg) n (pre.length + 1 + k))⟩) _ 0 _ ⟨_, rfl⟩ ?_ ?_
  · rintro k x s hk ⟨x0, rfl⟩
    obtain ⟨c, hc, rfl⟩ := map_at hk
    obtain ⟨r1, r2⟩ := range_sign (hs c (List.mem_of_getElem? hc))
    rw [sp_cps'] at r1
    rw [show 0 + k = k from by omega]
    simp (config := { failIfUnchanged := false, decide := false }) only [W_bind, W_pure, W_no, W_opt, W_nox, W_op, W_un, W_C, W_varM, W_tst, W_boolM, W_ifB, W_notT, W_andT, W_orT, W_ifE, W_andV, W_orV, W_notV, W_chain, W_nil, W_cons, W_ap, W_apL, W_fl, W_nx, W_brk, W_cnt, W_seq, W_set, W_own, W_ret, W_retN, W_drop, W_if, W_call, W_make, W_fld, W_ix, W_part, W_noPart, W_sl, W_itL, W_itT, W_itS, W_for, W_forNil, W_while, W_gset, W_gcons, W_gnil, W_par2, W_fzM, W_rf, W_ownA, W_setIx, WF_run, WF_ok, WF_arM, eq_self, setE_mk, List.map_cons, List.map_nil, List.length_cons, List.length_nil, List.replicate, List.cons_append, List.nil_append, List.append_nil, List.set_cons_zero, List.set_cons_succ, List.getElem?_cons_zero, List.getElem?_cons_succ, Nat.reduceAdd, Nat.reduceSub, Nat.sub_zero, if_true, if_false, Bool.false_eq_true, and_self, and_true, true_and, Int.reduceLT, Int.reduceLE, Nat.reduceLeDiff, Nat.reduceLT, decide_true, decide_false, Bool.not_true, Bool.not_false, addV_int, subV_int, negV_int, ltV_int, leV_int, gtV_int, geV_int, eqV_int, neV_int, eqV_str, neV_str, intV_int, intV_bl, lenV_fl, lenV_tup, listV_fl, tupleV_fl, ixS_fl, ixS_tup, enm_fl, tupV, lstV, szL, szl, addV_fl, W_ownIxM, W_appM, W_parVN, W_parNV, W_parNN, W_parVVN, minV_int, maxV_int, scI, W_selfM, WI_run, WI_end, WI_ok, Int.cast_ofNat_Int, Int.reduceBEq, Int.reduceBNe, beq_self_eq_true, Bool.not_eq_true, Bool.and_true, Bool.true_and, W_gtupM, W_opL, W_ownSet, W_meth, W_eqM, W_setFld, W_makeR, W_join, W_split, W_ifL, W_extM, W_itK, W_menu, ite_true, ite_false, List.set_set, r1, r2, fP hj, gS hj, pP, nI_succ]
    exact ⟨.inl trivial, _, rfl⟩
  · rintro s ⟨x, rfl⟩
    rw [show 0 + (sg.map fun c => IV.str (tx [c])).length = sg.length from by simp]
    have e3 : pre.length + 1 + sg.length = (pre ++ 32 :: sg).length := by simp; omega
    rw [e3]
    have e4 : cutS (tx (pre ++ 32 :: sg)) (some ((pre.length + 1 : Nat) : Int)) (some (((pre ++ 32 :: sg).length : Nat) : Int)) = tx sg := by
      rw [cut_mid _ _ _ (Nat.le_refl _) (by omega), e2, List.take_of_length_le (by omega)]
    simp (config := { failIfUnchanged := false, decide := false }) only [W_bind, W_pure, W_no, W_opt, W_nox, W_op, W_un, W_C, W_varM, W_tst, W_boolM, W_ifB, W_notT, W_andT, W_orT, W_ifE, W_andV, W_orV, W_notV, W_chain, W_nil, W_cons, W_ap, W_apL, W_fl, W_nx, W_brk, W_cnt, W_seq, W_set, W_own, W_ret, W_retN, W_drop, W_if, W_call, W_make, W_fld, W_ix, W_part, W_noPart, W_sl, W_itL, W_itT, W_itS, W_for, W_forNil, W_while, W_gset, W_gcons, W_gnil, W_par2, W_fzM, W_rf, W_ownA, W_setIx, WF_run, WF_ok, WF_arM, eq_self, setE_mk, List.map_cons, List.map_nil, List.length_cons, List.length_nil, List.replicate, List.cons_append, List.nil_append, List.append_nil, List.set_cons_zero, List.set_cons_succ, List.getElem?_cons_zero, List.getElem?_cons_succ, Nat.reduceAdd, Nat.reduceSub, Nat.sub_zero, if_true, if_false, Bool.false_eq_true, and_self, and_true, true_and, Int.reduceLT, Int.reduceLE, Nat.reduceLeDiff, Nat.reduceLT, decide_true, decide_false, Bool.not_true, Bool.not_false, addV_int, subV_int, negV_int, ltV_int, leV_int, gtV_int, geV_int, eqV_int, neV_int, eqV_str, neV_str, intV_int, intV_bl, lenV_fl, lenV_tup, listV_fl, tupleV_fl, ixS_fl, ixS_tup, enm_fl, tupV, lstV, szL, szl, addV_fl, W_ownIxM, W_appM, W_parVN, W_parNV, W_parNN, W_parVVN, minV_int, maxV_int, scI, W_selfM, WI_run, WI_end, WI_ok, Int.cast_ofNat_Int, Int.reduceBEq, Int.reduceBNe, beq_self_eq_true, Bool.not_eq_true, Bool.and_true, Bool.true_and, W_gtupM, W_opL, W_ownSet, W_meth, W_eqM, W_setFld, W_makeR, W_join, W_split, W_ifL, W_extM, W_itK, W_menu, ite_true, ite_false, List.set_set, fL hj, fP hj, slV_tx hl, e4]
end
end Lw
set_option Elab.async false
set_option linter.all false
set_option maxRecDepth 100000
set_option maxHeartbeats 2000000
namespace Lw
open PySem L2 Mi
/-! ### numbers by their signs -/
def dg (v : Nat) : List Nat := (Str.ofString (toString ((v : Nat) : Int))).cps.toList
def isD (c : Nat) : Bool := decide (48 ≤ c ∧ c ≤ 57)
def dgOk (v : Nat) : Bool := decide (dg v ≠ []) && (dg v).all isD && decide ((dg v).length ≤ 3) && decide (NumText.digitsVal (dg v) = v) &&
  (List.range (dg v).length).all fun i => decide ((dg v).take (i + 1) = [48] ∨ ((dg v).take (i + 1)).head? ≠ some 48) && decide (NumText.digitsVal ((dg v).take (i + 1)) ≤ v)
theorem dg_all : (List.range 200).all dgOk = true := by decide +kernel
structure Dg (v : Nat) : Prop where
  ne : dg v ≠ []
  dig : ∀ c ∈ dg v, 48 ≤ c ∧ c ≤ 57
  len : (dg v).length ≤ 3
  val : NumText.digitsVal (dg v) = v
  lead : ∀ i, i < (dg v).length → (dg v).take (i + 1) = [48] ∨ ((dg v).take (i + 1)).head? ≠ some 48
  le : ∀ i, i < (dg v).length → NumText.digitsVal ((dg v).take (i + 1)) ≤ v
theorem dg_is {v : Nat} (h : v < 200) : Dg v := by
  have := List.all_eq_true.mp dg_all v (List.mem_range.mpr h)
  unfold dgOk at this
  simp only [Bool.and_eq_true, decide_eq_true_eq, List.all_eq_true, isD, List.mem_range] at this
  obtain ⟨⟨⟨⟨h1, h2⟩, h3⟩, h4⟩, h5⟩ := this
  exact ⟨h1, h2, h3, h4, fun i hi => (h5 i hi).1, fun i hi => (h5 i hi).2⟩
theorem dig_cps : ((Str.ofString "0123456789")).cps.toList = [48, 49, 50, 51, 52, 53, 54, 55, 56, 57] := by decide +kernel
theorem zero_cps : (Str.ofString "0") = tx [48] := by decide +kernel
theorem inS_dig (c : Nat) : inS (.str (tx [c])) (.str "0123456789") = some (.bl (isD c)) := by
  have : decide (c ∈ ((Str.ofString "0123456789")).cps.toList) = isD c := by
    rw [dig_cps]
    unfold isD
    by_cases h : 48 ≤ c ∧ c ≤ 57
    · rw [decide_eq_true h]; apply decide_eq_true; simp only [List.mem_cons, List.not_mem_nil, or_false]; omega
    · rw [decide_eq_false h]; apply decide_eq_false; simp only [List.mem_cons, List.not_mem_nil, or_false]; omega
  rw [← this]
  rfl
theorem ix_tx {c : Nat} {r : List Nat} {ν : List SO} (h : (c :: r).length ≤ 1000) : ixS ν (.str (tx (c :: r))) (.int 0) = some (.str (tx [c])) := by
  unfold ixS
  dsimp only
  unfold ixV
  dsimp only
  rw [if_pos (by rw [tx_len]; unfold szl; omega)]
  have e0 : atI (c :: r) (0 : Int) = some c := by
    have := Mi.atI_n (l := c :: r) (n := 0) (by simp)
    simpa using this
  rw [e0]
  rfl
theorem int10_tx {cs : List Nat} (h : NumText.AllDigits cs) (h0 : cs ≠ []) (hl : cs.length ≤ 640) : int10 [.str (tx cs), .int 10] = some (.int ((NumText.digitsVal cs : Nat) : Int)) := by
  have e : int10 [.str (tx cs), .int 10] = if (tx cs).length ≤ 640 then (PySem.intText? (tx cs)).map .int else none := by unfold int10; rfl
  rw [e, if_pos (by rw [tx_len]; exact hl), intText_digits (by rw [tx_cps]; exact h) (by rw [tx_cps]; exact h0) (by rw [tx_len]; omega), tx_cps]
  rfl
def isNum (cs : List Nat) (high : Int) : Bool := decide (cs ≠ []) && cs.all isD && decide (cs.length ≤ 3) && (decide (cs = [48]) || decide (cs.head? ≠ some 48)) && decide (((NumText.digitsVal cs : Nat) : Int) ≤ high)
theorem num_ok (Z : Ad) (cs : List Nat) (high : Int) (hl : cs.length ≤ 640) (μ : List SO) : fn_is_number Z [.str (tx cs), .int high] μ = .ok (.bl (isNum cs high)) μ := by
  apply of_WF
  unfold fn_is_number m_is_number
  simp (config := { failIfUnchanged := false, decide := false }) only [W_bind, W_pure, W_no, W_opt, W_nox, W_op, W_un, W_C, W_varM, W_tst, W_boolM, W_ifB, W_notT, W_andT, W_orT, W_ifE, W_andV, W_orV, W_notV, W_chain, W_nil, W_cons, W_ap, W_apL, W_fl, W_nx, W_brk, W_cnt, W_seq, W_set, W_own, W_ret, W_retN, W_drop, W_if, W_call, W_make, W_fld, W_ix, W_part, W_noPart, W_sl, W_itL, W_itT, W_itS, W_for, W_forNil, W_while, W_gset, W_gcons, W_gnil, W_par2, W_fzM, W_rf, W_ownA, W_setIx, WF_run, WF_ok, WF_arM, eq_self, setE_mk, List.map_cons, List.map_nil, List.length_cons, List.length_nil, List.replicate, List.cons_append, List.nil_append, List.append_nil, List.set_cons_zero, List.set_cons_succ, List.getElem?_cons_zero, List.getElem?_cons_succ, Nat.reduceAdd, Nat.reduceSub, Nat.sub_zero, if_true, if_false, Bool.false_eq_true, and_self, and_true, true_and, Int.reduceLT, Int.reduceLE, Nat.reduceLeDiff, Nat.reduceLT, decide_true, decide_false, Bool.not_true, Bool.not_false, addV_int, subV_int, negV_int, ltV_int, leV_int, gtV_int, geV_int, eqV_int, neV_int, eqV_str, neV_str, intV_int, intV_bl, lenV_fl, lenV_tup, listV_fl, tupleV_fl, ixS_fl, ixS_tup, enm_fl, tupV, lstV, szL, szl, addV_fl, W_ownIxM, W_appM, W_parVN, W_parNV, W_parNN, W_parVVN, minV_int, maxV_int, scI, W_selfM, WI_run, WI_end, WI_ok, Int.cast_ofNat_Int, Int.reduceBEq, Int.reduceBNe, beq_self_eq_true, Bool.not_eq_true, Bool.and_true, Bool.true_and, W_gtupM, W_opL, W_ownSet, W_meth, W_eqM, W_setFld, W_makeR, W_join, W_split, W_ifL, W_extM, W_itK, W_menu, ite_true, ite_false, List.set_set, nil_cps, tx_beq]
  by_cases h0 : cs = []
  · subst h0
    simp (config := { failIfUnchanged := false, decide := false }) only [W_bind, W_pure, W_no, W_opt, W_nox, W_op, W_un, W_C, W_varM, W_tst, W_boolM, W_ifB, W_notT, W_andT, W_orT, W_ifE, W_andV, W_orV, W_notV, W_chain, W_nil, W_cons, W_ap, W_apL, W_fl, W_nx, W_brk, W_cnt, W_seq, W_set, W_own, W_ret, W_retN, W_drop, W_if, W_call, W_make, W_fld, W_ix, W_part, W_noPart, W_sl, W_itL, W_itT, W_itS, W_for, W_forNil, W_while, W_gset, W_gcons, W_gnil, W_par2, W_fzM, W_rf, W_ownA, W_setIx, WF_run, WF_ok, WF_arM, eq_self, setE_mk, List.map_cons, List.map_nil, List.length_cons, List.length_nil, List.replicate, List.cons_append, List.nil_append, List.append_nil, List.set_cons_zero, List.set_cons_succ, List.getElem?_cons_zero, List.getElem?_cons_succ, Nat.reduceAdd, Nat.reduceSub, Nat.sub_zero, if_true, if_false, Bool.false_eq_true, and_self, and_true, true_and, Int.reduceLT, Int.reduceLE, Nat.reduceLeDiff, Nat.reduceLT, decide_true, decide_false, Bool.not_true, Bool.not_false, addV_int, subV_int, negV_int, ltV_int, leV_int, gtV_int, geV_int, eqV_int, neV_int, eqV_str, neV_str, intV_int, intV_bl, lenV_fl, lenV_tup, listV_fl, tupleV_fl, ixS_fl, ixS_tup, enm_fl, tupV, lstV, szL, szl, addV_fl, W_ownIxM, W_appM, W_parVN, W_parNV, W_parNN, W_parVVN, minV_int, maxV_int, scI, W_selfM, WI_run, WI_end, WI_ok, Int.cast_ofNat_Int, Int.reduceBEq, Int.reduceBNe, beq_self_eq_true, Bool.not_eq_true, Bool.and_true, Bool.true_and, W_gtupM, W_opL, W_ownSet, W_meth, W_eqM, W_setFld, W_makeR, W_join, W_split, W_ifL, W_extM, W_itK, W_menu, ite_true, ite_false, List.set_set, isNum]
    simp
  · have hn0 : decide (cs ≠ []) = true := decide_eq_true h0
    rw [decide_eq_false h0]
    simp (config := { failIfUnchanged := false, decide := false }) only [W_bind, W_pure, W_no, W_opt, W_nox, W_op, W_un, W_C, W_varM, W_tst, W_boolM, W_ifB, W_notT, W_andT, W_orT, W_ifE, W_andV, W_orV, W_notV, W_chain, W_nil, W_cons, W_ap, W_apL, W_fl, W_nx, W_brk, W_cnt, W_seq, W_set, W_own, W_ret, W_retN, W_drop, W_if, W_call, W_make, W_fld, W_ix, W_part, W_noPart, W_sl, W_itL, W_itT, W_itS, W_for, W_forNil, W_while, W_gset, W_gcons, W_gnil, W_par2, W_fzM, W_rf, W_ownA, W_setIx, WF_run, WF_ok, WF_arM, eq_self, setE_mk, List.map_cons, List.map_nil, List.length_cons, List.length_nil, List.replicate, List.cons_append, List.nil_append, List.append_nil, List.set_cons_zero, List.set_cons_succ, List.getElem?_cons_zero, List.getElem?_cons_succ, Nat.reduceAdd, Nat.reduceSub, Nat.sub_zero, if_true, if_false, Bool.false_eq_true, and_self, and_true, true_and, Int.reduceLT, Int.reduceLE, Nat.reduceLeDiff, Nat.reduceLT, decide_true, decide_false, Bool.not_true, Bool.not_false, addV_int, subV_int, negV_int, ltV_int, leV_int, gtV_int, geV_int, eqV_int, neV_int, eqV_str, neV_str, intV_int, intV_bl, lenV_fl, lenV_tup, listV_fl, tupleV_fl, ixS_fl, ixS_tup, enm_fl, tupV, lstV, szL, szl, addV_fl, W_ownIxM, W_appM, W_parVN, W_parNV, W_parNN, W_parVVN, minV_int, maxV_int, scI, W_selfM, WI_run, WI_end, WI_ok, Int.cast_ofNat_Int, Int.reduceBEq, Int.reduceBNe, beq_self_eq_true, Bool.not_eq_true, Bool.and_true, Bool.true_and, W_gtupM, W_opL, W_ownSet, W_meth, W_eqM, W_setFld, W_makeR, W_join, W_split, W_ifL, W_extM, W_itK, W_menu, ite_true, ite_false, List.set_set]
    refine W_compM (fun x => match x with | .str z => .bl (isD (z.cps.toList.headD 0)) | _ => .non) ?_
    simp (config := { failIfUnchanged := false, decide := false }) only [W_bind, W_pure, W_no, W_opt, W_nox, W_op, W_un, W_C, W_varM, W_tst, W_boolM, W_ifB, W_notT, W_andT, W_orT, W_ifE, W_andV, W_orV, W_notV, W_chain, W_nil, W_cons, W_ap, W_apL, W_fl, W_nx, W_brk, W_cnt, W_seq, W_set, W_own, W_ret, W_retN, W_drop, W_if, W_call, W_make, W_fld, W_ix, W_part, W_noPart, W_sl, W_itL, W_itT, W_itS, W_for, W_forNil, W_while, W_gset, W_gcons, W_gnil, W_par2, W_fzM, W_rf, W_ownA, W_setIx, WF_run, WF_ok, WF_arM, eq_self, setE_mk, List.map_cons, List.map_nil, List.length_cons, List.length_nil, List.replicate, List.cons_append, List.nil_append, List.append_nil, List.set_cons_zero, List.set_cons_succ, List.getElem?_cons_zero, List.getElem?_cons_succ, Nat.reduceAdd, Nat.reduceSub, Nat.sub_zero, if_true, if_false, Bool.false_eq_true, and_self, and_true, true_and, Int.reduceLT, Int.reduceLE, Nat.reduceLeDiff, Nat.reduceLT, decide_true, decide_false, Bool.not_true, Bool.not_false, addV_int, subV_int, negV_int, ltV_int, leV_int, gtV_int, geV_int, eqV_int, neV_int, eqV_str, neV_str, intV_int, intV_bl, lenV_fl, lenV_tup, listV_fl, tupleV_fl, ixS_fl, ixS_tup, enm_fl, tupV, lstV, szL, szl, addV_fl, W_ownIxM, W_appM, W_parVN, W_parNV, W_parNN, W_parVVN, minV_int, maxV_int, scI, W_selfM, WI_run, WI_end, WI_ok, Int.cast_ofNat_Int, Int.reduceBEq, Int.reduceBNe, beq_self_eq_true, Bool.not_eq_true, Bool.and_true, Bool.true_and, W_gtupM, W_opL, W_ownSet, W_meth, W_eqM, W_setFld, W_makeR, W_join, W_split, W_ifL, W_extM, W_itK, W_menu, ite_true, ite_false, List.set_set, sgn_tx]
    refine ⟨by rw [List.length_map]; omega, ?_, ?_⟩
    · intro x hx
      obtain ⟨c, hc, rfl⟩ := List.mem_map.mp hx
      apply of_W
      simp (config := { failIfUnchanged := false, decide := false }) only [W_bind, W_pure, W_no, W_opt, W_nox, W_op, W_un, W_C, W_varM, W_tst, W_boolM, W_ifB, W_notT, W_andT, W_orT, W_ifE, W_andV, W_orV, W_notV, W_chain, W_nil, W_cons, W_ap, W_apL, W_fl, W_nx, W_brk, W_cnt, W_seq, W_set, W_own, W_ret, W_retN, W_drop, W_if, W_call, W_make, W_fld, W_ix, W_part, W_noPart, W_sl, W_itL, W_itT, W_itS, W_for, W_forNil, W_while, W_gset, W_gcons, W_gnil, W_par2, W_fzM, W_rf, W_ownA, W_setIx, WF_run, WF_ok, WF_arM, eq_self, setE_mk, List.map_cons, List.map_nil, List.length_cons, List.length_nil, List.replicate, List.cons_append, List.nil_append, List.append_nil, List.set_cons_zero, List.set_cons_succ, List.getElem?_cons_zero, List.getElem?_cons_succ, Nat.reduceAdd, Nat.reduceSub, Nat.sub_zero, if_true, if_false, Bool.false_eq_true, and_self, and_true, true_and, Int.reduceLT, Int.reduceLE, Nat.reduceLeDiff, Nat.reduceLT, decide_true, decide_false, Bool.not_true, Bool.not_false, addV_int, subV_int, negV_int, ltV_int, leV_int, gtV_int, geV_int, eqV_int, neV_int, eqV_str, neV_str, intV_int, intV_bl, lenV_fl, lenV_tup, listV_fl, tupleV_fl, ixS_fl, ixS_tup, enm_fl, tupV, lstV, szL, szl, addV_fl, W_ownIxM, W_appM, W_parVN, W_parNV, W_parNN, W_parVVN, minV_int, maxV_int, scI, W_selfM, WI_run, WI_end, WI_ok, Int.cast_ofNat_Int, Int.reduceBEq, Int.reduceBNe, beq_self_eq_true, Bool.not_eq_true, Bool.and_true, Bool.true_and, W_gtupM, W_opL, W_ownSet, W_meth, W_eqM, W_setFld, W_makeR, W_join, W_split, W_ifL, W_extM, W_itK, W_menu, ite_true, ite_false, List.set_set, inS_dig]
      rfl
    · have e : (cs.map fun c => IV.str (tx [c])).map (fun x => match x with | .str z => IV.bl (isD (z.cps.toList.headD 0)) | _ => .non) = (cs.map isD).map IV.bl := by
        rw [List.map_map, List.map_map]; rfl
      rw [e]
      simp (config := { failIfUnchanged := false, decide := false }) only [W_bind, W_pure, W_no, W_opt, W_nox, W_op, W_un, W_C, W_varM, W_tst, W_boolM, W_ifB, W_notT, W_andT, W_orT, W_ifE, W_andV, W_orV, W_notV, W_chain, W_nil, W_cons, W_ap, W_apL, W_fl, W_nx, W_brk, W_cnt, W_seq, W_set, W_own, W_ret, W_retN, W_drop, W_if, W_call, W_make, W_fld, W_ix, W_part, W_noPart, W_sl, W_itL, W_itT, W_itS, W_for, W_forNil, W_while, W_gset, W_gcons, W_gnil, W_par2, W_fzM, W_rf, W_ownA, W_setIx, WF_run, WF_ok, WF_arM, eq_self, setE_mk, List.map_cons, List.map_nil, List.length_cons, List.length_nil, List.replicate, List.cons_append, List.nil_append, List.append_nil, List.set_cons_zero, List.set_cons_succ, List.getElem?_cons_zero, List.getElem?_cons_succ, Nat.reduceAdd, Nat.reduceSub, Nat.sub_zero, if_true, if_false, Bool.false_eq_true, and_self, and_true, true_and, Int.reduceLT, Int.reduceLE, Nat.reduceLeDiff, Nat.reduceLT, decide_true, decide_false, Bool.not_true, Bool.not_false, addV_int, subV_int, negV_int, ltV_int, leV_int, gtV_int, geV_int, eqV_int, neV_int, eqV_str, neV_str, intV_int, intV_bl, lenV_fl, lenV_tup, listV_fl, tupleV_fl, ixS_fl, ixS_tup, enm_fl, tupV, lstV, szL, szl, addV_fl, W_ownIxM, W_appM, W_parVN, W_parNV, W_parNN, W_parVVN, minV_int, maxV_int, scI, W_selfM, WI_run, WI_end, WI_ok, Int.cast_ofNat_Int, Int.reduceBEq, Int.reduceBNe, beq_self_eq_true, Bool.not_eq_true, Bool.and_true, Bool.true_and, W_gtupM, W_opL, W_ownSet, W_meth, W_eqM, W_setFld, W_makeR, W_join, W_split, W_ifL, W_extM, W_itK, W_menu, ite_true, ite_false, List.set_set, allV_bools, List.all_map]
      by_cases h1 : cs.all isD = true
      · have h1' : (cs.all (id ∘ isD)) = true := h1
        have hdig : NumText.AllDigits cs := fun c hc => by have := List.all_eq_true.mp h1 c hc; simpa [isD] using this
        obtain ⟨c, r, rfl⟩ := List.exists_cons_of_ne_nil h0
        have z2 : lenV [.str (tx (c :: r))] = some (.int (c :: r).length) := by
          have : lenV [.str (tx (c :: r))] = some (.int (tx (c :: r)).length) := by
            unfold lenV
            exact if_pos (by rw [tx_len]; unfold szl; omega)
          rw [this, tx_len]
        simp (config := { failIfUnchanged := false, decide := false }) only [W_bind, W_pure, W_no, W_opt, W_nox, W_op, W_un, W_C, W_varM, W_tst, W_boolM, W_ifB, W_notT, W_andT, W_orT, W_ifE, W_andV, W_orV, W_notV, W_chain, W_nil, W_cons, W_ap, W_apL, W_fl, W_nx, W_brk, W_cnt, W_seq, W_set, W_own, W_ret, W_retN, W_drop, W_if, W_call, W_make, W_fld, W_ix, W_part, W_noPart, W_sl, W_itL, W_itT, W_itS, W_for, W_forNil, W_while, W_gset, W_gcons, W_gnil, W_par2, W_fzM, W_rf, W_ownA, W_setIx, WF_run, WF_ok, WF_arM, eq_self, setE_mk, List.map_cons, List.map_nil, List.length_cons, List.length_nil, List.replicate, List.cons_append, List.nil_append, List.append_nil, List.set_cons_zero, List.set_cons_succ, List.getElem?_cons_zero, List.getElem?_cons_succ, Nat.reduceAdd, Nat.reduceSub, Nat.sub_zero, if_true, if_false, Bool.false_eq_true, and_self, and_true, true_and, Int.reduceLT, Int.reduceLE, Nat.reduceLeDiff, Nat.reduceLT, decide_true, decide_false, Bool.not_true, Bool.not_false, addV_int, subV_int, negV_int, ltV_int, leV_int, gtV_int, geV_int, eqV_int, neV_int, eqV_str, neV_str, intV_int, intV_bl, lenV_fl, lenV_tup, listV_fl, tupleV_fl, ixS_fl, ixS_tup, enm_fl, tupV, lstV, szL, szl, addV_fl, W_ownIxM, W_appM, W_parVN, W_parNV, W_parNN, W_parVVN, minV_int, maxV_int, scI, W_selfM, WI_run, WI_end, WI_ok, Int.cast_ofNat_Int, Int.reduceBEq, Int.reduceBNe, beq_self_eq_true, Bool.not_eq_true, Bool.and_true, Bool.true_and, W_gtupM, W_opL, W_ownSet, W_meth, W_eqM, W_setFld, W_makeR, W_join, W_split, W_ifL, W_extM, W_itK, W_menu, ite_true, ite_false, List.set_set, h1', z2]
        by_cases h2 : (c :: r).length ≤ 3
        · have h2' : decide ((3 : Int) < ((r.length : Nat) : Int) + 1) = false := decide_eq_false (by simp at h2; omega)
          have h2'' : decide ((3 : Int) < ((r.length + 1 : Nat) : Int)) = false := decide_eq_false (by simp at h2; omega)
          simp (config := { failIfUnchanged := false, decide := false }) only [W_bind, W_pure, W_no, W_opt, W_nox, W_op, W_un, W_C, W_varM, W_tst, W_boolM, W_ifB, W_notT, W_andT, W_orT, W_ifE, W_andV, W_orV, W_notV, W_chain, W_nil, W_cons, W_ap, W_apL, W_fl, W_nx, W_brk, W_cnt, W_seq, W_set, W_own, W_ret, W_retN, W_drop, W_if, W_call, W_make, W_fld, W_ix, W_part, W_noPart, W_sl, W_itL, W_itT, W_itS, W_for, W_forNil, W_while, W_gset, W_gcons, W_gnil, W_par2, W_fzM, W_rf, W_ownA, W_setIx, WF_run, WF_ok, WF_arM, eq_self, setE_mk, List.map_cons, List.map_nil, List.length_cons, List.length_nil, List.replicate, List.cons_append, List.nil_append, List.append_nil, List.set_cons_zero, List.set_cons_succ, List.getElem?_cons_zero, List.getElem?_cons_succ, Nat.reduceAdd, Nat.reduceSub, Nat.sub_zero, if_true, if_false, Bool.false_eq_true, and_self, and_true, true_and, Int.reduceLT, Int.reduceLE, Nat.reduceLeDiff, Nat.reduceLT, decide_true, decide_false, Bool.not_true, Bool.not_false, addV_int, subV_int, negV_int, ltV_int, leV_int, gtV_int, geV_int, eqV_int, neV_int, eqV_str, neV_str, intV_int, intV_bl, lenV_fl, lenV_tup, listV_fl, tupleV_fl, ixS_fl, ixS_tup, enm_fl, tupV, lstV, szL, szl, addV_fl, W_ownIxM, W_appM, W_parVN, W_parNV, W_parNN, W_parVVN, minV_int, maxV_int, scI, W_selfM, WI_run, WI_end, WI_ok, Int.cast_ofNat_Int, Int.reduceBEq, Int.reduceBNe, beq_self_eq_true, Bool.not_eq_true, Bool.and_true, Bool.true_and, W_gtupM, W_opL, W_ownSet, W_meth, W_eqM, W_setFld, W_makeR, W_join, W_split, W_ifL, W_extM, W_itK, W_menu, ite_true, ite_false, List.set_set, h2', h2'', zero_cps, tx_beq, ix_tx (show (c :: r).length ≤ 1000 by omega)]
          have hi := int10_tx hdig h0 hl
          have e5 : isNum (c :: r) high = ((decide (c :: r = [48]) || !decide ([c] = [48])) && decide (((NumText.digitsVal (c :: r) : Nat) : Int) ≤ high)) := by
            unfold isNum
            rw [hn0, h1, decide_eq_true h2]
            simp
          rw [e5]
          by_cases h3 : c :: r = [48]
          · rw [decide_eq_true h3]
            simp (config := { failIfUnchanged := false, decide := false }) only [W_bind, W_pure, W_no, W_opt, W_nox, W_op, W_un, W_C, W_varM, W_tst, W_boolM, W_ifB, W_notT, W_andT, W_orT, W_ifE, W_andV, W_orV, W_notV, W_chain, W_nil, W_cons, W_ap, W_apL, W_fl, W_nx, W_brk, W_cnt, W_seq, W_set, W_own, W_ret, W_retN, W_drop, W_if, W_call, W_make, W_fld, W_ix, W_part, W_noPart, W_sl, W_itL, W_itT, W_itS, W_for, W_forNil, W_while, W_gset, W_gcons, W_gnil, W_par2, W_fzM, W_rf, W_ownA, W_setIx, WF_run, WF_ok, WF_arM, eq_self, setE_mk, List.map_cons, List.map_nil, List.length_cons, List.length_nil, List.replicate, List.cons_append, List.nil_append, List.append_nil, List.set_cons_zero, List.set_cons_succ, List.getElem?_cons_zero, List.getElem?_cons_succ, Nat.reduceAdd, Nat.reduceSub, Nat.sub_zero, if_true, if_false, Bool.false_eq_true, and_self, and_true, true_and, Int.reduceLT, Int.reduceLE, Nat.reduceLeDiff, Nat.reduceLT, decide_true, decide_false, Bool.not_true, Bool.not_false, addV_int, subV_int, negV_int, ltV_int, leV_int, gtV_int, geV_int, eqV_int, neV_int, eqV_str, neV_str, intV_int, intV_bl, lenV_fl, lenV_tup, listV_fl, tupleV_fl, ixS_fl, ixS_tup, enm_fl, tupV, lstV, szL, szl, addV_fl, W_ownIxM, W_appM, W_parVN, W_parNV, W_parNN, W_parVVN, minV_int, maxV_int, scI, W_selfM, WI_run, WI_end, WI_ok, Int.cast_ofNat_Int, Int.reduceBEq, Int.reduceBNe, beq_self_eq_true, Bool.not_eq_true, Bool.and_true, Bool.true_and, W_gtupM, W_opL, W_ownSet, W_meth, W_eqM, W_setFld, W_makeR, W_join, W_split, W_ifL, W_extM, W_itK, W_menu, ite_true, ite_false, List.set_set, hi]
            simp
          · rw [decide_eq_false h3]
            simp (config := { failIfUnchanged := false, decide := false }) only [W_bind, W_pure, W_no, W_opt, W_nox, W_op, W_un, W_C, W_varM, W_tst, W_boolM, W_ifB, W_notT, W_andT, W_orT, W_ifE, W_andV, W_orV, W_notV, W_chain, W_nil, W_cons, W_ap, W_apL, W_fl, W_nx, W_brk, W_cnt, W_seq, W_set, W_own, W_ret, W_retN, W_drop, W_if, W_call, W_make, W_fld, W_ix, W_part, W_noPart, W_sl, W_itL, W_itT, W_itS, W_for, W_forNil, W_while, W_gset, W_gcons, W_gnil, W_par2, W_fzM, W_rf, W_ownA, W_setIx, WF_run, WF_ok, WF_arM, eq_self, setE_mk, List.map_cons, List.map_nil, List.length_cons, List.length_nil, List.replicate, List.cons_append, List.nil_append, List.append_nil, List.set_cons_zero, List.set_cons_succ, List.getElem?_cons_zero, List.getElem?_cons_succ, Nat.reduceAdd, Nat.reduceSub, Nat.sub_zero, if_true, if_false, Bool.false_eq_true, and_self, and_true, true_and, Int.reduceLT, Int.reduceLE, Nat.reduceLeDiff, Nat.reduceLT, decide_true, decide_false, Bool.not_true, Bool.not_false, addV_int, subV_int, negV_int, ltV_int, leV_int, gtV_int, geV_int, eqV_int, neV_int, eqV_str, neV_str, intV_int, intV_bl, lenV_fl, lenV_tup, listV_fl, tupleV_fl, ixS_fl, ixS_tup, enm_fl, tupV, lstV, szL, szl, addV_fl, W_ownIxM, W_appM, W_parVN, W_parNV, W_parNN, W_parVVN, minV_int, maxV_int, scI, W_selfM, WI_run, WI_end, WI_ok, Int.cast_ofNat_Int, Int.reduceBEq, Int.reduceBNe, beq_self_eq_true, Bool.not_eq_true, Bool.and_true, Bool.true_and, W_gtupM, W_opL, W_ownSet, W_meth, W_eqM, W_setFld, W_makeR, W_join, W_split, W_ifL, W_extM, W_itK, W_menu, ite_true, ite_false, List.set_set]
            by_cases h4 : [c] = [48]
            · rw [decide_eq_true h4]; simp (config := { failIfUnchanged := false, decide := false }) only [W_bind, W_pure, W_no, W_opt, W_nox, W_op, W_un, W_C, W_varM, W_tst, W_boolM, W_ifB, W_notT, W_andT, W_orT, W_ifE, W_andV, W_orV, W_notV, W_chain, W_nil, W_cons, W_ap, W_apL, W_fl, W_nx, W_brk, W_cnt, W_seq, W_set, W_own, W_ret, W_retN, W_drop, W_if, W_call, W_make, W_fld, W_ix, W_part, W_noPart, W_sl, W_itL, W_itT, W_itS, W_for, W_forNil, W_while, W_gset, W_gcons, W_gnil, W_par2, W_fzM, W_rf, W_ownA, W_setIx, WF_run, WF_ok, WF_arM, eq_self, setE_mk, List.map_cons, List.map_nil, List.length_cons, List.length_nil, List.replicate, List.cons_append, List.nil_append, List.append_nil, List.set_cons_zero, List.set_cons_succ, List.getElem?_cons_zero, List.getElem?_cons_succ, Nat.reduceAdd, Nat.reduceSub, Nat.sub_zero, if_true, if_false, Bool.false_eq_true, and_self, and_true, true_and, Int.reduceLT, Int.reduceLE, Nat.reduceLeDiff, Nat.reduceLT, decide_true, decide_false, Bool.not_true, Bool.not_false, addV_int, subV_int, negV_int, ltV_int, leV_int, gtV_int, geV_int, eqV_int, neV_int, eqV_str, neV_str, intV_int, intV_bl, lenV_fl, lenV_tup, listV_fl, tupleV_fl, ixS_fl, ixS_tup, enm_fl, tupV, lstV, szL, szl, addV_fl, W_ownIxM, W_appM, W_parVN, W_parNV, W_parNN, W_parVVN, minV_int, maxV_int, scI, W_selfM, WI_run, WI_end, WI_ok, Int.cast_ofNat_Int, Int.reduceBEq, Int.reduceBNe, beq_self_eq_true, Bool.not_eq_true, Bool.and_true, Bool.true_and, W_gtupM, W_opL, W_ownSet, W_meth, W_eqM, W_setFld, W_makeR, W_join, W_split, W_ifL, W_extM, W_itK, W_menu, ite_true, ite_false, List.set_set]; simp
            · rw [decide_eq_false h4]; simp (config := { failIfUnchanged := false, decide := false }) only [W_bind, W_pure, W_no, W_opt, W_nox, W_op, W_un, W_C, W_varM, W_tst, W_boolM, W_ifB, W_notT, W_andT, W_orT, W_ifE, W_andV, W_orV, W_notV, W_chain, W_nil, W_cons, W_ap, W_apL, W_fl, W_nx, W_brk, W_cnt, W_seq, W_set, W_own, W_ret, W_retN, W_drop, W_if, W_call, W_make, W_fld, W_ix, W_part, W_noPart, W_sl, W_itL, W_itT, W_itS, W_for, W_forNil, W_while, W_gset, W_gcons, W_gnil, W_par2, W_fzM, W_rf, W_ownA, W_setIx, WF_run, WF_ok, WF_arM, eq_self, setE_mk, List.map_cons, List.map_nil, List.length_cons, List.length_nil, List.replicate, List.cons_append, List.nil_append, List.append_nil, List.set_cons_zero, List.set_cons_succ, List.getElem?_cons_zero, List.getElem?_cons_succ, Nat.reduceAdd, Nat.reduceSub, Nat.sub_zero, if_true, if_false, Bool.false_eq_true, and_self, and_true, true_and, Int.reduceLT, Int.reduceLE, Nat.reduceLeDiff, Nat.reduceLT, decide_true, decide_false, Bool.not_true, Bool.not_false, addV_int, subV_int, negV_int, ltV_int, leV_int, gtV_int, geV_int, eqV_int, neV_int, eqV_str, neV_str, intV_int, intV_bl, lenV_fl, lenV_tup, listV_fl, tupleV_fl, ixS_fl, ixS_tup, enm_fl, tupV, lstV, szL, szl, addV_fl, W_ownIxM, W_appM, W_parVN, W_parNV, W_parNN, W_parVVN, minV_int, maxV_int, scI, W_selfM, WI_run, WI_end, WI_ok, Int.cast_ofNat_Int, Int.reduceBEq, Int.reduceBNe, beq_self_eq_true, Bool.not_eq_true, Bool.and_true, Bool.true_and, W_gtupM, W_opL, W_ownSet, W_meth, W_eqM, W_setFld, W_makeR, W_join, W_split, W_ifL, W_extM, W_itK, W_menu, ite_true, ite_false, List.set_set, hi]; simp
        · have h2' : decide ((3 : Int) < ((r.length : Nat) : Int) + 1) = true := decide_eq_true (by simp at h2; omega)
          have h2'' : decide ((3 : Int) < ((r.length + 1 : Nat) : Int)) = true := decide_eq_true (by simp at h2; omega)
          simp (config := { failIfUnchanged := false, decide := false }) only [W_bind, W_pure, W_no, W_opt, W_nox, W_op, W_un, W_C, W_varM, W_tst, W_boolM, W_ifB, W_notT, W_andT, W_orT, W_ifE, W_andV, W_orV, W_notV, W_chain, W_nil, W_cons, W_ap, W_apL, W_fl, W_nx, W_brk, W_cnt, W_seq, W_set, W_own, W_ret, W_retN, W_drop, W_if, W_call, W_make, W_fld, W_ix, W_part, W_noPart, W_sl, W_itL, W_itT, W_itS, W_for, W_forNil, W_while, W_gset, W_gcons, W_gnil, W_par2, W_fzM, W_rf, W_ownA, W_setIx, WF_run, WF_ok, WF_arM, eq_self, setE_mk, List.map_cons, List.map_nil, List.length_cons, List.length_nil, List.replicate, List.cons_append, List.nil_append, List.append_nil, List.set_cons_zero, List.set_cons_succ, List.getElem?_cons_zero, List.getElem?_cons_succ, Nat.reduceAdd, Nat.reduceSub, Nat.sub_zero, if_true, if_false, Bool.false_eq_true, and_self, and_true, true_and, Int.reduceLT, Int.reduceLE, Nat.reduceLeDiff, Nat.reduceLT, decide_true, decide_false, Bool.not_true, Bool.not_false, addV_int, subV_int, negV_int, ltV_int, leV_int, gtV_int, geV_int, eqV_int, neV_int, eqV_str, neV_str, intV_int, intV_bl, lenV_fl, lenV_tup, listV_fl, tupleV_fl, ixS_fl, ixS_tup, enm_fl, tupV, lstV, szL, szl, addV_fl, W_ownIxM, W_appM, W_parVN, W_parNV, W_parNN, W_parVVN, minV_int, maxV_int, scI, W_selfM, WI_run, WI_end, WI_ok, Int.cast_ofNat_Int, Int.reduceBEq, Int.reduceBNe, beq_self_eq_true, Bool.not_eq_true, Bool.and_true, Bool.true_and, W_gtupM, W_opL, W_ownSet, W_meth, W_eqM, W_setFld, W_makeR, W_join, W_split, W_ifL, W_extM, W_itK, W_menu, ite_true, ite_false, List.set_set, h2', h2'']
          unfold isNum
          rw [decide_eq_false h2]
          simp
      · have h1' : (cs.all (id ∘ isD)) = false := by simpa using h1
        simp (config := { failIfUnchanged := false, decide := false }) only [W_bind, W_pure, W_no, W_opt, W_nox, W_op, W_un, W_C, W_varM, W_tst, W_boolM, W_ifB, W_notT, W_andT, W_orT, W_ifE, W_andV, W_orV, W_notV, W_chain, W_nil, W_cons, W_ap, W_apL, W_fl, W_nx, W_brk, W_cnt, W_seq, W_set, W_own, W_ret, W_retN, W_drop, W_if, W_call, W_make, W_fld, W_ix, W_part, W_noPart, W_sl, W_itL, W_itT, W_itS, W_for, W_forNil, W_while, W_gset, W_gcons, W_gnil, W_par2, W_fzM, W_rf, W_ownA, W_setIx, WF_run, WF_ok, WF_arM, eq_self, setE_mk, List.map_cons, List.map_nil, List.length_cons, List.length_nil, List.replicate, List.cons_append, List.nil_append, List.append_nil, List.set_cons_zero, List.set_cons_succ, List.getElem?_cons_zero, List.getElem?_cons_succ, Nat.reduceAdd, Nat.reduceSub, Nat.sub_zero, if_true, if_false, Bool.false_eq_true, and_self, and_true, true_and, Int.reduceLT, Int.reduceLE, Nat.reduceLeDiff, Nat.reduceLT, decide_true, decide_false, Bool.not_true, Bool.not_false, addV_int, subV_int, negV_int, ltV_int, leV_int, gtV_int, geV_int, eqV_int, neV_int, eqV_str, neV_str, intV_int, intV_bl, lenV_fl, lenV_tup, listV_fl, tupleV_fl, ixS_fl, ixS_tup, enm_fl, tupV, lstV, szL, szl, addV_fl, W_ownIxM, W_appM, W_parVN, W_parNV, W_parNN, W_parVVN, minV_int, maxV_int, scI, W_selfM, WI_run, WI_end, WI_ok, Int.cast_ofNat_Int, Int.reduceBEq, Int.reduceBNe, beq_self_eq_true, Bool.not_eq_true, Bool.and_true, Bool.true_and, W_gtupM, W_opL, W_ownSet, W_meth, W_eqM, W_setFld, W_makeR, W_join, W_split, W_ifL, W_extM, W_itK, W_menu, ite_true, ite_false, List.set_set, h1']
        unfold isNum
        rw [show cs.all isD = false by simpa using h1]
        simp

/-! ### the reader's numbers -/
section
variable {Z : Ad} {μ : List SO} {j n p : Nat} {l : List Nat} {env : List Slot}
theorem num_pre {v : Nat} (hv : v < 200) {high : Nat} (hh : v ≤ high) {i : Nat} (hi : i < (dg v).length) : isNum ((dg v).take (i + 1)) (high : Int) = true := by
  have D := dg_is hv
  have h1 : (dg v).take (i + 1) ≠ [] := by
    intro z
    have := congrArg List.length z
    rw [List.length_take, List.length_nil] at this
    omega
  have h2 : ((dg v).take (i + 1)).all isD = true := List.all_eq_true.mpr fun c hc => by
    have := D.dig c (List.mem_of_mem_take hc)
    simpa [isD] using this
  have h3 : ((dg v).take (i + 1)).length ≤ 3 := by rw [List.length_take]; have := D.len; omega
  unfold isNum
  rw [decide_eq_true h1, h2, decide_eq_true h3, decide_eq_true (show ((NumText.digitsVal ((dg v).take (i + 1)) : Nat) : Int) ≤ high by have := D.le i hi; omega)]
  rcases D.lead i hi with h | h
  · rw [decide_eq_true h]; rfl
  · rw [decide_eq_true h]; simp
theorem num_end {v : Nat} {high : Int} : isNum (dg v ++ [32]) high = false := by
  unfold isNum
  have : (dg v ++ [32]).all isD = false := by
    rw [List.all_append]
    simp [isD]
  rw [this]
  simp
theorem addV_tx {a b : List Nat} (h : a.length + b.length ≤ 2000) : addV (.str (tx a)) (.str (tx b)) = some (.str (tx (a ++ b))) := by
  unfold addV
  dsimp only
  rw [if_pos (by rw [tx_len, tx_len]; unfold szl; omega), tx_app]
theorem take_succ_of {l : List Nat} {i c : Nat} (h : l[i]? = some c) : l.take (i + 1) = l.take i ++ [c] := by rw [List.take_add_one, h]; rfl
theorem integer_ok' (hj : j < μ.length) {pre tl : List Nat} {v high : Nat} (hv : v < 200) (hh : v ≤ high) (ht : tl = [] ∨ ∃ t, tl = 32 :: t) (hl : (pre ++ 32 :: (dg v ++ tl)).length ≤ 1000) :
    fn_LineReader_integer Z [.ref j, nI high] (μ.set j (rd Z (pre ++ 32 :: (dg v ++ tl)) n pre.length)) = .ok (nI v) (μ.set j (rd Z (pre ++ 32 :: (dg v ++ tl)) n (pre.length + 1 + (dg v).length))) := by
  have D := dg_is hv
  have hd3 := D.len
  apply of_WF
  unfold fn_LineReader_integer m_LineReader_integer m_LineReader_integer_r1 m_LineReader_integer_r2 m_LineReader_integer_r3 m_LineReader_integer_r4
  unfold m_LineReader_integer_s1 m_LineReader_integer_s2 m_LineReader_integer_s3 m_LineReader_integer_s4 m_LineReader_integer_s5
  have hl' : ∀ k, ((pre ++ 32 :: (dg v ++ tl)).drop k).length ≤ 1000 := fun k => by rw [List.length_drop]; omega
  have e2 : ∀ i, (pre ++ 32 :: (dg v ++ tl)).drop (pre.length + 1 + i) = (dg v ++ tl).drop i := fun i => by
    rw [show pre ++ 32 :: (dg v ++ tl) = (pre ++ [32]) ++ (dg v ++ tl) from by simp, show pre.length + 1 + i = (pre ++ [32]).length + i from by simp, List.drop_append]
    simp
  simp (config := { failIfUnchanged := false, decide := false }) only [W_bind, W_pure, W_no, W_opt, W_nox, W_op, W_un, W_C, W_varM, W_tst, W_boolM, W_ifB, W_notT, W_andT, W_orT, W_ifE, W_andV, W_orV, W_notV, W_chain, W_nil, W_cons, W_ap, W_apL, W_fl, W_nx, W_brk, W_cnt, W_seq, W_set, W_own, W_ret, W_retN, W_drop, W_if, W_call, W_make, W_fld, W_ix, W_part, W_noPart, W_sl, W_itL, W_itT, W_itS, W_for, W_forNil, W_while, W_gset, W_gcons, W_gnil, W_par2, W_fzM, W_rf, W_ownA, W_setIx, WF_run, WF_ok, WF_arM, eq_self, setE_mk, List.map_cons, List.map_nil, List.length_cons, List.length_nil, List.replicate, List.cons_append, List.nil_append, List.append_nil, List.set_cons_zero, List.set_cons_succ, List.getElem?_cons_zero, List.getElem?_cons_succ, Nat.reduceAdd, Nat.reduceSub, Nat.sub_zero, if_true, if_false, Bool.false_eq_true, and_self, and_true, true_and, Int.reduceLT, Int.reduceLE, Nat.reduceLeDiff, Nat.reduceLT, decide_true, decide_false, Bool.not_true, Bool.not_false, addV_int, subV_int, negV_int, ltV_int, leV_int, gtV_int, geV_int, eqV_int, neV_int, eqV_str, neV_str, intV_int, intV_bl, lenV_fl, lenV_tup, listV_fl, tupleV_fl, ixS_fl, ixS_tup, enm_fl, tupV, lstV, szL, szl, addV_fl, W_ownIxM, W_appM, W_parVN, W_parNV, W_parNN, W_parVVN, minV_int, maxV_int, scI, W_selfM, WI_run, WI_end, WI_ok, Int.cast_ofNat_Int, Int.reduceBEq, Int.reduceBNe, beq_self_eq_true, Bool.not_eq_true, Bool.and_true, Bool.true_and, W_gtupM, W_opL, W_ownSet, W_meth, W_eqM, W_setFld, W_makeR, W_join, W_split, W_ifL, W_extM, W_itK, W_menu, ite_true, ite_false, List.set_set, iR hj, rest_ok hj hl, slV_tx (hl' _), cut1, drop_cons, sp_cps', tx_beq, fP hj, gS hj, pP, nI_succ, nil_cps]
  refine W_whileI (fun k s => ∃ i, i + k = (dg v).length ∧ s = ⟨[.val (.ref j), .val (nI high), .val (.str (tx ((dg v).take i)))], μ.set j (rd Z (pre ++ 32 :: (dg v ++ tl)) n (pre.length + 1 + i))⟩) _ (dg v).length _ (by unfold fuel; omega) ⟨0, by omega, rfl⟩ ?_
  rintro k s ⟨i, hi, rfl⟩
  simp (config := { failIfUnchanged := false, decide := false }) only [W_bind, W_pure, W_no, W_opt, W_nox, W_op, W_un, W_C, W_varM, W_tst, W_boolM, W_ifB, W_notT, W_andT, W_orT, W_ifE, W_andV, W_orV, W_notV, W_chain, W_nil, W_cons, W_ap, W_apL, W_fl, W_nx, W_brk, W_cnt, W_seq, W_set, W_own, W_ret, W_retN, W_drop, W_if, W_call, W_make, W_fld, W_ix, W_part, W_noPart, W_sl, W_itL, W_itT, W_itS, W_for, W_forNil, W_while, W_gset, W_gcons, W_gnil, W_par2, W_fzM, W_rf, W_ownA, W_setIx, WF_run, WF_ok, WF_arM, eq_self, setE_mk, List.map_cons, List.map_nil, List.length_cons, List.length_nil, List.replicate, List.cons_append, List.nil_append, List.append_nil, List.set_cons_zero, List.set_cons_succ, List.getElem?_cons_zero, List.getElem?_cons_succ, Nat.reduceAdd, Nat.reduceSub, Nat.sub_zero, if_true, if_false, Bool.false_eq_true, and_self, and_true, true_and, Int.reduceLT, Int.reduceLE, Nat.reduceLeDiff, Nat.reduceLT, decide_true, decide_false, Bool.not_true, Bool.not_false, addV_int, subV_int, negV_int, ltV_int, leV_int, gtV_int, geV_int, eqV_int, neV_int, eqV_str, neV_str, intV_int, intV_bl, lenV_fl, lenV_tup, listV_fl, tupleV_fl, ixS_fl, ixS_tup, enm_fl, tupV, lstV, szL, szl, addV_fl, W_ownIxM, W_appM, W_parVN, W_parNV, W_parNN, W_parVVN, minV_int, maxV_int, scI, W_selfM, WI_run, WI_end, WI_ok, Int.cast_ofNat_Int, Int.reduceBEq, Int.reduceBNe, beq_self_eq_true, Bool.not_eq_true, Bool.and_true, Bool.true_and, W_gtupM, W_opL, W_ownSet, W_meth, W_eqM, W_setFld, W_makeR, W_join, W_split, W_ifL, W_extM, W_itK, W_menu, ite_true, ite_false, List.set_set, iR hj, rest_ok hj hl, e2, tx_beq]
  by_cases hk : i < (dg v).length
  · obtain ⟨c, hc⟩ : ∃ c, (dg v)[i]? = some c := ⟨_, List.getElem?_eq_getElem hk⟩
    obtain ⟨t, et⟩ : ∃ t, (dg v ++ tl).drop i = c :: t := by
      have : (dg v ++ tl)[i]? = some c := by rw [List.getElem?_append_left hk]; exact hc
      obtain ⟨h1, h2⟩ := List.getElem?_eq_some_iff.mp this
      exact ⟨_, by rw [List.drop_eq_getElem_cons h1, h2]⟩
    have hlt : (c :: t).length ≤ 1000 := by rw [← et, ← e2]; exact hl' _
    have ea : addV (.str (tx ((dg v).take i))) (.str (tx [c])) = some (.str (tx ((dg v).take (i + 1)))) := by
      rw [addV_tx (by rw [List.length_take]; simp; omega), take_succ_of hc]
    have en := num_ok Z ((dg v).take (i + 1)) (high : Int) (by rw [List.length_take]; omega) (μ.set j (rd Z (pre ++ 32 :: (dg v ++ tl)) n (pre.length + 1 + i)))
    rw [num_pre hv hh hk] at en
    rw [et, decide_eq_false (show ¬ c :: t = [] by simp)]
    simp (config := { failIfUnchanged := false, decide := false }) only [W_bind, W_pure, W_no, W_opt, W_nox, W_op, W_un, W_C, W_varM, W_tst, W_boolM, W_ifB, W_notT, W_andT, W_orT, W_ifE, W_andV, W_orV, W_notV, W_chain, W_nil, W_cons, W_ap, W_apL, W_fl, W_nx, W_brk, W_cnt, W_seq, W_set, W_own, W_ret, W_retN, W_drop, W_if, W_call, W_make, W_fld, W_ix, W_part, W_noPart, W_sl, W_itL, W_itT, W_itS, W_for, W_forNil, W_while, W_gset, W_gcons, W_gnil, W_par2, W_fzM, W_rf, W_ownA, W_setIx, WF_run, WF_ok, WF_arM, eq_self, setE_mk, List.map_cons, List.map_nil, List.length_cons, List.length_nil, List.replicate, List.cons_append, List.nil_append, List.append_nil, List.set_cons_zero, List.set_cons_succ, List.getElem?_cons_zero, List.getElem?_cons_succ, Nat.reduceAdd, Nat.reduceSub, Nat.sub_zero, if_true, if_false, Bool.false_eq_true, and_self, and_true, true_and, Int.reduceLT, Int.reduceLE, Nat.reduceLeDiff, Nat.reduceLT, decide_true, decide_false, Bool.not_true, Bool.not_false, addV_int, subV_int, negV_int, ltV_int, leV_int, gtV_int, geV_int, eqV_int, neV_int, eqV_str, neV_str, intV_int, intV_bl, lenV_fl, lenV_tup, listV_fl, tupleV_fl, ixS_fl, ixS_tup, enm_fl, tupV, lstV, szL, szl, addV_fl, W_ownIxM, W_appM, W_parVN, W_parNV, W_parNN, W_parVVN, minV_int, maxV_int, scI, W_selfM, WI_run, WI_end, WI_ok, Int.cast_ofNat_Int, Int.reduceBEq, Int.reduceBNe, beq_self_eq_true, Bool.not_eq_true, Bool.and_true, Bool.true_and, W_gtupM, W_opL, W_ownSet, W_meth, W_eqM, W_setFld, W_makeR, W_join, W_split, W_ifL, W_extM, W_itK, W_menu, ite_true, ite_false, List.set_set, iR hj, rest_ok hj hl, e2, et, ix_tx hlt, ea, en, fP hj, gS hj, pP, nI_succ]
    exact ⟨.inl trivial, k - 1, by omega, i + 1, by omega, rfl⟩
  · have hi' : i = (dg v).length := by omega
    subst hi'
    have er : (dg v ++ tl).drop (dg v).length = tl := List.drop_left
    have hend : W (mRet (mIfE (mTst (mOp Mi.eqV (mVar 2) (mC (.str (tx []))))) (mC .non) (mAp int10 (mCons (mVar 2) (mCons (mC (.int 10)) (mNil)))))) ⟨[.val (.ref j), .val (nI high), .val (.str (tx (dg v)))], μ.set j (rd Z (pre ++ 32 :: (dg v ++ tl)) n (pre.length + 1 + (dg v).length))⟩
        (fun f s => match f with
          | .rt x => x = nI v ∧ s.sto = μ.set j (rd Z (pre ++ 32 :: (dg v ++ tl)) n (pre.length + 1 + (dg v).length))
          | .nx => IV.non = nI v ∧ s.sto = μ.set j (rd Z (pre ++ 32 :: (dg v ++ tl)) n (pre.length + 1 + (dg v).length))
          | _ => False) := by
      simp (config := { failIfUnchanged := false, decide := false }) only [W_bind, W_pure, W_no, W_opt, W_nox, W_op, W_un, W_C, W_varM, W_tst, W_boolM, W_ifB, W_notT, W_andT, W_orT, W_ifE, W_andV, W_orV, W_notV, W_chain, W_nil, W_cons, W_ap, W_apL, W_fl, W_nx, W_brk, W_cnt, W_seq, W_set, W_own, W_ret, W_retN, W_drop, W_if, W_call, W_make, W_fld, W_ix, W_part, W_noPart, W_sl, W_itL, W_itT, W_itS, W_for, W_forNil, W_while, W_gset, W_gcons, W_gnil, W_par2, W_fzM, W_rf, W_ownA, W_setIx, WF_run, WF_ok, WF_arM, eq_self, setE_mk, List.map_cons, List.map_nil, List.length_cons, List.length_nil, List.replicate, List.cons_append, List.nil_append, List.append_nil, List.set_cons_zero, List.set_cons_succ, List.getElem?_cons_zero, List.getElem?_cons_succ, Nat.reduceAdd, Nat.reduceSub, Nat.sub_zero, if_true, if_false, Bool.false_eq_true, and_self, and_true, true_and, Int.reduceLT, Int.reduceLE, Nat.reduceLeDiff, Nat.reduceLT, decide_true, decide_false, Bool.not_true, Bool.not_false, addV_int, subV_int, negV_int, ltV_int, leV_int, gtV_int, geV_int, eqV_int, neV_int, eqV_str, neV_str, intV_int, intV_bl, lenV_fl, lenV_tup, listV_fl, tupleV_fl, ixS_fl, ixS_tup, enm_fl, tupV, lstV, szL, szl, addV_fl, W_ownIxM, W_appM, W_parVN, W_parNV, W_parNN, W_parVVN, minV_int, maxV_int, scI, W_selfM, WI_run, WI_end, WI_ok, Int.cast_ofNat_Int, Int.reduceBEq, Int.reduceBNe, beq_self_eq_true, Bool.not_eq_true, Bool.and_true, Bool.true_and, W_gtupM, W_opL, W_ownSet, W_meth, W_eqM, W_setFld, W_makeR, W_join, W_split, W_ifL, W_extM, W_itK, W_menu, ite_true, ite_false, List.set_set, tx_beq, decide_eq_false D.ne, int10_tx D.dig D.ne (by omega), D.val]
    rw [er, List.take_length]
    rcases ht with rfl | ⟨t, rfl⟩
    · simp (config := { failIfUnchanged := false, decide := false }) only [W_bind, W_pure, W_no, W_opt, W_nox, W_op, W_un, W_C, W_varM, W_tst, W_boolM, W_ifB, W_notT, W_andT, W_orT, W_ifE, W_andV, W_orV, W_notV, W_chain, W_nil, W_cons, W_ap, W_apL, W_fl, W_nx, W_brk, W_cnt, W_seq, W_set, W_own, W_ret, W_retN, W_drop, W_if, W_call, W_make, W_fld, W_ix, W_part, W_noPart, W_sl, W_itL, W_itT, W_itS, W_for, W_forNil, W_while, W_gset, W_gcons, W_gnil, W_par2, W_fzM, W_rf, W_ownA, W_setIx, WF_run, WF_ok, WF_arM, eq_self, setE_mk, List.map_cons, List.map_nil, List.length_cons, List.length_nil, List.replicate, List.cons_append, List.nil_append, List.append_nil, List.set_cons_zero, List.set_cons_succ, List.getElem?_cons_zero, List.getElem?_cons_succ, Nat.reduceAdd, Nat.reduceSub, Nat.sub_zero, if_true, if_false, Bool.false_eq_true, and_self, and_true, true_and, Int.reduceLT, Int.reduceLE, Nat.reduceLeDiff, Nat.reduceLT, decide_true, decide_false, Bool.not_true, Bool.not_false, addV_int, subV_int, negV_int, ltV_int, leV_int, gtV_int, geV_int, eqV_int, neV_int, eqV_str, neV_str, intV_int, intV_bl, lenV_fl, lenV_tup, listV_fl, tupleV_fl, ixS_fl, ixS_tup, enm_fl, tupV, lstV, szL, szl, addV_fl, W_ownIxM, W_appM, W_parVN, W_parNV, W_parNN, W_parVVN, minV_int, maxV_int, scI, W_selfM, WI_run, WI_end, WI_ok, Int.cast_ofNat_Int, Int.reduceBEq, Int.reduceBNe, beq_self_eq_true, Bool.not_eq_true, Bool.and_true, Bool.true_and, W_gtupM, W_opL, W_ownSet, W_meth, W_eqM, W_setFld, W_makeR, W_join, W_split, W_ifL, W_extM, W_itK, W_menu, ite_true, ite_false, List.set_set, decide_true]
      simp (config := { failIfUnchanged := false, decide := false }) only [W_bind, W_pure, W_no, W_opt, W_nox, W_op, W_un, W_C, W_varM, W_tst, W_boolM, W_ifB, W_notT, W_andT, W_orT, W_ifE, W_andV, W_orV, W_notV, W_chain, W_nil, W_cons, W_ap, W_apL, W_fl, W_nx, W_brk, W_cnt, W_seq, W_set, W_own, W_ret, W_retN, W_drop, W_if, W_call, W_make, W_fld, W_ix, W_part, W_noPart, W_sl, W_itL, W_itT, W_itS, W_for, W_forNil, W_while, W_gset, W_gcons, W_gnil, W_par2, W_fzM, W_rf, W_ownA, W_setIx, WF_run, WF_ok, WF_arM, eq_self, setE_mk, List.map_cons, List.map_nil, List.length_cons, List.length_nil, List.replicate, List.cons_append, List.nil_append, List.append_nil, List.set_cons_zero, List.set_cons_succ, List.getElem?_cons_zero, List.getElem?_cons_succ, Nat.reduceAdd, Nat.reduceSub, Nat.sub_zero, if_true, if_false, Bool.false_eq_true, and_self, and_true, true_and, Int.reduceLT, Int.reduceLE, Nat.reduceLeDiff, Nat.reduceLT, decide_true, decide_false, Bool.not_true, Bool.not_false, addV_int, subV_int, negV_int, ltV_int, leV_int, gtV_int, geV_int, eqV_int, neV_int, eqV_str, neV_str, intV_int, intV_bl, lenV_fl, lenV_tup, listV_fl, tupleV_fl, ixS_fl, ixS_tup, enm_fl, tupV, lstV, szL, szl, addV_fl, W_ownIxM, W_appM, W_parVN, W_parNV, W_parNN, W_parVVN, minV_int, maxV_int, scI, W_selfM, WI_run, WI_end, WI_ok, Int.cast_ofNat_Int, Int.reduceBEq, Int.reduceBNe, beq_self_eq_true, Bool.not_eq_true, Bool.and_true, Bool.true_and, W_gtupM, W_opL, W_ownSet, W_meth, W_eqM, W_setFld, W_makeR, W_join, W_split, W_ifL, W_extM, W_itK, W_menu, ite_true, ite_false, List.set_set, tx_beq, decide_eq_false D.ne, int10_tx D.dig D.ne (by omega), D.val]
    · have hlt : (32 :: t).length ≤ 1000 := by rw [← er, ← e2]; exact hl' _
      have ea : addV (.str (tx (dg v))) (.str (tx [32])) = some (.str (tx (dg v ++ [32]))) := addV_tx (by simp; omega)
      have en := num_ok Z (dg v ++ [32]) (high : Int) (by simp; omega) (μ.set j (rd Z (pre ++ 32 :: (dg v ++ 32 :: t)) n (pre.length + 1 + (dg v).length)))
      rw [num_end] at en
      rw [decide_eq_false (show ¬ 32 :: t = [] by simp)]
      simp (config := { failIfUnchanged := false, decide := false }) only [W_bind, W_pure, W_no, W_opt, W_nox, W_op, W_un, W_C, W_varM, W_tst, W_boolM, W_ifB, W_notT, W_andT, W_orT, W_ifE, W_andV, W_orV, W_notV, W_chain, W_nil, W_cons, W_ap, W_apL, W_fl, W_nx, W_brk, W_cnt, W_seq, W_set, W_own, W_ret, W_retN, W_drop, W_if, W_call, W_make, W_fld, W_ix, W_part, W_noPart, W_sl, W_itL, W_itT, W_itS, W_for, W_forNil, W_while, W_gset, W_gcons, W_gnil, W_par2, W_fzM, W_rf, W_ownA, W_setIx, WF_run, WF_ok, WF_arM, eq_self, setE_mk, List.map_cons, List.map_nil, List.length_cons, List.length_nil, List.replicate, List.cons_append, List.nil_append, List.append_nil, List.set_cons_zero, List.set_cons_succ, List.getElem?_cons_zero, List.getElem?_cons_succ, Nat.reduceAdd, Nat.reduceSub, Nat.sub_zero, if_true, if_false, Bool.false_eq_true, and_self, and_true, true_and, Int.reduceLT, Int.reduceLE, Nat.reduceLeDiff, Nat.reduceLT, decide_true, decide_false, Bool.not_true, Bool.not_false, addV_int, subV_int, negV_int, ltV_int, leV_int, gtV_int, geV_int, eqV_int, neV_int, eqV_str, neV_str, intV_int, intV_bl, lenV_fl, lenV_tup, listV_fl, tupleV_fl, ixS_fl, ixS_tup, enm_fl, tupV, lstV, szL, szl, addV_fl, W_ownIxM, W_appM, W_parVN, W_parNV, W_parNN, W_parVVN, minV_int, maxV_int, scI, W_selfM, WI_run, WI_end, WI_ok, Int.cast_ofNat_Int, Int.reduceBEq, Int.reduceBNe, beq_self_eq_true, Bool.not_eq_true, Bool.and_true, Bool.true_and, W_gtupM, W_opL, W_ownSet, W_meth, W_eqM, W_setFld, W_makeR, W_join, W_split, W_ifL, W_extM, W_itK, W_menu, ite_true, ite_false, List.set_set, iR hj, rest_ok hj hl, e2, er, ix_tx hlt, ea, en]
      simp (config := { failIfUnchanged := false, decide := false }) only [W_bind, W_pure, W_no, W_opt, W_nox, W_op, W_un, W_C, W_varM, W_tst, W_boolM, W_ifB, W_notT, W_andT, W_orT, W_ifE, W_andV, W_orV, W_notV, W_chain, W_nil, W_cons, W_ap, W_apL, W_fl, W_nx, W_brk, W_cnt, W_seq, W_set, W_own, W_ret, W_retN, W_drop, W_if, W_call, W_make, W_fld, W_ix, W_part, W_noPart, W_sl, W_itL, W_itT, W_itS, W_for, W_forNil, W_while, W_gset, W_gcons, W_gnil, W_par2, W_fzM, W_rf, W_ownA, W_setIx, WF_run, WF_ok, WF_arM, eq_self, setE_mk, List.map_cons, List.map_nil, List.length_cons, List.length_nil, List.replicate, List.cons_append, List.nil_append, List.append_nil, List.set_cons_zero, List.set_cons_succ, List.getElem?_cons_zero, List.getElem?_cons_succ, Nat.reduceAdd, Nat.reduceSub, Nat.sub_zero, if_true, if_false, Bool.false_eq_true, and_self, and_true, true_and, Int.reduceLT, Int.reduceLE, Nat.reduceLeDiff, Nat.reduceLT, decide_true, decide_false, Bool.not_true, Bool.not_false, addV_int, subV_int, negV_int, ltV_int, leV_int, gtV_int, geV_int, eqV_int, neV_int, eqV_str, neV_str, intV_int, intV_bl, lenV_fl, lenV_tup, listV_fl, tupleV_fl, ixS_fl, ixS_tup, enm_fl, tupV, lstV, szL, szl, addV_fl, W_ownIxM, W_appM, W_parVN, W_parNV, W_parNN, W_parVVN, minV_int, maxV_int, scI, W_selfM, WI_run, WI_end, WI_ok, Int.cast_ofNat_Int, Int.reduceBEq, Int.reduceBNe, beq_self_eq_true, Bool.not_eq_true, Bool.and_true, Bool.true_and, W_gtupM, W_opL, W_ownSet, W_meth, W_eqM, W_setFld, W_makeR, W_join, W_split, W_ifL, W_extM, W_itK, W_menu, ite_true, ite_false, List.set_set, tx_beq, decide_eq_false D.ne, int10_tx D.dig D.ne (by omega), D.val]
end
end Lw
set_option Elab.async false
set_option linter.all false
set_option maxRecDepth 100000
set_option maxHeartbeats 2000000
namespace Lw
open PySem L2 Mi
abbrev intsB (Z : Ad) : M Flw := (mSeq (mIf (mAndT (mTst (mOp geV (mOwnA lenV 3) (mVar 2))) (mTst (mOp eqV (mMeth Z.LineReader "rest" (fn_LineReader_rest Z) (mVar 0) mNil) (mC (.str ""))))) (mFz 3 (mRet (mVar 3))) (mNx)) (mSeq (mSet 5 (mMeth Z.LineReader "integer" (fn_LineReader_integer Z) (mVar 0) (mCons (mVar 4) (mNil)))) (mSeq (mIf (mTst (mOp isNV (mVar 5) (mC .non))) (mRet (mC .non)) (mNx)) (mApp 3 (mVar 5)))))
def tailL (vs : List Nat) : List Nat := vs.flatMap fun v => 32 :: dg v
theorem tailL_cons (v : Nat) (vs : List Nat) : tailL (v :: vs) = 32 :: (dg v ++ tailL vs) := by simp [tailL]
theorem tailL_lead (vs : List Nat) : tailL vs = [] ∨ ∃ t, tailL vs = 32 :: t := by
  cases vs with
  | nil => exact .inl rfl
  | cons v vs => exact .inr ⟨_, tailL_cons v vs⟩
theorem isN_int {i : Int} : isNV (.int i) .non = some (.bl false) := rfl
theorem isN_str {z : Str} : isNV (.str z) .non = some (.bl false) := rfl
theorem isN_fl {l : List IV} : isNV (.fl l) .non = some (.bl false) := rfl
theorem isN_tup {l : List IV} : isNV (.tup l) .non = some (.bl false) := rfl
section
variable {Z : Ad} {μ : List SO} {j n p : Nat} {l : List Nat} {env : List Slot}
theorem ints_loop (hj : j < μ.length) (hl : l.length ≤ 1000) {hsl : Slot} {least : Nat} {R : Flw → S → Prop} (all : List Nat)
    (h1 : ∀ e4 e5, R (.rt (.fl (all.map nI))) ⟨[.val (.ref j), hsl, .val (nI least), .val (.fl (all.map nI)), e4, e5], μ.set j (rd Z l n l.length)⟩)
    (h2 : ∀ e4 e5, R .nx ⟨[.val (.ref j), hsl, .val (nI least), .own (all.map nI), e4, e5], μ.set j (rd Z l n l.length)⟩) :
    ∀ (hs vs acc pre : List Nat) (e4 e5 : Slot), all = acc ++ vs → l = pre ++ tailL vs → vs.length ≤ hs.length → (∀ (i v h : Nat), vs[i]? = some v → hs[i]? = some h → v ≤ h) → (∀ v ∈ vs, v < 200) →
      (vs.length = hs.length ∨ least ≤ acc.length + vs.length) → acc.length + hs.length ≤ 1000 →
      W (forL (gSet 4) (intsB Z) (hs.map nI)) ⟨[.val (.ref j), hsl, .val (nI least), .own (acc.map nI), e4, e5], μ.set j (rd Z l n pre.length)⟩ R
  | [], vs, acc, pre, e4, e5, ha, hlp, hv, _, _, _, _ => by
    have : vs = [] := List.length_eq_zero_iff.mp (by simpa using hv)
    subst this
    have : l.length = pre.length := by rw [hlp]; simp [tailL]
    rw [List.map_nil, W_forNil, ← this]
    rw [List.append_nil] at ha
    rw [← ha]
    exact h2 e4 e5
  | h :: hs, [], acc, pre, e4, e5, ha, hlp, hv, _, _, hq, hz => by
    have hlen : l.length = pre.length := by rw [hlp]; simp [tailL]
    have hq : (least : Int) ≤ (acc.length : Int) := by rcases hq with z | z <;> simp at z <;> omega
    rw [List.append_nil] at ha
    subst ha
    rw [List.map_cons, W_forCons, ← hlen]
    unfold intsB
    simp (config := { failIfUnchanged := false, decide := false }) only [W_bind, W_pure, W_no, W_opt, W_nox, W_op, W_un, W_C, W_varM, W_tst, W_boolM, W_ifB, W_notT, W_andT, W_orT, W_ifE, W_andV, W_orV, W_notV, W_chain, W_nil, W_cons, W_ap, W_apL, W_fl, W_nx, W_brk, W_cnt, W_seq, W_set, W_own, W_ret, W_retN, W_drop, W_if, W_call, W_make, W_fld, W_ix, W_part, W_noPart, W_sl, W_itL, W_itT, W_itS, W_for, W_forNil, W_while, W_gset, W_gcons, W_gnil, W_par2, W_fzM, W_rf, W_ownA, W_setIx, WF_run, WF_ok, WF_arM, eq_self, setE_mk, List.map_cons, List.map_nil, List.length_cons, List.length_nil, List.replicate, List.cons_append, List.nil_append, List.append_nil, List.set_cons_zero, List.set_cons_succ, List.getElem?_cons_zero, List.getElem?_cons_succ, Nat.reduceAdd, Nat.reduceSub, Nat.sub_zero, if_true, if_false, Bool.false_eq_true, and_self, and_true, true_and, Int.reduceLT, Int.reduceLE, Nat.reduceLeDiff, Nat.reduceLT, decide_true, decide_false, Bool.not_true, Bool.not_false, addV_int, subV_int, negV_int, ltV_int, leV_int, gtV_int, geV_int, eqV_int, neV_int, eqV_str, neV_str, intV_int, intV_bl, lenV_fl, lenV_tup, listV_fl, tupleV_fl, ixS_fl, ixS_tup, enm_fl, tupV, lstV, szL, szl, addV_fl, W_ownIxM, W_appM, W_parVN, W_parNV, W_parNN, W_parVVN, minV_int, maxV_int, scI, W_selfM, WI_run, WI_end, WI_ok, Int.cast_ofNat_Int, Int.reduceBEq, Int.reduceBNe, beq_self_eq_true, Bool.not_eq_true, Bool.and_true, Bool.true_and, W_gtupM, W_opL, W_ownSet, W_meth, W_eqM, W_setFld, W_makeR, W_join, W_split, W_ifL, W_extM, W_itK, W_menu, ite_true, ite_false, List.set_set, List.length_map, decide_eq_true hq, iR hj, rest_ok hj hl, List.drop_length, nil_cps, tx_beq]
    exact h1 _ _
  | h :: hs, v :: vs, acc, pre, e4, e5, ha, hlp, hv, hle, hvv, hq, hz => by
    have hlp' : l = pre ++ 32 :: (dg v ++ tailL vs) := by rw [hlp, tailL_cons]
    have hv0 := hvv v (List.mem_cons_self ..)
    have hi := integer_ok' (Z := Z) (μ := μ) (n := n) hj (pre := pre) (tl := tailL vs) (v := v) (high := h) hv0 (hle 0 v h rfl rfl) (tailL_lead vs) (by rw [← hlp']; exact hl)
    rw [← hlp'] at hi
    have hdr : l.drop pre.length = 32 :: (dg v ++ tailL vs) := by rw [hlp', List.drop_left]
    have hne : decide (32 :: (dg v ++ tailL vs) = []) = false := decide_eq_false (by simp)
    have rec_ := ints_loop hj hl (hsl := hsl) (least := least) (R := R) all h1 h2 hs vs (acc ++ [v]) (pre ++ 32 :: dg v) (.val (nI h)) (.val (nI v)) (by rw [ha]; simp) (by rw [hlp']; simp) (by simpa using hv)
      (fun i v' h' e1 e2 => hle (i + 1) v' h' (by simpa using e1) (by simpa using e2)) (fun v' hm => hvv v' (List.mem_cons_of_mem _ hm)) (by simp at hq ⊢; omega) (by simp at hz ⊢; omega)
    have hpl : (pre ++ 32 :: dg v).length = pre.length + 1 + (dg v).length := by simp; omega
    rw [hpl, List.map_append] at rec_
    rw [List.map_cons, W_forCons]
    unfold intsB
    have hzz : acc.length < 16000000 := by simp at hz; omega
    by_cases hb : (least : Int) ≤ (acc.length : Int)
    · simp (config := { failIfUnchanged := false, decide := false }) only [W_bind, W_pure, W_no, W_opt, W_nox, W_op, W_un, W_C, W_varM, W_tst, W_boolM, W_ifB, W_notT, W_andT, W_orT, W_ifE, W_andV, W_orV, W_notV, W_chain, W_nil, W_cons, W_ap, W_apL, W_fl, W_nx, W_brk, W_cnt, W_seq, W_set, W_own, W_ret, W_retN, W_drop, W_if, W_call, W_make, W_fld, W_ix, W_part, W_noPart, W_sl, W_itL, W_itT, W_itS, W_for, W_forNil, W_while, W_gset, W_gcons, W_gnil, W_par2, W_fzM, W_rf, W_ownA, W_setIx, WF_run, WF_ok, WF_arM, eq_self, setE_mk, List.map_cons, List.map_nil, List.length_cons, List.length_nil, List.replicate, List.cons_append, List.nil_append, List.append_nil, List.set_cons_zero, List.set_cons_succ, List.getElem?_cons_zero, List.getElem?_cons_succ, Nat.reduceAdd, Nat.reduceSub, Nat.sub_zero, if_true, if_false, Bool.false_eq_true, and_self, and_true, true_and, Int.reduceLT, Int.reduceLE, Nat.reduceLeDiff, Nat.reduceLT, decide_true, decide_false, Bool.not_true, Bool.not_false, addV_int, subV_int, negV_int, ltV_int, leV_int, gtV_int, geV_int, eqV_int, neV_int, eqV_str, neV_str, intV_int, intV_bl, lenV_fl, lenV_tup, listV_fl, tupleV_fl, ixS_fl, ixS_tup, enm_fl, tupV, lstV, szL, szl, addV_fl, W_ownIxM, W_appM, W_parVN, W_parNV, W_parNN, W_parVVN, minV_int, maxV_int, scI, W_selfM, WI_run, WI_end, WI_ok, Int.cast_ofNat_Int, Int.reduceBEq, Int.reduceBNe, beq_self_eq_true, Bool.not_eq_true, Bool.and_true, Bool.true_and, W_gtupM, W_opL, W_ownSet, W_meth, W_eqM, W_setFld, W_makeR, W_join, W_split, W_ifL, W_extM, W_itK, W_menu, ite_true, ite_false, List.set_set, List.length_map, decide_eq_true hb, iR hj, rest_ok hj hl, hdr, nil_cps, tx_beq, hne, iI hj, hi, isN_int, if_pos hzz]
      exact rec_
    · simp (config := { failIfUnchanged := false, decide := false }) only [W_bind, W_pure, W_no, W_opt, W_nox, W_op, W_un, W_C, W_varM, W_tst, W_boolM, W_ifB, W_notT, W_andT, W_orT, W_ifE, W_andV, W_orV, W_notV, W_chain, W_nil, W_cons, W_ap, W_apL, W_fl, W_nx, W_brk, W_cnt, W_seq, W_set, W_own, W_ret, W_retN, W_drop, W_if, W_call, W_make, W_fld, W_ix, W_part, W_noPart, W_sl, W_itL, W_itT, W_itS, W_for, W_forNil, W_while, W_gset, W_gcons, W_gnil, W_par2, W_fzM, W_rf, W_ownA, W_setIx, WF_run, WF_ok, WF_arM, eq_self, setE_mk, List.map_cons, List.map_nil, List.length_cons, List.length_nil, List.replicate, List.cons_append, List.nil_append, List.append_nil, List.set_cons_zero, List.set_cons_succ, List.getElem?_cons_zero, List.getElem?_cons_succ, Nat.reduceAdd, Nat.reduceSub, Nat.sub_zero, if_true, if_false, Bool.false_eq_true, and_self, and_true, true_and, Int.reduceLT, Int.reduceLE, Nat.reduceLeDiff, Nat.reduceLT, decide_true, decide_false, Bool.not_true, Bool.not_false, addV_int, subV_int, negV_int, ltV_int, leV_int, gtV_int, geV_int, eqV_int, neV_int, eqV_str, neV_str, intV_int, intV_bl, lenV_fl, lenV_tup, listV_fl, tupleV_fl, ixS_fl, ixS_tup, enm_fl, tupV, lstV, szL, szl, addV_fl, W_ownIxM, W_appM, W_parVN, W_parNV, W_parNN, W_parVVN, minV_int, maxV_int, scI, W_selfM, WI_run, WI_end, WI_ok, Int.cast_ofNat_Int, Int.reduceBEq, Int.reduceBNe, beq_self_eq_true, Bool.not_eq_true, Bool.and_true, Bool.true_and, W_gtupM, W_opL, W_ownSet, W_meth, W_eqM, W_setFld, W_makeR, W_join, W_split, W_ifL, W_extM, W_itK, W_menu, ite_true, ite_false, List.set_set, List.length_map, decide_eq_false hb, iI hj, hi, isN_int, if_pos hzz]
      exact rec_
theorem integers_ok (hj : j < μ.length) (hl : l.length ≤ 1000) {hs vs pre : List Nat} {least : Nat} (hlp : l = pre ++ tailL vs) (hv : vs.length ≤ hs.length) (hle : ∀ (i v h : Nat), vs[i]? = some v → hs[i]? = some h → v ≤ h)
    (hvv : ∀ v ∈ vs, v < 200) (hq : vs.length = hs.length ∨ least ≤ vs.length) (hz : hs.length ≤ 1000) :
    fn_LineReader_integers Z [.ref j, .fl (hs.map nI), nI least] (μ.set j (rd Z l n pre.length)) = .ok (.fl (vs.map nI)) (μ.set j (rd Z l n l.length)) := by
  apply of_WF
  unfold fn_LineReader_integers m_LineReader_integers
  simp (config := { failIfUnchanged := false, decide := false }) only [W_bind, W_pure, W_no, W_opt, W_nox, W_op, W_un, W_C, W_varM, W_tst, W_boolM, W_ifB, W_notT, W_andT, W_orT, W_ifE, W_andV, W_orV, W_notV, W_chain, W_nil, W_cons, W_ap, W_apL, W_fl, W_nx, W_brk, W_cnt, W_seq, W_set, W_own, W_ret, W_retN, W_drop, W_if, W_call, W_make, W_fld, W_ix, W_part, W_noPart, W_sl, W_itL, W_itT, W_itS, W_for, W_forNil, W_while, W_gset, W_gcons, W_gnil, W_par2, W_fzM, W_rf, W_ownA, W_setIx, WF_run, WF_ok, WF_arM, eq_self, setE_mk, List.map_cons, List.map_nil, List.length_cons, List.length_nil, List.replicate, List.cons_append, List.nil_append, List.append_nil, List.set_cons_zero, List.set_cons_succ, List.getElem?_cons_zero, List.getElem?_cons_succ, Nat.reduceAdd, Nat.reduceSub, Nat.sub_zero, if_true, if_false, Bool.false_eq_true, and_self, and_true, true_and, Int.reduceLT, Int.reduceLE, Nat.reduceLeDiff, Nat.reduceLT, decide_true, decide_false, Bool.not_true, Bool.not_false, addV_int, subV_int, negV_int, ltV_int, leV_int, gtV_int, geV_int, eqV_int, neV_int, eqV_str, neV_str, intV_int, intV_bl, lenV_fl, lenV_tup, listV_fl, tupleV_fl, ixS_fl, ixS_tup, enm_fl, tupV, lstV, szL, szl, addV_fl, W_ownIxM, W_appM, W_parVN, W_parNV, W_parNN, W_parVVN, minV_int, maxV_int, scI, W_selfM, WI_run, WI_end, WI_ok, Int.cast_ofNat_Int, Int.reduceBEq, Int.reduceBNe, beq_self_eq_true, Bool.not_eq_true, Bool.and_true, Bool.true_and, W_gtupM, W_opL, W_ownSet, W_meth, W_eqM, W_setFld, W_makeR, W_join, W_split, W_ifL, W_extM, W_itK, W_menu, ite_true, ite_false, List.set_set]
  refine ints_loop hj hl vs ?_ ?_ hs vs [] pre _ _ rfl hlp hv hle hvv (by simpa using hq) (by simpa using hz)
  · intro e4 e5
    simp (config := { failIfUnchanged := false, decide := false }) only [W_bind, W_pure, W_no, W_opt, W_nox, W_op, W_un, W_C, W_varM, W_tst, W_boolM, W_ifB, W_notT, W_andT, W_orT, W_ifE, W_andV, W_orV, W_notV, W_chain, W_nil, W_cons, W_ap, W_apL, W_fl, W_nx, W_brk, W_cnt, W_seq, W_set, W_own, W_ret, W_retN, W_drop, W_if, W_call, W_make, W_fld, W_ix, W_part, W_noPart, W_sl, W_itL, W_itT, W_itS, W_for, W_forNil, W_while, W_gset, W_gcons, W_gnil, W_par2, W_fzM, W_rf, W_ownA, W_setIx, WF_run, WF_ok, WF_arM, eq_self, setE_mk, List.map_cons, List.map_nil, List.length_cons, List.length_nil, List.replicate, List.cons_append, List.nil_append, List.append_nil, List.set_cons_zero, List.set_cons_succ, List.getElem?_cons_zero, List.getElem?_cons_succ, Nat.reduceAdd, Nat.reduceSub, Nat.sub_zero, if_true, if_false, Bool.false_eq_true, and_self, and_true, true_and, Int.reduceLT, Int.reduceLE, Nat.reduceLeDiff, Nat.reduceLT, decide_true, decide_false, Bool.not_true, Bool.not_false, addV_int, subV_int, negV_int, ltV_int, leV_int, gtV_int, geV_int, eqV_int, neV_int, eqV_str, neV_str, intV_int, intV_bl, lenV_fl, lenV_tup, listV_fl, tupleV_fl, ixS_fl, ixS_tup, enm_fl, tupV, lstV, szL, szl, addV_fl, W_ownIxM, W_appM, W_parVN, W_parNV, W_parNN, W_parVVN, minV_int, maxV_int, scI, W_selfM, WI_run, WI_end, WI_ok, Int.cast_ofNat_Int, Int.reduceBEq, Int.reduceBNe, beq_self_eq_true, Bool.not_eq_true, Bool.and_true, Bool.true_and, W_gtupM, W_opL, W_ownSet, W_meth, W_eqM, W_setFld, W_makeR, W_join, W_split, W_ifL, W_extM, W_itK, W_menu, ite_true, ite_false, List.set_set]
  · intro e4 e5
    simp (config := { failIfUnchanged := false, decide := false }) only [W_bind, W_pure, W_no, W_opt, W_nox, W_op, W_un, W_C, W_varM, W_tst, W_boolM, W_ifB, W_notT, W_andT, W_orT, W_ifE, W_andV, W_orV, W_notV, W_chain, W_nil, W_cons, W_ap, W_apL, W_fl, W_nx, W_brk, W_cnt, W_seq, W_set, W_own, W_ret, W_retN, W_drop, W_if, W_call, W_make, W_fld, W_ix, W_part, W_noPart, W_sl, W_itL, W_itT, W_itS, W_for, W_forNil, W_while, W_gset, W_gcons, W_gnil, W_par2, W_fzM, W_rf, W_ownA, W_setIx, WF_run, WF_ok, WF_arM, eq_self, setE_mk, List.map_cons, List.map_nil, List.length_cons, List.length_nil, List.replicate, List.cons_append, List.nil_append, List.append_nil, List.set_cons_zero, List.set_cons_succ, List.getElem?_cons_zero, List.getElem?_cons_succ, Nat.reduceAdd, Nat.reduceSub, Nat.sub_zero, if_true, if_false, Bool.false_eq_true, and_self, and_true, true_and, Int.reduceLT, Int.reduceLE, Nat.reduceLeDiff, Nat.reduceLT, decide_true, decide_false, Bool.not_true, Bool.not_false, addV_int, subV_int, negV_int, ltV_int, leV_int, gtV_int, geV_int, eqV_int, neV_int, eqV_str, neV_str, intV_int, intV_bl, lenV_fl, lenV_tup, listV_fl, tupleV_fl, ixS_fl, ixS_tup, enm_fl, tupV, lstV, szL, szl, addV_fl, W_ownIxM, W_appM, W_parVN, W_parNV, W_parNN, W_parVVN, minV_int, maxV_int, scI, W_selfM, WI_run, WI_end, WI_ok, Int.cast_ofNat_Int, Int.reduceBEq, Int.reduceBNe, beq_self_eq_true, Bool.not_eq_true, Bool.and_true, Bool.true_and, W_gtupM, W_opL, W_ownSet, W_meth, W_eqM, W_setFld, W_makeR, W_join, W_split, W_ifL, W_extM, W_itK, W_menu, ite_true, ite_false, List.set_set]
/-! #### a row -/
theorem row_sign (hj : j < μ.length) (hl : l.length ≤ 1000) {w sg : List Nat} {m : Nat} (hw : fn_LineReader_word Z [.ref j] (μ.set j (rd Z l n 0)) = .ok (.str (tx w)) (μ.set j (rd Z l n w.length)))
    (ht : tabIn false tab_MOST_SIGNS (.str (tx w)) = some (.bl true)) (hm : tabV tab_MOST_SIGNS (.str (tx w)) = some (nI m))
    (hs : fn_LineReader_string Z [.ref j, nI m] (μ.set j (rd Z l n w.length)) = .ok (.str (tx sg)) (μ.set j (rd Z l n l.length))) :
    fn_LineReader_row Z [.ref j] (μ.set j (rd Z l n 0)) = .ok (.tup [.str (tx w), .str (tx sg)]) (μ.set j (rd Z l n l.length)) := by
  apply of_WF
  unfold fn_LineReader_row m_LineReader_row m_LineReader_row_r1 m_LineReader_row_r2 m_LineReader_row_r3 m_LineReader_row_r4 m_LineReader_row_r5 m_LineReader_row_r6
  unfold m_LineReader_row_s1 m_LineReader_row_s2 m_LineReader_row_s3 m_LineReader_row_s4 m_LineReader_row_s5 m_LineReader_row_s6 m_LineReader_row_s7
  simp (config := { failIfUnchanged := false, decide := false }) only [W_bind, W_pure, W_no, W_opt, W_nox, W_op, W_un, W_C, W_varM, W_tst, W_boolM, W_ifB, W_notT, W_andT, W_orT, W_ifE, W_andV, W_orV, W_notV, W_chain, W_nil, W_cons, W_ap, W_apL, W_fl, W_nx, W_brk, W_cnt, W_seq, W_set, W_own, W_ret, W_retN, W_drop, W_if, W_call, W_make, W_fld, W_ix, W_part, W_noPart, W_sl, W_itL, W_itT, W_itS, W_for, W_forNil, W_while, W_gset, W_gcons, W_gnil, W_par2, W_fzM, W_rf, W_ownA, W_setIx, WF_run, WF_ok, WF_arM, eq_self, setE_mk, List.map_cons, List.map_nil, List.length_cons, List.length_nil, List.replicate, List.cons_append, List.nil_append, List.append_nil, List.set_cons_zero, List.set_cons_succ, List.getElem?_cons_zero, List.getElem?_cons_succ, Nat.reduceAdd, Nat.reduceSub, Nat.sub_zero, if_true, if_false, Bool.false_eq_true, and_self, and_true, true_and, Int.reduceLT, Int.reduceLE, Nat.reduceLeDiff, Nat.reduceLT, decide_true, decide_false, Bool.not_true, Bool.not_false, addV_int, subV_int, negV_int, ltV_int, leV_int, gtV_int, geV_int, eqV_int, neV_int, eqV_str, neV_str, intV_int, intV_bl, lenV_fl, lenV_tup, listV_fl, tupleV_fl, ixS_fl, ixS_tup, enm_fl, tupV, lstV, szL, szl, addV_fl, W_ownIxM, W_appM, W_parVN, W_parNV, W_parNN, W_parVVN, minV_int, maxV_int, scI, W_selfM, WI_run, WI_end, WI_ok, Int.cast_ofNat_Int, Int.reduceBEq, Int.reduceBNe, beq_self_eq_true, Bool.not_eq_true, Bool.and_true, Bool.true_and, W_gtupM, W_opL, W_ownSet, W_meth, W_eqM, W_setFld, W_makeR, W_join, W_split, W_ifL, W_extM, W_itK, W_menu, ite_true, ite_false, List.set_set, iW hj, hw, isN_str, fN hj, ht, hm, iS hj, hs, iR hj, rest_ok hj hl, List.drop_length, nil_cps, tx_beq]
theorem row_cat (hj : j < μ.length) (hl : l.length ≤ 1000) {w vs hs : List Nat} (hw : fn_LineReader_word Z [.ref j] (μ.set j (rd Z l n 0)) = .ok (.str (tx w)) (μ.set j (rd Z l n w.length)))
    (ht : tabIn false tab_MOST_SIGNS (.str (tx w)) = some (.bl false)) (hc : (tx w == Str.ofString "cat") = true)
    (hm : ∃ k, mulV (.fl [.int ((n : Int) - 1)]) (.int 8) = some k ∧ mulV k (.int (if decide ((0 : Int) < (n : Int)) = true then 1 else 0)) = some (.fl (hs.map nI)))
    (hi : fn_LineReader_integers Z [.ref j, .fl (hs.map nI), nI 0] (μ.set j (rd Z l n w.length)) = .ok (.fl (vs.map nI)) (μ.set j (rd Z l n l.length))) :
    fn_LineReader_row Z [.ref j] (μ.set j (rd Z l n 0)) = .ok (.tup [.str (tx w), .fl (vs.map nI)]) (μ.set j (rd Z l n l.length)) := by
  obtain ⟨k, hm1, hm2⟩ := hm
  have hi : fn_LineReader_integers Z [.ref j, .fl (hs.map nI), .int 0] (μ.set j (rd Z l n w.length)) = .ok (.fl (vs.map nI)) (μ.set j (rd Z l n l.length)) := hi
  apply of_WF
  unfold fn_LineReader_row m_LineReader_row m_LineReader_row_r1 m_LineReader_row_r2 m_LineReader_row_r3 m_LineReader_row_r4 m_LineReader_row_r5 m_LineReader_row_r6
  unfold m_LineReader_row_s1 m_LineReader_row_s2 m_LineReader_row_s3 m_LineReader_row_s4 m_LineReader_row_s5 m_LineReader_row_s6 m_LineReader_row_s7
  simp (config := { failIfUnchanged := false, decide := false }) only [W_bind, W_pure, W_no, W_opt, W_nox, W_op, W_un, W_C, W_varM, W_tst, W_boolM, W_ifB, W_notT, W_andT, W_orT, W_ifE, W_andV, W_orV, W_notV, W_chain, W_nil, W_cons, W_ap, W_apL, W_fl, W_nx, W_brk, W_cnt, W_seq, W_set, W_own, W_ret, W_retN, W_drop, W_if, W_call, W_make, W_fld, W_ix, W_part, W_noPart, W_sl, W_itL, W_itT, W_itS, W_for, W_forNil, W_while, W_gset, W_gcons, W_gnil, W_par2, W_fzM, W_rf, W_ownA, W_setIx, WF_run, WF_ok, WF_arM, eq_self, setE_mk, List.map_cons, List.map_nil, List.length_cons, List.length_nil, List.replicate, List.cons_append, List.nil_append, List.append_nil, List.set_cons_zero, List.set_cons_succ, List.getElem?_cons_zero, List.getElem?_cons_succ, Nat.reduceAdd, Nat.reduceSub, Nat.sub_zero, if_true, if_false, Bool.false_eq_true, and_self, and_true, true_and, Int.reduceLT, Int.reduceLE, Nat.reduceLeDiff, Nat.reduceLT, decide_true, decide_false, Bool.not_true, Bool.not_false, addV_int, subV_int, negV_int, ltV_int, leV_int, gtV_int, geV_int, eqV_int, neV_int, eqV_str, neV_str, intV_int, intV_bl, lenV_fl, lenV_tup, listV_fl, tupleV_fl, ixS_fl, ixS_tup, enm_fl, tupV, lstV, szL, szl, addV_fl, W_ownIxM, W_appM, W_parVN, W_parNV, W_parNN, W_parVVN, minV_int, maxV_int, scI, W_selfM, WI_run, WI_end, WI_ok, Int.cast_ofNat_Int, Int.reduceBEq, Int.reduceBNe, beq_self_eq_true, Bool.not_eq_true, Bool.and_true, Bool.true_and, W_gtupM, W_opL, W_ownSet, W_meth, W_eqM, W_setFld, W_makeR, W_join, W_split, W_ifL, W_extM, W_itK, W_menu, ite_true, ite_false, List.set_set, iW hj, hw, isN_str, isN_fl, fN hj, ht, hc, hm1, hm2, iIs hj, hi, iR hj, rest_ok hj hl, List.drop_length, nil_cps, tx_beq]
theorem row_rest (hj : j < μ.length) (hl : l.length ≤ 1000) {w vs hs : List Nat} (hw : fn_LineReader_word Z [.ref j] (μ.set j (rd Z l n 0)) = .ok (.str (tx w)) (μ.set j (rd Z l n w.length)))
    (ht : tabIn false tab_MOST_SIGNS (.str (tx w)) = some (.bl false)) (hc : (tx w == Str.ofString "cat") = false) (hv : vs.length ≤ 100)
    (hm : (if tx w = Str.ofString "hard" then IV.fl [] else if tx w = Str.ofString "nest" then .fl [.int 8, .int ((n : Int) - 1)] else .fl [.int ((n : Int) - 1)]) = .fl (hs.map nI))
    (hi : fn_LineReader_integers Z [.ref j, .fl (hs.map nI), nI 2] (μ.set j (rd Z l n w.length)) = .ok (.fl (vs.map nI)) (μ.set j (rd Z l n l.length))) :
    fn_LineReader_row Z [.ref j] (μ.set j (rd Z l n 0)) = .ok (.tup (.str (tx w) :: vs.map nI)) (μ.set j (rd Z l n l.length)) := by
  have hi : fn_LineReader_integers Z [.ref j, .fl (hs.map nI), .int 2] (μ.set j (rd Z l n w.length)) = .ok (.fl (vs.map nI)) (μ.set j (rd Z l n l.length)) := hi
  have ha : addV (.tup [.str (tx w)]) (.tup (vs.map nI)) = some (.tup (.str (tx w) :: vs.map nI)) := addV_tup (by simp [szl]; omega)
  apply of_WF
  unfold fn_LineReader_row m_LineReader_row m_LineReader_row_r1 m_LineReader_row_r2 m_LineReader_row_r3 m_LineReader_row_r4 m_LineReader_row_r5 m_LineReader_row_r6
  unfold m_LineReader_row_s1 m_LineReader_row_s2 m_LineReader_row_s3 m_LineReader_row_s4 m_LineReader_row_s5 m_LineReader_row_s6 m_LineReader_row_s7
  simp (config := { failIfUnchanged := false, decide := false }) only [W_bind, W_pure, W_no, W_opt, W_nox, W_op, W_un, W_C, W_varM, W_tst, W_boolM, W_ifB, W_notT, W_andT, W_orT, W_ifE, W_andV, W_orV, W_notV, W_chain, W_nil, W_cons, W_ap, W_apL, W_fl, W_nx, W_brk, W_cnt, W_seq, W_set, W_own, W_ret, W_retN, W_drop, W_if, W_call, W_make, W_fld, W_ix, W_part, W_noPart, W_sl, W_itL, W_itT, W_itS, W_for, W_forNil, W_while, W_gset, W_gcons, W_gnil, W_par2, W_fzM, W_rf, W_ownA, W_setIx, WF_run, WF_ok, WF_arM, eq_self, setE_mk, List.map_cons, List.map_nil, List.length_cons, List.length_nil, List.replicate, List.cons_append, List.nil_append, List.append_nil, List.set_cons_zero, List.set_cons_succ, List.getElem?_cons_zero, List.getElem?_cons_succ, Nat.reduceAdd, Nat.reduceSub, Nat.sub_zero, if_true, if_false, Bool.false_eq_true, and_self, and_true, true_and, Int.reduceLT, Int.reduceLE, Nat.reduceLeDiff, Nat.reduceLT, decide_true, decide_false, Bool.not_true, Bool.not_false, addV_int, subV_int, negV_int, ltV_int, leV_int, gtV_int, geV_int, eqV_int, neV_int, eqV_str, neV_str, intV_int, intV_bl, lenV_fl, lenV_tup, listV_fl, tupleV_fl, ixS_fl, ixS_tup, enm_fl, tupV, lstV, szL, szl, addV_fl, W_ownIxM, W_appM, W_parVN, W_parNV, W_parNN, W_parVVN, minV_int, maxV_int, scI, W_selfM, WI_run, WI_end, WI_ok, Int.cast_ofNat_Int, Int.reduceBEq, Int.reduceBNe, beq_self_eq_true, Bool.not_eq_true, Bool.and_true, Bool.true_and, W_gtupM, W_opL, W_ownSet, W_meth, W_eqM, W_setFld, W_makeR, W_join, W_split, W_ifL, W_extM, W_itK, W_menu, ite_true, ite_false, List.set_set, iW hj, hw, isN_str, isN_fl, fN hj, ht, hc, hm, iIs hj, hi, iR hj, rest_ok hj hl, List.drop_length, nil_cps, tx_beq, tupleV_fl, ha]
end
end Lw
set_option Elab.async false
set_option linter.all false
set_option maxRecDepth 100000
set_option maxHeartbeats 2000000
namespace Lw
open PySem L2 Mi
/-! ### lines -/
def lineR : Row → List Nat
  | .text s => [116, 101, 120, 116] ++ 32 :: s.cps.toList
  | .line s => [108, 105, 110, 101] ++ 32 :: s.cps.toList
  | .hard => [104, 97, 114, 100] ++ tailL []
  | .cat l => [99, 97, 116] ++ tailL l
  | .nest k p => [110, 101, 115, 116] ++ tailL [k, p]
  | .align p => [97, 108, 105, 103, 110] ++ tailL [p]
  | .group p => [103, 114, 111, 117, 112] ++ tailL [p]
theorem w_text : Str.ofString "text" = tx [116, 101, 120, 116] := by decide +kernel
theorem w_line : Str.ofString "line" = tx [108, 105, 110, 101] := by decide +kernel
theorem w_hard : Str.ofString "hard" = tx [104, 97, 114, 100] := by decide +kernel
theorem w_cat : Str.ofString "cat" = tx [99, 97, 116] := by decide +kernel
theorem w_nest : Str.ofString "nest" = tx [110, 101, 115, 116] := by decide +kernel
theorem w_align : Str.ofString "align" = tx [97, 108, 105, 103, 110] := by decide +kernel
theorem w_group : Str.ofString "group" = tx [103, 114, 111, 117, 112] := by decide +kernel
theorem tail_len {vs : List Nat} (h : ∀ v ∈ vs, v < 200) : (tailL vs).length ≤ 4 * vs.length := by
  induction vs with
  | nil => simp [tailL]
  | cons v vs ih =>
    rw [tailL_cons]
    have := (dg_is (h v (List.mem_cons_self ..))).len
    have := ih fun v hv => h v (List.mem_cons_of_mem _ hv)
    simp
    omega
theorem parts_lt {n : Nat} (hn : n ≤ 200) {r : Row} (h : r.ok n) : ∀ v ∈ r.parts, v < 200 := fun v hv => Nat.lt_of_lt_of_le (h.lt v hv) hn
theorem str_len (s : Str) : s.cps.toList.length = s.length := rfl
theorem line_len {n : Nat} (hn : n ≤ 200) {r : Row} (h : r.ok n) : (lineR r).length ≤ 60 := by
  cases r with
  | text s => have := h.1; have := str_len s; simp only [lineR, List.length_append, List.length_cons, List.length_nil]; omega
  | line s => have := h.1; have := str_len s; simp only [lineR, List.length_append, List.length_cons, List.length_nil]; omega
  | hard => decide
  | cat l => have := tail_len (parts_lt hn h); have := h.1; simp only [lineR, Row.parts, List.length_append, List.length_cons, List.length_nil] at *; omega
  | nest k p =>
    have h1 : k < 200 := by have := h.1; omega
    have h2 : p < 200 := by have := h.2; omega
    have := tail_len (vs := [k, p]) (by simp; exact ⟨h1, h2⟩)
    simp only [lineR, List.length_append, List.length_cons, List.length_nil] at *; omega
  | align p =>
    have h2 : p < 200 := Nat.lt_of_lt_of_le h hn
    have := tail_len (vs := [p]) (by simpa using h2)
    simp only [lineR, List.length_append, List.length_cons, List.length_nil] at *; omega
  | group p =>
    have h2 : p < 200 := Nat.lt_of_lt_of_le h hn
    have := tail_len (vs := [p]) (by simpa using h2)
    simp only [lineR, List.length_append, List.length_cons, List.length_nil] at *; omega
section
variable {Z : Ad} {μ : List SO} {j n p : Nat} {l : List Nat} {env : List Slot}
theorem read_row (hj : j < μ.length) (hn : n < 200) (r : Row) (h : r.ok n) : fn_LineReader_row Z [.ref j] (μ.set j (rd Z (lineR r) n 0)) = .ok r.iv (μ.set j (rd Z (lineR r) n (lineR r).length)) := by
  have hl : (lineR r).length ≤ 1000 := by have := line_len (Nat.le_of_lt hn) h; omega
  cases r with
  | text s =>
    have e : (Row.text s).iv = .tup [.str (tx [116, 101, 120, 116]), .str (tx s.cps.toList)] := by rw [← w_text, ← tx_of]; rfl
    rw [e]
    exact row_sign hj hl (word_ok (b := false) (c := 116) (t := 32 :: s.cps.toList) hj rfl (by kernel_rfl) (by kernel_rfl) (by kernel_rfl) (by simp) hl) (m := 20) (by kernel_rfl) (by kernel_rfl)
      (string_ok (pre := [116, 101, 120, 116]) hj h.2 (by have := h.1; have := str_len s; omega) hl)
  | line s =>
    have e : (Row.line s).iv = .tup [.str (tx [108, 105, 110, 101]), .str (tx s.cps.toList)] := by rw [← w_line, ← tx_of]; rfl
    rw [e]
    exact row_sign hj hl (word_ok (b := false) (c := 108) (t := 32 :: s.cps.toList) hj rfl (by kernel_rfl) (by kernel_rfl) (by kernel_rfl) (by simp) hl) (m := 3) (by kernel_rfl) (by kernel_rfl)
      (string_ok (pre := [108, 105, 110, 101]) hj h.2 (by have := h.1; have := str_len s; omega) hl)
  | hard =>
    have e : Row.hard.iv = .tup (.str (tx [104, 97, 114, 100]) :: ([] : List Nat).map nI) := by rw [← w_hard]; rfl
    rw [e]
    exact row_rest hj hl (hs := []) (word_ok (b := false) (c := 104) (t := tailL []) hj rfl (by kernel_rfl) (by kernel_rfl) (by kernel_rfl) (by simp) hl) (by kernel_rfl) (by decide +kernel) (by simp)
      (by rw [if_pos (by decide +kernel)]; rfl) (integers_ok hj hl (pre := [104, 97, 114, 100]) rfl (by simp) (by simp) (by simp) (by simp) (by simp))
  | cat q =>
    obtain ⟨h1, h2⟩ := h
    have e : (Row.cat q).iv = .tup [.str (tx [99, 97, 116]), .fl (q.map nI)] := by rw [← w_cat]; rfl
    rw [e]
    have hw := word_ok (Z := Z) (μ := μ) (j := j) (n := n) (b := false) (c := 99) (w := [99, 97, 116]) (t := tailL q) hj rfl (by kernel_rfl) (by kernel_rfl) (by kernel_rfl) (by simp) hl
    by_cases h0 : n = 0
    · subst h0
      have hq : q = [] := List.eq_nil_iff_forall_not_mem.mpr fun v hv => by have := h2 v hv; omega
      subst hq
      exact row_cat hj hl (hs := []) hw (by kernel_rfl) (by decide +kernel) ⟨.fl (List.replicate 8 (.int (((0 : Nat) : Int) - 1))), by kernel_rfl, by kernel_rfl⟩ (integers_ok hj hl (pre := [99, 97, 116]) rfl (by simp) (by simp) (by simp) (by simp) (by simp))
    · have hd : decide ((0 : Int) < (n : Int)) = true := decide_eq_true (by omega)
      have hc : ((n : Int) - 1) = ((n - 1 : Nat) : Int) := by omega
      refine row_cat hj hl (hs := List.replicate 8 (n - 1)) hw (by kernel_rfl) (by decide +kernel) ⟨.fl (List.replicate 8 (nI (n - 1))), by rw [hc]; kernel_rfl, by rw [hd]; kernel_rfl⟩ (integers_ok hj hl (pre := [99, 97, 116]) rfl (by simpa using h1) ?_ (fun v hv => by have := h2 v hv; omega) (.inr (by omega)) (by simp))
      intro i v hh e1 e2
      have := h2 v (List.mem_of_getElem? e1)
      have := List.mem_of_getElem? e2
      have := List.eq_of_mem_replicate this
      omega
  | nest k q =>
    obtain ⟨h1, h2⟩ := h
    have e : (Row.nest k q).iv = .tup (.str (tx [110, 101, 115, 116]) :: [k, q].map nI) := by rw [← w_nest]; rfl
    rw [e]
    have hc : ((n : Int) - 1) = ((n - 1 : Nat) : Int) := by omega
    refine row_rest hj hl (hs := [8, n - 1]) (word_ok (b := true) (c := 110) (w := [110, 101, 115, 116]) (t := tailL [k, q]) hj rfl (by kernel_rfl) (by kernel_rfl) (by kernel_rfl) (by omega) hl) (by kernel_rfl) (by decide +kernel) (by simp)
      (by rw [if_neg (by decide +kernel), if_pos (by decide +kernel), hc]; rfl) (integers_ok hj hl (pre := [110, 101, 115, 116]) rfl (by simp) ?_ (by intro v hv; simp at hv; rcases hv with rfl | rfl <;> omega) (.inl rfl) (by simp))
    intro i v hh e1 e2
    rcases i with _ | _ | i
    · simp at e1 e2; omega
    · simp at e1 e2; omega
    · simp at e1
  | align q =>
    have h : q < n := h
    have e : (Row.align q).iv = .tup (.str (tx [97, 108, 105, 103, 110]) :: [q].map nI) := by rw [← w_align]; rfl
    rw [e]
    have hc : ((n : Int) - 1) = ((n - 1 : Nat) : Int) := by omega
    refine row_rest hj hl (hs := [n - 1]) (word_ok (b := true) (c := 97) (w := [97, 108, 105, 103, 110]) (t := tailL [q]) hj rfl (by kernel_rfl) (by kernel_rfl) (by kernel_rfl) (by omega) hl) (by kernel_rfl) (by decide +kernel) (by simp)
      (by rw [if_neg (by decide +kernel), if_neg (by decide +kernel), hc]; rfl) (integers_ok hj hl (pre := [97, 108, 105, 103, 110]) rfl (by simp) ?_ (by intro v hv; simp at hv; omega) (.inl rfl) (by simp))
    intro i v hh e1 e2
    rcases i with _ | i
    · simp at e1 e2; omega
    · simp at e1
  | group q =>
    have h : q < n := h
    have e : (Row.group q).iv = .tup (.str (tx [103, 114, 111, 117, 112]) :: [q].map nI) := by rw [← w_group]; rfl
    rw [e]
    have hc : ((n : Int) - 1) = ((n - 1 : Nat) : Int) := by omega
    refine row_rest hj hl (hs := [n - 1]) (word_ok (b := true) (c := 103) (w := [103, 114, 111, 117, 112]) (t := tailL [q]) hj rfl (by kernel_rfl) (by kernel_rfl) (by kernel_rfl) (by omega) hl) (by kernel_rfl) (by decide +kernel) (by simp)
      (by rw [if_neg (by decide +kernel), if_neg (by decide +kernel), hc]; rfl) (integers_ok hj hl (pre := [103, 114, 111, 117, 112]) rfl (by simp) ?_ (by intro v hv; simp at hv; omega) (.inl rfl) (by simp))
    intro i v hh e1 e2
    rcases i with _ | i
    · simp at e1 e2; omega
    · simp at e1
end

/-! ### joined texts -/
def joinL (sep : List Nat) : List (List Nat) → List Nat
  | [] => []
  | [x] => x
  | x :: y :: r => x ++ sep ++ joinL sep (y :: r)
theorem join_tx (sep : List Nat) : ∀ ys : List (List Nat), Str.join (tx sep) (ys.map tx) = tx (joinL sep ys)
  | [] => rfl
  | [x] => rfl
  | x :: y :: r => by
    show tx x ++ tx sep ++ Str.join (tx sep) ((y :: r).map tx) = _
    rw [join_tx sep (y :: r), tx_app, tx_app]
    rfl
theorem strsOf_tx : ∀ ys : List (List Nat), strsOf (ys.map fun y => IV.str (tx y)) = some (ys.map tx)
  | [] => rfl
  | y :: r => by
    rw [List.map_cons]
    show (strsOf _).map _ = _
    rw [strsOf_tx r]; rfl
def wSum (ys : List (List Nat)) : Nat := (ys.map List.length).sum
theorem joinV_tx {sep : List Nat} {ys : List (List Nat)} (h : wSum ys + ys.length * sep.length ≤ 1000000) : joinV (tx sep) (.fl (ys.map fun y => IV.str (tx y))) = some (.str (tx (joinL sep ys))) := by
  unfold joinV
  dsimp only
  rw [strsOf_tx]
  dsimp only
  have e : ((ys.map tx).map fun x => x.length).sum = wSum ys := by
    rw [List.map_map]
    unfold wSum
    congr 1
  rw [e, List.length_map, tx_len, if_pos (by omega)]
  rw [show Txt.join (tx sep) (ys.map tx) = Str.join (tx sep) (ys.map tx) from StrLaws.glued_eq_join _ _, join_tx]
theorem joinL_tail (w : List Nat) : ∀ vs : List Nat, joinL [32] (w :: vs.map dg) = w ++ tailL vs
  | [] => by simp [joinL, tailL]
  | v :: vs => by
    rw [List.map_cons]
    show w ++ [32] ++ joinL [32] (dg v :: vs.map dg) = _
    rw [joinL_tail (dg v) vs, tailL_cons]
    simp
theorem strV_nat {v : Nat} (h : v < 200) : strV [nI v] = some (.str (tx (dg v))) := by
  have e : strV [nI v] = if ((v : Nat) : Int).natAbs < 1000000000000000000 then some (.str (Str.ofString (toString ((v : Nat) : Int)))) else none := rfl
  rw [e, if_pos (by omega)]
  rfl
theorem strV_str {z : Str} : strV [.str z] = some (.str z) := rfl
theorem wsum_dg {vs : List Nat} (h : ∀ v ∈ vs, v < 200) : wSum (vs.map dg) ≤ 3 * vs.length := by
  induction vs with
  | nil => simp [wSum]
  | cons v vs ih =>
    have := (dg_is (h v (List.mem_cons_self ..))).len
    have := ih fun v hv => h v (List.mem_cons_of_mem _ hv)
    unfold wSum at *
    simp at *
    omega
/-- a comprehension over the values of a list -/
theorem compL_mapA {α : Type} {s : S} {i : Nat} {e : M IV} {g f : α → IV} : ∀ (l : List α) (acc : List IV), acc.length + l.length ≤ szl → (∀ x ∈ l, e (setE i (.val (g x)) s) = .ok (f x) (setE i (.val (g x)) s)) →
    compL [i] (gSet i) tYesM e (l.map g) acc (setE i .emp s) = .ok (acc ++ l.map f) (setE i .emp s)
  | [], acc, _, _ => by rw [List.map_nil, compL.eq_1, List.map_nil, List.append_nil]; rfl
  | x :: r, acc, hz, he => by
    apply of_W
    rw [List.map_cons, compL.eq_2, W_bind, W_nox, W_gset, W_bind, W_nox]
    show W (M.pure true) _ _
    rw [W_pure, if_pos rfl, W_bind, W_nox, setE_setE, W_of (he x (by simp)), if_pos (by simp at hz; omega), W_bind]
    show W (compL [i] (gSet i) tYesM e (r.map g) (acc ++ [f x])) (setE i .emp (setE i (.val (g x)) s)) _
    rw [setE_setE, W_of (compL_mapA r (acc ++ [f x]) (by simp at hz ⊢; omega) fun y hy => he y (by simp [hy]))]
    simp
theorem W_compA {α : Type} {s : S} {L : List IV → S → Prop} {i : Nat} {mi : M (List IV)} {e : M IV} (g f : α → IV) (l : List α) (h : W mi s fun l' s1 => l' = l.map g ∧ l.length ≤ szl ∧ (∀ x ∈ l, e (setE i (.val (g x)) s1) = .ok (f x) (setE i (.val (g x)) s1)) ∧ L (l.map f) (setE i .emp s1)) :
    W (mComp [i] mi (gSet i) tYesM e) s L := by
  obtain ⟨l', s1, e1, rfl, hz, he, q⟩ := h.run
  unfold mComp
  rw [W_bind, W_of e1, W_bind]
  show W (compL [i] (gSet i) tYesM e (l.map g) []) (setE i .emp s1) L
  rw [W_of (compL_mapA l [] (by simpa using hz) he)]
  exact q
/-! ### line_of -/
theorem at0 {x : IV} {r : List IV} : atI (x :: r) (0 : Int) = some x := by
  have := Mi.atI_n (l := x :: r) (n := 0) (by simp)
  simpa using this
theorem at1 {x y : IV} {r : List IV} : atI (x :: y :: r) (1 : Int) = some y := by
  have := Mi.atI_n (l := x :: y :: r) (n := 1) (by simp)
  simpa using this
section
variable (Z : Ad) (μ : List SO)
theorem lineof_sign {w sg : List Nat} (ht : tabIn false tab_MOST_SIGNS (.str (tx w)) = some (.bl true)) (hl : (w ++ 32 :: sg).length ≤ 1000) : fn_line_of Z [.tup [.str (tx w), .str (tx sg)]] μ = .ok (.str (tx (w ++ 32 :: sg))) μ := by
  have a1 : addV (.str (tx w)) (.str (tx [32])) = some (.str (tx (w ++ [32]))) := addV_tx (by simp at hl ⊢; omega)
  have a2 : addV (.str (tx (w ++ [32]))) (.str (tx sg)) = some (.str (tx (w ++ 32 :: sg))) := by rw [addV_tx (by simp at hl ⊢; omega)]; simp
  apply of_WF
  unfold fn_line_of m_line_of
  simp (config := { failIfUnchanged := false, decide := false }) only [W_bind, W_pure, W_no, W_opt, W_nox, W_op, W_un, W_C, W_varM, W_tst, W_boolM, W_ifB, W_notT, W_andT, W_orT, W_ifE, W_andV, W_orV, W_notV, W_chain, W_nil, W_cons, W_ap, W_apL, W_fl, W_nx, W_brk, W_cnt, W_seq, W_set, W_own, W_ret, W_retN, W_drop, W_if, W_call, W_make, W_fld, W_ix, W_part, W_noPart, W_sl, W_itL, W_itT, W_itS, W_for, W_forNil, W_while, W_gset, W_gcons, W_gnil, W_par2, W_fzM, W_rf, W_ownA, W_setIx, WF_run, WF_ok, WF_arM, eq_self, setE_mk, List.map_cons, List.map_nil, List.length_cons, List.length_nil, List.replicate, List.cons_append, List.nil_append, List.append_nil, List.set_cons_zero, List.set_cons_succ, List.getElem?_cons_zero, List.getElem?_cons_succ, Nat.reduceAdd, Nat.reduceSub, Nat.sub_zero, if_true, if_false, Bool.false_eq_true, and_self, and_true, true_and, Int.reduceLT, Int.reduceLE, Nat.reduceLeDiff, Nat.reduceLT, decide_true, decide_false, Bool.not_true, Bool.not_false, addV_int, subV_int, negV_int, ltV_int, leV_int, gtV_int, geV_int, eqV_int, neV_int, eqV_str, neV_str, intV_int, intV_bl, lenV_fl, lenV_tup, listV_fl, tupleV_fl, ixS_fl, ixS_tup, enm_fl, tupV, lstV, szL, szl, addV_fl, W_ownIxM, W_appM, W_parVN, W_parNV, W_parNN, W_parVVN, minV_int, maxV_int, scI, W_selfM, WI_run, WI_end, WI_ok, Int.cast_ofNat_Int, Int.reduceBEq, Int.reduceBNe, beq_self_eq_true, Bool.not_eq_true, Bool.and_true, Bool.true_and, W_gtupM, W_opL, W_ownSet, W_meth, W_eqM, W_setFld, W_makeR, W_join, W_split, W_ifL, W_extM, W_itK, W_menu, ite_true, ite_false, List.set_set, at0, at1, ht, sp_cps', a1, a2]
theorem lineof_cat {w vs : List Nat} (ht : tabIn false tab_MOST_SIGNS (.str (tx w)) = some (.bl false)) (hc : (tx w == Str.ofString "cat") = true) (hww : w.length ≤ 10) (hv : ∀ v ∈ vs, v < 200) (hl : vs.length ≤ 100) (hwc : Str.ofString "cat" = tx w) :
    fn_line_of Z [.tup [.str (tx w), .fl (vs.map nI)]] μ = .ok (.str (tx (w ++ tailL vs))) μ := by
  apply of_WF
  unfold fn_line_of m_line_of
  simp (config := { failIfUnchanged := false, decide := false }) only [W_bind, W_pure, W_no, W_opt, W_nox, W_op, W_un, W_C, W_varM, W_tst, W_boolM, W_ifB, W_notT, W_andT, W_orT, W_ifE, W_andV, W_orV, W_notV, W_chain, W_nil, W_cons, W_ap, W_apL, W_fl, W_nx, W_brk, W_cnt, W_seq, W_set, W_own, W_ret, W_retN, W_drop, W_if, W_call, W_make, W_fld, W_ix, W_part, W_noPart, W_sl, W_itL, W_itT, W_itS, W_for, W_forNil, W_while, W_gset, W_gcons, W_gnil, W_par2, W_fzM, W_rf, W_ownA, W_setIx, WF_run, WF_ok, WF_arM, eq_self, setE_mk, List.map_cons, List.map_nil, List.length_cons, List.length_nil, List.replicate, List.cons_append, List.nil_append, List.append_nil, List.set_cons_zero, List.set_cons_succ, List.getElem?_cons_zero, List.getElem?_cons_succ, Nat.reduceAdd, Nat.reduceSub, Nat.sub_zero, if_true, if_false, Bool.false_eq_true, and_self, and_true, true_and, Int.reduceLT, Int.reduceLE, Nat.reduceLeDiff, Nat.reduceLT, decide_true, decide_false, Bool.not_true, Bool.not_false, addV_int, subV_int, negV_int, ltV_int, leV_int, gtV_int, geV_int, eqV_int, neV_int, eqV_str, neV_str, intV_int, intV_bl, lenV_fl, lenV_tup, listV_fl, tupleV_fl, ixS_fl, ixS_tup, enm_fl, tupV, lstV, szL, szl, addV_fl, W_ownIxM, W_appM, W_parVN, W_parNV, W_parNN, W_parVVN, minV_int, maxV_int, scI, W_selfM, WI_run, WI_end, WI_ok, Int.cast_ofNat_Int, Int.reduceBEq, Int.reduceBNe, beq_self_eq_true, Bool.not_eq_true, Bool.and_true, Bool.true_and, W_gtupM, W_opL, W_ownSet, W_meth, W_eqM, W_setFld, W_makeR, W_join, W_split, W_ifL, W_extM, W_itK, W_menu, ite_true, ite_false, List.set_set, at0, at1, ht, sp_cps', hc, hwc]
  refine W_compA nI (fun v => .str (tx (dg v))) vs ?_
  simp (config := { failIfUnchanged := false, decide := false }) only [W_bind, W_pure, W_no, W_opt, W_nox, W_op, W_un, W_C, W_varM, W_tst, W_boolM, W_ifB, W_notT, W_andT, W_orT, W_ifE, W_andV, W_orV, W_notV, W_chain, W_nil, W_cons, W_ap, W_apL, W_fl, W_nx, W_brk, W_cnt, W_seq, W_set, W_own, W_ret, W_retN, W_drop, W_if, W_call, W_make, W_fld, W_ix, W_part, W_noPart, W_sl, W_itL, W_itT, W_itS, W_for, W_forNil, W_while, W_gset, W_gcons, W_gnil, W_par2, W_fzM, W_rf, W_ownA, W_setIx, WF_run, WF_ok, WF_arM, eq_self, setE_mk, List.map_cons, List.map_nil, List.length_cons, List.length_nil, List.replicate, List.cons_append, List.nil_append, List.append_nil, List.set_cons_zero, List.set_cons_succ, List.getElem?_cons_zero, List.getElem?_cons_succ, Nat.reduceAdd, Nat.reduceSub, Nat.sub_zero, if_true, if_false, Bool.false_eq_true, and_self, and_true, true_and, Int.reduceLT, Int.reduceLE, Nat.reduceLeDiff, Nat.reduceLT, decide_true, decide_false, Bool.not_true, Bool.not_false, addV_int, subV_int, negV_int, ltV_int, leV_int, gtV_int, geV_int, eqV_int, neV_int, eqV_str, neV_str, intV_int, intV_bl, lenV_fl, lenV_tup, listV_fl, tupleV_fl, ixS_fl, ixS_tup, enm_fl, tupV, lstV, szL, szl, addV_fl, W_ownIxM, W_appM, W_parVN, W_parNV, W_parNN, W_parVVN, minV_int, maxV_int, scI, W_selfM, WI_run, WI_end, WI_ok, Int.cast_ofNat_Int, Int.reduceBEq, Int.reduceBNe, beq_self_eq_true, Bool.not_eq_true, Bool.and_true, Bool.true_and, W_gtupM, W_opL, W_ownSet, W_meth, W_eqM, W_setFld, W_makeR, W_join, W_split, W_ifL, W_extM, W_itK, W_menu, ite_true, ite_false, List.set_set, at1]
  refine ⟨by omega, ?_, ?_⟩
  · intro v hvm
    apply of_W
    simp (config := { failIfUnchanged := false, decide := false }) only [W_bind, W_pure, W_no, W_opt, W_nox, W_op, W_un, W_C, W_varM, W_tst, W_boolM, W_ifB, W_notT, W_andT, W_orT, W_ifE, W_andV, W_orV, W_notV, W_chain, W_nil, W_cons, W_ap, W_apL, W_fl, W_nx, W_brk, W_cnt, W_seq, W_set, W_own, W_ret, W_retN, W_drop, W_if, W_call, W_make, W_fld, W_ix, W_part, W_noPart, W_sl, W_itL, W_itT, W_itS, W_for, W_forNil, W_while, W_gset, W_gcons, W_gnil, W_par2, W_fzM, W_rf, W_ownA, W_setIx, WF_run, WF_ok, WF_arM, eq_self, setE_mk, List.map_cons, List.map_nil, List.length_cons, List.length_nil, List.replicate, List.cons_append, List.nil_append, List.append_nil, List.set_cons_zero, List.set_cons_succ, List.getElem?_cons_zero, List.getElem?_cons_succ, Nat.reduceAdd, Nat.reduceSub, Nat.sub_zero, if_true, if_false, Bool.false_eq_true, and_self, and_true, true_and, Int.reduceLT, Int.reduceLE, Nat.reduceLeDiff, Nat.reduceLT, decide_true, decide_false, Bool.not_true, Bool.not_false, addV_int, subV_int, negV_int, ltV_int, leV_int, gtV_int, geV_int, eqV_int, neV_int, eqV_str, neV_str, intV_int, intV_bl, lenV_fl, lenV_tup, listV_fl, tupleV_fl, ixS_fl, ixS_tup, enm_fl, tupV, lstV, szL, szl, addV_fl, W_ownIxM, W_appM, W_parVN, W_parNV, W_parNN, W_parVVN, minV_int, maxV_int, scI, W_selfM, WI_run, WI_end, WI_ok, Int.cast_ofNat_Int, Int.reduceBEq, Int.reduceBNe, beq_self_eq_true, Bool.not_eq_true, Bool.and_true, Bool.true_and, W_gtupM, W_opL, W_ownSet, W_meth, W_eqM, W_setFld, W_makeR, W_join, W_split, W_ifL, W_extM, W_itK, W_menu, ite_true, ite_false, List.set_set, strV_nat (hv v hvm)]
  · have ws := wsum_dg hv
    have hj := joinV_tx (sep := [32]) (ys := w :: vs.map dg) (by unfold wSum at *; simp at *; omega)
    rw [joinL_tail, List.map_cons, List.map_map] at hj
    have ha : addV (.fl [.str (tx w)]) (.fl (vs.map fun v => .str (tx (dg v)))) = some (.fl (.str (tx w) :: vs.map fun v => .str (tx (dg v)))) := addV_fl (by simp [szl]; omega)
    have hj : joinV (tx [32]) (.fl (.str (tx w) :: vs.map fun v => .str (tx (dg v)))) = some (.str (tx (w ++ tailL vs))) := hj
    simp (config := { failIfUnchanged := false, decide := false }) only [W_bind, W_pure, W_no, W_opt, W_nox, W_op, W_un, W_C, W_varM, W_tst, W_boolM, W_ifB, W_notT, W_andT, W_orT, W_ifE, W_andV, W_orV, W_notV, W_chain, W_nil, W_cons, W_ap, W_apL, W_fl, W_nx, W_brk, W_cnt, W_seq, W_set, W_own, W_ret, W_retN, W_drop, W_if, W_call, W_make, W_fld, W_ix, W_part, W_noPart, W_sl, W_itL, W_itT, W_itS, W_for, W_forNil, W_while, W_gset, W_gcons, W_gnil, W_par2, W_fzM, W_rf, W_ownA, W_setIx, WF_run, WF_ok, WF_arM, eq_self, setE_mk, List.map_cons, List.map_nil, List.length_cons, List.length_nil, List.replicate, List.cons_append, List.nil_append, List.append_nil, List.set_cons_zero, List.set_cons_succ, List.getElem?_cons_zero, List.getElem?_cons_succ, Nat.reduceAdd, Nat.reduceSub, Nat.sub_zero, if_true, if_false, Bool.false_eq_true, and_self, and_true, true_and, Int.reduceLT, Int.reduceLE, Nat.reduceLeDiff, Nat.reduceLT, decide_true, decide_false, Bool.not_true, Bool.not_false, addV_int, subV_int, negV_int, ltV_int, leV_int, gtV_int, geV_int, eqV_int, neV_int, eqV_str, neV_str, intV_int, intV_bl, lenV_fl, lenV_tup, listV_fl, tupleV_fl, ixS_fl, ixS_tup, enm_fl, tupV, lstV, szL, szl, addV_fl, W_ownIxM, W_appM, W_parVN, W_parNV, W_parNN, W_parVVN, minV_int, maxV_int, scI, W_selfM, WI_run, WI_end, WI_ok, Int.cast_ofNat_Int, Int.reduceBEq, Int.reduceBNe, beq_self_eq_true, Bool.not_eq_true, Bool.and_true, Bool.true_and, W_gtupM, W_opL, W_ownSet, W_meth, W_eqM, W_setFld, W_makeR, W_join, W_split, W_ifL, W_extM, W_itK, W_menu, ite_true, ite_false, List.set_set, ha, hj]
theorem lineof_rest {w vs : List Nat} (ht : tabIn false tab_MOST_SIGNS (.str (tx w)) = some (.bl false)) (hc : (tx w == Str.ofString "cat") = false) (hww : w.length ≤ 10) (hv : ∀ v ∈ vs, v < 200) (hl : vs.length ≤ 100) :
    fn_line_of Z [.tup (.str (tx w) :: vs.map nI)] μ = .ok (.str (tx (w ++ tailL vs))) μ := by
  apply of_WF
  unfold fn_line_of m_line_of
  simp (config := { failIfUnchanged := false, decide := false }) only [W_bind, W_pure, W_no, W_opt, W_nox, W_op, W_un, W_C, W_varM, W_tst, W_boolM, W_ifB, W_notT, W_andT, W_orT, W_ifE, W_andV, W_orV, W_notV, W_chain, W_nil, W_cons, W_ap, W_apL, W_fl, W_nx, W_brk, W_cnt, W_seq, W_set, W_own, W_ret, W_retN, W_drop, W_if, W_call, W_make, W_fld, W_ix, W_part, W_noPart, W_sl, W_itL, W_itT, W_itS, W_for, W_forNil, W_while, W_gset, W_gcons, W_gnil, W_par2, W_fzM, W_rf, W_ownA, W_setIx, WF_run, WF_ok, WF_arM, eq_self, setE_mk, List.map_cons, List.map_nil, List.length_cons, List.length_nil, List.replicate, List.cons_append, List.nil_append, List.append_nil, List.set_cons_zero, List.set_cons_succ, List.getElem?_cons_zero, List.getElem?_cons_succ, Nat.reduceAdd, Nat.reduceSub, Nat.sub_zero, if_true, if_false, Bool.false_eq_true, and_self, and_true, true_and, Int.reduceLT, Int.reduceLE, Nat.reduceLeDiff, Nat.reduceLT, decide_true, decide_false, Bool.not_true, Bool.not_false, addV_int, subV_int, negV_int, ltV_int, leV_int, gtV_int, geV_int, eqV_int, neV_int, eqV_str, neV_str, intV_int, intV_bl, lenV_fl, lenV_tup, listV_fl, tupleV_fl, ixS_fl, ixS_tup, enm_fl, tupV, lstV, szL, szl, addV_fl, W_ownIxM, W_appM, W_parVN, W_parNV, W_parNN, W_parVVN, minV_int, maxV_int, scI, W_selfM, WI_run, WI_end, WI_ok, Int.cast_ofNat_Int, Int.reduceBEq, Int.reduceBNe, beq_self_eq_true, Bool.not_eq_true, Bool.and_true, Bool.true_and, W_gtupM, W_opL, W_ownSet, W_meth, W_eqM, W_setFld, W_makeR, W_join, W_split, W_ifL, W_extM, W_itK, W_menu, ite_true, ite_false, List.set_set, at0, ht, sp_cps', hc]
  refine W_compA (α := Option Nat) (fun o => match o with | none => .str (tx w) | some v => nI v) (fun o => match o with | none => .str (tx w) | some v => .str (tx (dg v))) (none :: vs.map some) ?_
  have e1 : (none :: vs.map some).map (fun o : Option Nat => match o with | none => IV.str (tx w) | some v => nI v) = .str (tx w) :: vs.map nI := by rw [List.map_cons, List.map_map]; rfl
  have e2 : (none :: vs.map some).map (fun o : Option Nat => match o with | none => IV.str (tx w) | some v => .str (tx (dg v))) = (w :: vs.map dg).map fun y => IV.str (tx y) := by rw [List.map_cons, List.map_cons, List.map_map, List.map_map]; rfl
  rw [e1, e2]
  have ws := wsum_dg hv
  have hj := joinV_tx (sep := [32]) (ys := w :: vs.map dg) (by unfold wSum at *; simp at *; omega)
  rw [joinL_tail] at hj
  simp (config := { failIfUnchanged := false, decide := false }) only [W_bind, W_pure, W_no, W_opt, W_nox, W_op, W_un, W_C, W_varM, W_tst, W_boolM, W_ifB, W_notT, W_andT, W_orT, W_ifE, W_andV, W_orV, W_notV, W_chain, W_nil, W_cons, W_ap, W_apL, W_fl, W_nx, W_brk, W_cnt, W_seq, W_set, W_own, W_ret, W_retN, W_drop, W_if, W_call, W_make, W_fld, W_ix, W_part, W_noPart, W_sl, W_itL, W_itT, W_itS, W_for, W_forNil, W_while, W_gset, W_gcons, W_gnil, W_par2, W_fzM, W_rf, W_ownA, W_setIx, WF_run, WF_ok, WF_arM, eq_self, setE_mk, List.map_cons, List.map_nil, List.length_cons, List.length_nil, List.replicate, List.cons_append, List.nil_append, List.append_nil, List.set_cons_zero, List.set_cons_succ, List.getElem?_cons_zero, List.getElem?_cons_succ, Nat.reduceAdd, Nat.reduceSub, Nat.sub_zero, if_true, if_false, Bool.false_eq_true, and_self, and_true, true_and, Int.reduceLT, Int.reduceLE, Nat.reduceLeDiff, Nat.reduceLT, decide_true, decide_false, Bool.not_true, Bool.not_false, addV_int, subV_int, negV_int, ltV_int, leV_int, gtV_int, geV_int, eqV_int, neV_int, eqV_str, neV_str, intV_int, intV_bl, lenV_fl, lenV_tup, listV_fl, tupleV_fl, ixS_fl, ixS_tup, enm_fl, tupV, lstV, szL, szl, addV_fl, W_ownIxM, W_appM, W_parVN, W_parNV, W_parNN, W_parVVN, minV_int, maxV_int, scI, W_selfM, WI_run, WI_end, WI_ok, Int.cast_ofNat_Int, Int.reduceBEq, Int.reduceBNe, beq_self_eq_true, Bool.not_eq_true, Bool.and_true, Bool.true_and, W_gtupM, W_opL, W_ownSet, W_meth, W_eqM, W_setFld, W_makeR, W_join, W_split, W_ifL, W_extM, W_itK, W_menu, ite_true, ite_false, List.set_set]
  refine ⟨by simp; omega, ?_, ?_⟩
  · intro o ho
    apply of_W
    cases o with
    | none => simp (config := { failIfUnchanged := false, decide := false }) only [W_bind, W_pure, W_no, W_opt, W_nox, W_op, W_un, W_C, W_varM, W_tst, W_boolM, W_ifB, W_notT, W_andT, W_orT, W_ifE, W_andV, W_orV, W_notV, W_chain, W_nil, W_cons, W_ap, W_apL, W_fl, W_nx, W_brk, W_cnt, W_seq, W_set, W_own, W_ret, W_retN, W_drop, W_if, W_call, W_make, W_fld, W_ix, W_part, W_noPart, W_sl, W_itL, W_itT, W_itS, W_for, W_forNil, W_while, W_gset, W_gcons, W_gnil, W_par2, W_fzM, W_rf, W_ownA, W_setIx, WF_run, WF_ok, WF_arM, eq_self, setE_mk, List.map_cons, List.map_nil, List.length_cons, List.length_nil, List.replicate, List.cons_append, List.nil_append, List.append_nil, List.set_cons_zero, List.set_cons_succ, List.getElem?_cons_zero, List.getElem?_cons_succ, Nat.reduceAdd, Nat.reduceSub, Nat.sub_zero, if_true, if_false, Bool.false_eq_true, and_self, and_true, true_and, Int.reduceLT, Int.reduceLE, Nat.reduceLeDiff, Nat.reduceLT, decide_true, decide_false, Bool.not_true, Bool.not_false, addV_int, subV_int, negV_int, ltV_int, leV_int, gtV_int, geV_int, eqV_int, neV_int, eqV_str, neV_str, intV_int, intV_bl, lenV_fl, lenV_tup, listV_fl, tupleV_fl, ixS_fl, ixS_tup, enm_fl, tupV, lstV, szL, szl, addV_fl, W_ownIxM, W_appM, W_parVN, W_parNV, W_parNN, W_parVVN, minV_int, maxV_int, scI, W_selfM, WI_run, WI_end, WI_ok, Int.cast_ofNat_Int, Int.reduceBEq, Int.reduceBNe, beq_self_eq_true, Bool.not_eq_true, Bool.and_true, Bool.true_and, W_gtupM, W_opL, W_ownSet, W_meth, W_eqM, W_setFld, W_makeR, W_join, W_split, W_ifL, W_extM, W_itK, W_menu, ite_true, ite_false, List.set_set, strV_str]
    | some v =>
      have : v ∈ vs := by simpa using ho
      simp (config := { failIfUnchanged := false, decide := false }) only [W_bind, W_pure, W_no, W_opt, W_nox, W_op, W_un, W_C, W_varM, W_tst, W_boolM, W_ifB, W_notT, W_andT, W_orT, W_ifE, W_andV, W_orV, W_notV, W_chain, W_nil, W_cons, W_ap, W_apL, W_fl, W_nx, W_brk, W_cnt, W_seq, W_set, W_own, W_ret, W_retN, W_drop, W_if, W_call, W_make, W_fld, W_ix, W_part, W_noPart, W_sl, W_itL, W_itT, W_itS, W_for, W_forNil, W_while, W_gset, W_gcons, W_gnil, W_par2, W_fzM, W_rf, W_ownA, W_setIx, WF_run, WF_ok, WF_arM, eq_self, setE_mk, List.map_cons, List.map_nil, List.length_cons, List.length_nil, List.replicate, List.cons_append, List.nil_append, List.append_nil, List.set_cons_zero, List.set_cons_succ, List.getElem?_cons_zero, List.getElem?_cons_succ, Nat.reduceAdd, Nat.reduceSub, Nat.sub_zero, if_true, if_false, Bool.false_eq_true, and_self, and_true, true_and, Int.reduceLT, Int.reduceLE, Nat.reduceLeDiff, Nat.reduceLT, decide_true, decide_false, Bool.not_true, Bool.not_false, addV_int, subV_int, negV_int, ltV_int, leV_int, gtV_int, geV_int, eqV_int, neV_int, eqV_str, neV_str, intV_int, intV_bl, lenV_fl, lenV_tup, listV_fl, tupleV_fl, ixS_fl, ixS_tup, enm_fl, tupV, lstV, szL, szl, addV_fl, W_ownIxM, W_appM, W_parVN, W_parNV, W_parNN, W_parVVN, minV_int, maxV_int, scI, W_selfM, WI_run, WI_end, WI_ok, Int.cast_ofNat_Int, Int.reduceBEq, Int.reduceBNe, beq_self_eq_true, Bool.not_eq_true, Bool.and_true, Bool.true_and, W_gtupM, W_opL, W_ownSet, W_meth, W_eqM, W_setFld, W_makeR, W_join, W_split, W_ifL, W_extM, W_itK, W_menu, ite_true, ite_false, List.set_set, strV_nat (hv v this)]
  · rw [List.map_cons] at hj
    simp (config := { failIfUnchanged := false, decide := false }) only [W_bind, W_pure, W_no, W_opt, W_nox, W_op, W_un, W_C, W_varM, W_tst, W_boolM, W_ifB, W_notT, W_andT, W_orT, W_ifE, W_andV, W_orV, W_notV, W_chain, W_nil, W_cons, W_ap, W_apL, W_fl, W_nx, W_brk, W_cnt, W_seq, W_set, W_own, W_ret, W_retN, W_drop, W_if, W_call, W_make, W_fld, W_ix, W_part, W_noPart, W_sl, W_itL, W_itT, W_itS, W_for, W_forNil, W_while, W_gset, W_gcons, W_gnil, W_par2, W_fzM, W_rf, W_ownA, W_setIx, WF_run, WF_ok, WF_arM, eq_self, setE_mk, List.map_cons, List.map_nil, List.length_cons, List.length_nil, List.replicate, List.cons_append, List.nil_append, List.append_nil, List.set_cons_zero, List.set_cons_succ, List.getElem?_cons_zero, List.getElem?_cons_succ, Nat.reduceAdd, Nat.reduceSub, Nat.sub_zero, if_true, if_false, Bool.false_eq_true, and_self, and_true, true_and, Int.reduceLT, Int.reduceLE, Nat.reduceLeDiff, Nat.reduceLT, decide_true, decide_false, Bool.not_true, Bool.not_false, addV_int, subV_int, negV_int, ltV_int, leV_int, gtV_int, geV_int, eqV_int, neV_int, eqV_str, neV_str, intV_int, intV_bl, lenV_fl, lenV_tup, listV_fl, tupleV_fl, ixS_fl, ixS_tup, enm_fl, tupV, lstV, szL, szl, addV_fl, W_ownIxM, W_appM, W_parVN, W_parNV, W_parNN, W_parVVN, minV_int, maxV_int, scI, W_selfM, WI_run, WI_end, WI_ok, Int.cast_ofNat_Int, Int.reduceBEq, Int.reduceBNe, beq_self_eq_true, Bool.not_eq_true, Bool.and_true, Bool.true_and, W_gtupM, W_opL, W_ownSet, W_meth, W_eqM, W_setFld, W_makeR, W_join, W_split, W_ifL, W_extM, W_itK, W_menu, ite_true, ite_false, List.set_set, hj]
end

theorem line_of_ok {n : Nat} (hn : n ≤ 200) (r : Row) (h : r.ok n) (Z : Ad) (μ : List SO) : fn_line_of Z [r.iv] μ = .ok (.str (tx (lineR r))) μ := by
  have hl : (lineR r).length ≤ 1000 := by have := line_len hn h; omega
  cases r with
  | text s =>
    have e : (Row.text s).iv = .tup [.str (tx [116, 101, 120, 116]), .str (tx s.cps.toList)] := by rw [← w_text, ← tx_of]; rfl
    rw [e]
    exact lineof_sign Z μ (by kernel_rfl) hl
  | line s =>
    have e : (Row.line s).iv = .tup [.str (tx [108, 105, 110, 101]), .str (tx s.cps.toList)] := by rw [← w_line, ← tx_of]; rfl
    rw [e]
    exact lineof_sign Z μ (by kernel_rfl) hl
  | hard =>
    have e : Row.hard.iv = .tup (.str (tx [104, 97, 114, 100]) :: ([] : List Nat).map nI) := by rw [← w_hard]; rfl
    rw [e]
    exact lineof_rest Z μ (by kernel_rfl) (by decide +kernel) (by simp) (by simp) (by simp)
  | cat q =>
    have e : (Row.cat q).iv = .tup [.str (tx [99, 97, 116]), .fl (q.map nI)] := by rw [← w_cat]; rfl
    rw [e]
    exact lineof_cat Z μ (by kernel_rfl) (by decide +kernel) (by simp) (parts_lt hn h) (by have := h.1; omega) w_cat
  | nest k q =>
    have e : (Row.nest k q).iv = .tup (.str (tx [110, 101, 115, 116]) :: [k, q].map nI) := by rw [← w_nest]; rfl
    rw [e]
    exact lineof_rest Z μ (by kernel_rfl) (by decide +kernel) (by simp) (by obtain ⟨h1, h2⟩ := h; intro v hv; simp at hv; rcases hv with rfl | rfl <;> omega) (by simp)
  | align q =>
    have e : (Row.align q).iv = .tup (.str (tx [97, 108, 105, 103, 110]) :: [q].map nI) := by rw [← w_align]; rfl
    rw [e]
    have h : q < n := h
    exact lineof_rest Z μ (by kernel_rfl) (by decide +kernel) (by simp) (by intro v hv; simp at hv; omega) (by simp)
  | group q =>
    have e : (Row.group q).iv = .tup (.str (tx [103, 114, 111, 117, 112]) :: [q].map nI) := by rw [← w_group]; rfl
    rw [e]
    have h : q < n := h
    exact lineof_rest Z μ (by kernel_rfl) (by decide +kernel) (by simp) (by intro v hv; simp at hv; omega) (by simp)
/-! ### the law's own lines -/
theorem in_sign {b : Bool} {w : List Nat} (h : inV' (.str (tx w)) (.tup [.str "text", .str "line"]) = some (.bl b)) : inV' (.str (tx w)) (.tup [.str (Str.ofString "text"), .str (Str.ofString "line")]) = some (.bl b) := h
section
variable (Z : Ad) (μ : List SO)
theorem lawline_sign {w sg : List Nat} (ht : inV' (.str (tx w)) (.tup [.str "text", .str "line"]) = some (.bl true)) (hl : (w ++ 32 :: sg).length ≤ 1000) : fn__law_line Z [.tup [.str (tx w), .str (tx sg)]] μ = .ok (.str (tx (w ++ 32 :: sg))) μ := by
  have a1 : addV (.str (tx w)) (.str (tx [32])) = some (.str (tx (w ++ [32]))) := addV_tx (by simp at hl ⊢; omega)
  have a2 : addV (.str (tx (w ++ [32]))) (.str (tx sg)) = some (.str (tx (w ++ 32 :: sg))) := by rw [addV_tx (by simp at hl ⊢; omega)]; simp
  apply of_WF
  unfold fn__law_line m__law_line
  simp (config := { failIfUnchanged := false, decide := false }) only [W_bind, W_pure, W_no, W_opt, W_nox, W_op, W_un, W_C, W_varM, W_tst, W_boolM, W_ifB, W_notT, W_andT, W_orT, W_ifE, W_andV, W_orV, W_notV, W_chain, W_nil, W_cons, W_ap, W_apL, W_fl, W_nx, W_brk, W_cnt, W_seq, W_set, W_own, W_ret, W_retN, W_drop, W_if, W_call, W_make, W_fld, W_ix, W_part, W_noPart, W_sl, W_itL, W_itT, W_itS, W_for, W_forNil, W_while, W_gset, W_gcons, W_gnil, W_par2, W_fzM, W_rf, W_ownA, W_setIx, WF_run, WF_ok, WF_arM, eq_self, setE_mk, List.map_cons, List.map_nil, List.length_cons, List.length_nil, List.replicate, List.cons_append, List.nil_append, List.append_nil, List.set_cons_zero, List.set_cons_succ, List.getElem?_cons_zero, List.getElem?_cons_succ, Nat.reduceAdd, Nat.reduceSub, Nat.sub_zero, if_true, if_false, Bool.false_eq_true, and_self, and_true, true_and, Int.reduceLT, Int.reduceLE, Nat.reduceLeDiff, Nat.reduceLT, decide_true, decide_false, Bool.not_true, Bool.not_false, addV_int, subV_int, negV_int, ltV_int, leV_int, gtV_int, geV_int, eqV_int, neV_int, eqV_str, neV_str, intV_int, intV_bl, lenV_fl, lenV_tup, listV_fl, tupleV_fl, ixS_fl, ixS_tup, enm_fl, tupV, lstV, szL, szl, addV_fl, W_ownIxM, W_appM, W_parVN, W_parNV, W_parNN, W_parVVN, minV_int, maxV_int, scI, W_selfM, WI_run, WI_end, WI_ok, Int.cast_ofNat_Int, Int.reduceBEq, Int.reduceBNe, beq_self_eq_true, Bool.not_eq_true, Bool.and_true, Bool.true_and, W_gtupM, W_opL, W_ownSet, W_meth, W_eqM, W_setFld, W_makeR, W_join, W_split, W_ifL, W_extM, W_itK, W_menu, ite_true, ite_false, List.set_set, at0, at1, ht, sp_cps', a1, a2]
theorem slV_tail {x : IV} {l : List IV} (h : l.length ≤ 100) : slV (.tup (x :: l)) (some 1) none = some (.tup l) := by
  unfold slV
  dsimp only
  congr 2
  unfold cutL
  have e1 : HT.sIx (x :: l).length 0 (some (1 : Int)) = 1 := by
    have := HT.sIx_nat (x :: l).length 0 1
    simp at this
    simpa using this
  rw [e1]
  simp [HT.sIx]
theorem lawline_cat {w vs : List Nat} (ht : inV' (.str (tx w)) (.tup [.str "text", .str "line"]) = some (.bl false)) (hc : (tx w == Str.ofString "cat") = true) (hww : w.length ≤ 10) (hv : ∀ v ∈ vs, v < 200) (hl : vs.length ≤ 100) :
    fn__law_line Z [.tup [.str (tx w), .fl (vs.map nI)]] μ = .ok (.str (tx (w ++ tailL vs))) μ := by
  have ws := wsum_dg hv
  have hj := joinV_tx (sep := [32]) (ys := w :: vs.map dg) (by unfold wSum at *; simp at *; omega)
  rw [joinL_tail, List.map_cons, List.map_map] at hj
  have hj : joinV (tx [32]) (.fl (.str (tx w) :: vs.map fun v => .str (tx (dg v)))) = some (.str (tx (w ++ tailL vs))) := hj
  apply of_WF
  unfold fn__law_line m__law_line
  simp (config := { failIfUnchanged := false, decide := false }) only [W_bind, W_pure, W_no, W_opt, W_nox, W_op, W_un, W_C, W_varM, W_tst, W_boolM, W_ifB, W_notT, W_andT, W_orT, W_ifE, W_andV, W_orV, W_notV, W_chain, W_nil, W_cons, W_ap, W_apL, W_fl, W_nx, W_brk, W_cnt, W_seq, W_set, W_own, W_ret, W_retN, W_drop, W_if, W_call, W_make, W_fld, W_ix, W_part, W_noPart, W_sl, W_itL, W_itT, W_itS, W_for, W_forNil, W_while, W_gset, W_gcons, W_gnil, W_par2, W_fzM, W_rf, W_ownA, W_setIx, WF_run, WF_ok, WF_arM, eq_self, setE_mk, List.map_cons, List.map_nil, List.length_cons, List.length_nil, List.replicate, List.cons_append, List.nil_append, List.append_nil, List.set_cons_zero, List.set_cons_succ, List.getElem?_cons_zero, List.getElem?_cons_succ, Nat.reduceAdd, Nat.reduceSub, Nat.sub_zero, if_true, if_false, Bool.false_eq_true, and_self, and_true, true_and, Int.reduceLT, Int.reduceLE, Nat.reduceLeDiff, Nat.reduceLT, decide_true, decide_false, Bool.not_true, Bool.not_false, addV_int, subV_int, negV_int, ltV_int, leV_int, gtV_int, geV_int, eqV_int, neV_int, eqV_str, neV_str, intV_int, intV_bl, lenV_fl, lenV_tup, listV_fl, tupleV_fl, ixS_fl, ixS_tup, enm_fl, tupV, lstV, szL, szl, addV_fl, W_ownIxM, W_appM, W_parVN, W_parNV, W_parNN, W_parVVN, minV_int, maxV_int, scI, W_selfM, WI_run, WI_end, WI_ok, Int.cast_ofNat_Int, Int.reduceBEq, Int.reduceBNe, beq_self_eq_true, Bool.not_eq_true, Bool.and_true, Bool.true_and, W_gtupM, W_opL, W_ownSet, W_meth, W_eqM, W_setFld, W_makeR, W_join, W_split, W_ifL, W_extM, W_itK, W_menu, ite_true, ite_false, List.set_set, at0, at1, ht, sp_cps', slV_tail, hc, W_forCons]
  refine W_compA nI (fun v => .str (tx (dg v))) vs ?_
  simp (config := { failIfUnchanged := false, decide := false }) only [W_bind, W_pure, W_no, W_opt, W_nox, W_op, W_un, W_C, W_varM, W_tst, W_boolM, W_ifB, W_notT, W_andT, W_orT, W_ifE, W_andV, W_orV, W_notV, W_chain, W_nil, W_cons, W_ap, W_apL, W_fl, W_nx, W_brk, W_cnt, W_seq, W_set, W_own, W_ret, W_retN, W_drop, W_if, W_call, W_make, W_fld, W_ix, W_part, W_noPart, W_sl, W_itL, W_itT, W_itS, W_for, W_forNil, W_while, W_gset, W_gcons, W_gnil, W_par2, W_fzM, W_rf, W_ownA, W_setIx, WF_run, WF_ok, WF_arM, eq_self, setE_mk, List.map_cons, List.map_nil, List.length_cons, List.length_nil, List.replicate, List.cons_append, List.nil_append, List.append_nil, List.set_cons_zero, List.set_cons_succ, List.getElem?_cons_zero, List.getElem?_cons_succ, Nat.reduceAdd, Nat.reduceSub, Nat.sub_zero, if_true, if_false, Bool.false_eq_true, and_self, and_true, true_and, Int.reduceLT, Int.reduceLE, Nat.reduceLeDiff, Nat.reduceLT, decide_true, decide_false, Bool.not_true, Bool.not_false, addV_int, subV_int, negV_int, ltV_int, leV_int, gtV_int, geV_int, eqV_int, neV_int, eqV_str, neV_str, intV_int, intV_bl, lenV_fl, lenV_tup, listV_fl, tupleV_fl, ixS_fl, ixS_tup, enm_fl, tupV, lstV, szL, szl, addV_fl, W_ownIxM, W_appM, W_parVN, W_parNV, W_parNN, W_parVVN, minV_int, maxV_int, scI, W_selfM, WI_run, WI_end, WI_ok, Int.cast_ofNat_Int, Int.reduceBEq, Int.reduceBNe, beq_self_eq_true, Bool.not_eq_true, Bool.and_true, Bool.true_and, W_gtupM, W_opL, W_ownSet, W_meth, W_eqM, W_setFld, W_makeR, W_join, W_split, W_ifL, W_extM, W_itK, W_menu, ite_true, ite_false, List.set_set]
  refine ⟨by omega, ?_, ?_⟩
  · intro v hvm
    apply of_W
    simp (config := { failIfUnchanged := false, decide := false }) only [W_bind, W_pure, W_no, W_opt, W_nox, W_op, W_un, W_C, W_varM, W_tst, W_boolM, W_ifB, W_notT, W_andT, W_orT, W_ifE, W_andV, W_orV, W_notV, W_chain, W_nil, W_cons, W_ap, W_apL, W_fl, W_nx, W_brk, W_cnt, W_seq, W_set, W_own, W_ret, W_retN, W_drop, W_if, W_call, W_make, W_fld, W_ix, W_part, W_noPart, W_sl, W_itL, W_itT, W_itS, W_for, W_forNil, W_while, W_gset, W_gcons, W_gnil, W_par2, W_fzM, W_rf, W_ownA, W_setIx, WF_run, WF_ok, WF_arM, eq_self, setE_mk, List.map_cons, List.map_nil, List.length_cons, List.length_nil, List.replicate, List.cons_append, List.nil_append, List.append_nil, List.set_cons_zero, List.set_cons_succ, List.getElem?_cons_zero, List.getElem?_cons_succ, Nat.reduceAdd, Nat.reduceSub, Nat.sub_zero, if_true, if_false, Bool.false_eq_true, and_self, and_true, true_and, Int.reduceLT, Int.reduceLE, Nat.reduceLeDiff, Nat.reduceLT, decide_true, decide_false, Bool.not_true, Bool.not_false, addV_int, subV_int, negV_int, ltV_int, leV_int, gtV_int, geV_int, eqV_int, neV_int, eqV_str, neV_str, intV_int, intV_bl, lenV_fl, lenV_tup, listV_fl, tupleV_fl, ixS_fl, ixS_tup, enm_fl, tupV, lstV, szL, szl, addV_fl, W_ownIxM, W_appM, W_parVN, W_parNV, W_parNN, W_parVVN, minV_int, maxV_int, scI, W_selfM, WI_run, WI_end, WI_ok, Int.cast_ofNat_Int, Int.reduceBEq, Int.reduceBNe, beq_self_eq_true, Bool.not_eq_true, Bool.and_true, Bool.true_and, W_gtupM, W_opL, W_ownSet, W_meth, W_eqM, W_setFld, W_makeR, W_join, W_split, W_ifL, W_extM, W_itK, W_menu, ite_true, ite_false, List.set_set, strV_nat (hv v hvm)]
  · simp (config := { failIfUnchanged := false, decide := false }) only [W_bind, W_pure, W_no, W_opt, W_nox, W_op, W_un, W_C, W_varM, W_tst, W_boolM, W_ifB, W_notT, W_andT, W_orT, W_ifE, W_andV, W_orV, W_notV, W_chain, W_nil, W_cons, W_ap, W_apL, W_fl, W_nx, W_brk, W_cnt, W_seq, W_set, W_own, W_ret, W_retN, W_drop, W_if, W_call, W_make, W_fld, W_ix, W_part, W_noPart, W_sl, W_itL, W_itT, W_itS, W_for, W_forNil, W_while, W_gset, W_gcons, W_gnil, W_par2, W_fzM, W_rf, W_ownA, W_setIx, WF_run, WF_ok, WF_arM, eq_self, setE_mk, List.map_cons, List.map_nil, List.length_cons, List.length_nil, List.replicate, List.cons_append, List.nil_append, List.append_nil, List.set_cons_zero, List.set_cons_succ, List.getElem?_cons_zero, List.getElem?_cons_succ, Nat.reduceAdd, Nat.reduceSub, Nat.sub_zero, if_true, if_false, Bool.false_eq_true, and_self, and_true, true_and, Int.reduceLT, Int.reduceLE, Nat.reduceLeDiff, Nat.reduceLT, decide_true, decide_false, Bool.not_true, Bool.not_false, addV_int, subV_int, negV_int, ltV_int, leV_int, gtV_int, geV_int, eqV_int, neV_int, eqV_str, neV_str, intV_int, intV_bl, lenV_fl, lenV_tup, listV_fl, tupleV_fl, ixS_fl, ixS_tup, enm_fl, tupV, lstV, szL, szl, addV_fl, W_ownIxM, W_appM, W_parVN, W_parNV, W_parNN, W_parVVN, minV_int, maxV_int, scI, W_selfM, WI_run, WI_end, WI_ok, Int.cast_ofNat_Int, Int.reduceBEq, Int.reduceBNe, beq_self_eq_true, Bool.not_eq_true, Bool.and_true, Bool.true_and, W_gtupM, W_opL, W_ownSet, W_meth, W_eqM, W_setFld, W_makeR, W_join, W_split, W_ifL, W_extM, W_itK, W_menu, ite_true, ite_false, List.set_set, List.length_map]
    rw [if_pos (by omega)]
    simp (config := { failIfUnchanged := false, decide := false }) only [W_bind, W_pure, W_no, W_opt, W_nox, W_op, W_un, W_C, W_varM, W_tst, W_boolM, W_ifB, W_notT, W_andT, W_orT, W_ifE, W_andV, W_orV, W_notV, W_chain, W_nil, W_cons, W_ap, W_apL, W_fl, W_nx, W_brk, W_cnt, W_seq, W_set, W_own, W_ret, W_retN, W_drop, W_if, W_call, W_make, W_fld, W_ix, W_part, W_noPart, W_sl, W_itL, W_itT, W_itS, W_for, W_forNil, W_while, W_gset, W_gcons, W_gnil, W_par2, W_fzM, W_rf, W_ownA, W_setIx, WF_run, WF_ok, WF_arM, eq_self, setE_mk, List.map_cons, List.map_nil, List.length_cons, List.length_nil, List.replicate, List.cons_append, List.nil_append, List.append_nil, List.set_cons_zero, List.set_cons_succ, List.getElem?_cons_zero, List.getElem?_cons_succ, Nat.reduceAdd, Nat.reduceSub, Nat.sub_zero, if_true, if_false, Bool.false_eq_true, and_self, and_true, true_and, Int.reduceLT, Int.reduceLE, Nat.reduceLeDiff, Nat.reduceLT, decide_true, decide_false, Bool.not_true, Bool.not_false, addV_int, subV_int, negV_int, ltV_int, leV_int, gtV_int, geV_int, eqV_int, neV_int, eqV_str, neV_str, intV_int, intV_bl, lenV_fl, lenV_tup, listV_fl, tupleV_fl, ixS_fl, ixS_tup, enm_fl, tupV, lstV, szL, szl, addV_fl, W_ownIxM, W_appM, W_parVN, W_parNV, W_parNN, W_parVVN, minV_int, maxV_int, scI, W_selfM, WI_run, WI_end, WI_ok, Int.cast_ofNat_Int, Int.reduceBEq, Int.reduceBNe, beq_self_eq_true, Bool.not_eq_true, Bool.and_true, Bool.true_and, W_gtupM, W_opL, W_ownSet, W_meth, W_eqM, W_setFld, W_makeR, W_join, W_split, W_ifL, W_extM, W_itK, W_menu, ite_true, ite_false, List.set_set, W_forNil, hj]
theorem lawline_rest {w vs : List Nat} (ht : inV' (.str (tx w)) (.tup [.str "text", .str "line"]) = some (.bl false)) (hc : (tx w == Str.ofString "cat") = false) (hww : w.length ≤ 10) (hv : ∀ v ∈ vs, v < 200) (hl : vs.length ≤ 50) :
    fn__law_line Z [.tup (.str (tx w) :: vs.map nI)] μ = .ok (.str (tx (w ++ tailL vs))) μ := by
  have ws := wsum_dg hv
  have hj := joinV_tx (sep := [32]) (ys := w :: vs.map dg) (by unfold wSum at *; simp at *; omega)
  rw [joinL_tail, List.map_cons, List.map_map] at hj
  have hj : joinV (tx [32]) (.fl (.str (tx w) :: vs.map fun v => .str (tx (dg v)))) = some (.str (tx (w ++ tailL vs))) := hj
  have hz : (vs.map nI).length ≤ 100 := by simp; omega
  apply of_WF
  unfold fn__law_line m__law_line
  simp (config := { failIfUnchanged := false, decide := false }) only [W_bind, W_pure, W_no, W_opt, W_nox, W_op, W_un, W_C, W_varM, W_tst, W_boolM, W_ifB, W_notT, W_andT, W_orT, W_ifE, W_andV, W_orV, W_notV, W_chain, W_nil, W_cons, W_ap, W_apL, W_fl, W_nx, W_brk, W_cnt, W_seq, W_set, W_own, W_ret, W_retN, W_drop, W_if, W_call, W_make, W_fld, W_ix, W_part, W_noPart, W_sl, W_itL, W_itT, W_itS, W_for, W_forNil, W_while, W_gset, W_gcons, W_gnil, W_par2, W_fzM, W_rf, W_ownA, W_setIx, WF_run, WF_ok, WF_arM, eq_self, setE_mk, List.map_cons, List.map_nil, List.length_cons, List.length_nil, List.replicate, List.cons_append, List.nil_append, List.append_nil, List.set_cons_zero, List.set_cons_succ, List.getElem?_cons_zero, List.getElem?_cons_succ, Nat.reduceAdd, Nat.reduceSub, Nat.sub_zero, if_true, if_false, Bool.false_eq_true, and_self, and_true, true_and, Int.reduceLT, Int.reduceLE, Nat.reduceLeDiff, Nat.reduceLT, decide_true, decide_false, Bool.not_true, Bool.not_false, addV_int, subV_int, negV_int, ltV_int, leV_int, gtV_int, geV_int, eqV_int, neV_int, eqV_str, neV_str, intV_int, intV_bl, lenV_fl, lenV_tup, listV_fl, tupleV_fl, ixS_fl, ixS_tup, enm_fl, tupV, lstV, szL, szl, addV_fl, W_ownIxM, W_appM, W_parVN, W_parNV, W_parNN, W_parVVN, minV_int, maxV_int, scI, W_selfM, WI_run, WI_end, WI_ok, Int.cast_ofNat_Int, Int.reduceBEq, Int.reduceBNe, beq_self_eq_true, Bool.not_eq_true, Bool.and_true, Bool.true_and, W_gtupM, W_opL, W_ownSet, W_meth, W_eqM, W_setFld, W_makeR, W_join, W_split, W_ifL, W_extM, W_itK, W_menu, ite_true, ite_false, List.set_set, at0, ht, sp_cps', slV_tail hz]
  refine W_forI (fun k s => ∃ x y, s = ⟨[.val (.tup (.str (tx w) :: vs.map nI)), .own (.str (tx w) :: (vs.take k).map fun v => .str (tx (dg v))), x, y], μ⟩) _ 0 _ ⟨_, _, rfl⟩ ?_ ?_
  · rintro k x s hk ⟨x0, y0, rfl⟩
    obtain ⟨v, hvk, rfl⟩ := map_at hk
    rw [show 0 + k = k from by omega]
    have hlk : (vs.take k).length ≤ 50 := by rw [List.length_take]; omega
    simp (config := { failIfUnchanged := false, decide := false }) only [W_bind, W_pure, W_no, W_opt, W_nox, W_op, W_un, W_C, W_varM, W_tst, W_boolM, W_ifB, W_notT, W_andT, W_orT, W_ifE, W_andV, W_orV, W_notV, W_chain, W_nil, W_cons, W_ap, W_apL, W_fl, W_nx, W_brk, W_cnt, W_seq, W_set, W_own, W_ret, W_retN, W_drop, W_if, W_call, W_make, W_fld, W_ix, W_part, W_noPart, W_sl, W_itL, W_itT, W_itS, W_for, W_forNil, W_while, W_gset, W_gcons, W_gnil, W_par2, W_fzM, W_rf, W_ownA, W_setIx, WF_run, WF_ok, WF_arM, eq_self, setE_mk, List.map_cons, List.map_nil, List.length_cons, List.length_nil, List.replicate, List.cons_append, List.nil_append, List.append_nil, List.set_cons_zero, List.set_cons_succ, List.getElem?_cons_zero, List.getElem?_cons_succ, Nat.reduceAdd, Nat.reduceSub, Nat.sub_zero, if_true, if_false, Bool.false_eq_true, and_self, and_true, true_and, Int.reduceLT, Int.reduceLE, Nat.reduceLeDiff, Nat.reduceLT, decide_true, decide_false, Bool.not_true, Bool.not_false, addV_int, subV_int, negV_int, ltV_int, leV_int, gtV_int, geV_int, eqV_int, neV_int, eqV_str, neV_str, intV_int, intV_bl, lenV_fl, lenV_tup, listV_fl, tupleV_fl, ixS_fl, ixS_tup, enm_fl, tupV, lstV, szL, szl, addV_fl, W_ownIxM, W_appM, W_parVN, W_parNV, W_parNN, W_parVVN, minV_int, maxV_int, scI, W_selfM, WI_run, WI_end, WI_ok, Int.cast_ofNat_Int, Int.reduceBEq, Int.reduceBNe, beq_self_eq_true, Bool.not_eq_true, Bool.and_true, Bool.true_and, W_gtupM, W_opL, W_ownSet, W_meth, W_eqM, W_setFld, W_makeR, W_join, W_split, W_ifL, W_extM, W_itK, W_menu, ite_true, ite_false, List.set_set, at0, hc, strV_nat (hv v (List.mem_of_getElem? hvk)), List.length_map]
    rw [if_pos (by omega)]
    refine ⟨.inl trivial, .val (nI v), y0, ?_⟩
    rw [take_succ_of hvk, List.map_append]
    rfl
  · rintro s ⟨x, y, rfl⟩
    rw [show 0 + (vs.map nI).length = vs.length from by simp, List.take_length]
    simp (config := { failIfUnchanged := false, decide := false }) only [W_bind, W_pure, W_no, W_opt, W_nox, W_op, W_un, W_C, W_varM, W_tst, W_boolM, W_ifB, W_notT, W_andT, W_orT, W_ifE, W_andV, W_orV, W_notV, W_chain, W_nil, W_cons, W_ap, W_apL, W_fl, W_nx, W_brk, W_cnt, W_seq, W_set, W_own, W_ret, W_retN, W_drop, W_if, W_call, W_make, W_fld, W_ix, W_part, W_noPart, W_sl, W_itL, W_itT, W_itS, W_for, W_forNil, W_while, W_gset, W_gcons, W_gnil, W_par2, W_fzM, W_rf, W_ownA, W_setIx, WF_run, WF_ok, WF_arM, eq_self, setE_mk, List.map_cons, List.map_nil, List.length_cons, List.length_nil, List.replicate, List.cons_append, List.nil_append, List.append_nil, List.set_cons_zero, List.set_cons_succ, List.getElem?_cons_zero, List.getElem?_cons_succ, Nat.reduceAdd, Nat.reduceSub, Nat.sub_zero, if_true, if_false, Bool.false_eq_true, and_self, and_true, true_and, Int.reduceLT, Int.reduceLE, Nat.reduceLeDiff, Nat.reduceLT, decide_true, decide_false, Bool.not_true, Bool.not_false, addV_int, subV_int, negV_int, ltV_int, leV_int, gtV_int, geV_int, eqV_int, neV_int, eqV_str, neV_str, intV_int, intV_bl, lenV_fl, lenV_tup, listV_fl, tupleV_fl, ixS_fl, ixS_tup, enm_fl, tupV, lstV, szL, szl, addV_fl, W_ownIxM, W_appM, W_parVN, W_parNV, W_parNN, W_parVVN, minV_int, maxV_int, scI, W_selfM, WI_run, WI_end, WI_ok, Int.cast_ofNat_Int, Int.reduceBEq, Int.reduceBNe, beq_self_eq_true, Bool.not_eq_true, Bool.and_true, Bool.true_and, W_gtupM, W_opL, W_ownSet, W_meth, W_eqM, W_setFld, W_makeR, W_join, W_split, W_ifL, W_extM, W_itK, W_menu, ite_true, ite_false, List.set_set, hj]
end
theorem law_line_ok {n : Nat} (hn : n ≤ 200) (r : Row) (h : r.ok n) (Z : Ad) (μ : List SO) : fn__law_line Z [r.iv] μ = .ok (.str (tx (lineR r))) μ := by
  have hl : (lineR r).length ≤ 1000 := by have := line_len hn h; omega
  cases r with
  | text s =>
    have e : (Row.text s).iv = .tup [.str (tx [116, 101, 120, 116]), .str (tx s.cps.toList)] := by rw [← w_text, ← tx_of]; rfl
    rw [e]
    exact lawline_sign Z μ (by kernel_rfl) hl
  | line s =>
    have e : (Row.line s).iv = .tup [.str (tx [108, 105, 110, 101]), .str (tx s.cps.toList)] := by rw [← w_line, ← tx_of]; rfl
    rw [e]
    exact lawline_sign Z μ (by kernel_rfl) hl
  | hard =>
    have e : Row.hard.iv = .tup (.str (tx [104, 97, 114, 100]) :: ([] : List Nat).map nI) := by rw [← w_hard]; rfl
    rw [e]
    exact lawline_rest Z μ (by kernel_rfl) (by decide +kernel) (by simp) (by simp) (by simp)
  | cat q =>
    have e : (Row.cat q).iv = .tup [.str (tx [99, 97, 116]), .fl (q.map nI)] := by rw [← w_cat]; rfl
    rw [e]
    exact lawline_cat Z μ (by kernel_rfl) (by decide +kernel) (by simp) (parts_lt hn h) (by have := h.1; omega)
  | nest k q =>
    have e : (Row.nest k q).iv = .tup (.str (tx [110, 101, 115, 116]) :: [k, q].map nI) := by rw [← w_nest]; rfl
    rw [e]
    exact lawline_rest Z μ (by kernel_rfl) (by decide +kernel) (by simp) (by obtain ⟨h1, h2⟩ := h; intro v hv; simp at hv; rcases hv with rfl | rfl <;> omega) (by simp)
  | align q =>
    have e : (Row.align q).iv = .tup (.str (tx [97, 108, 105, 103, 110]) :: [q].map nI) := by rw [← w_align]; rfl
    rw [e]
    have h : q < n := h
    exact lawline_rest Z μ (by kernel_rfl) (by decide +kernel) (by simp) (by intro v hv; simp at hv; omega) (by simp)
  | group q =>
    have e : (Row.group q).iv = .tup (.str (tx [103, 114, 111, 117, 112]) :: [q].map nI) := by rw [← w_group]; rfl
    rw [e]
    have h : q < n := h
    exact lawline_rest Z μ (by kernel_rfl) (by decide +kernel) (by simp) (by intro v hv; simp at hv; omega) (by simp)
end Lw
set_option Elab.async false
set_option linter.all false
set_option maxRecDepth 100000
set_option maxHeartbeats 2000000
namespace Lw
open PySem L2 Mi
/-! ### lines are found again -/
theorem lines_free {n : Nat} (hn : n ≤ 200) (r : Row) (h : r.ok n) : 10 ∉ lineR r := by
  have ht : ∀ vs : List Nat, (∀ v ∈ vs, v < 200) → 10 ∉ tailL vs := by
    intro vs
    induction vs with
    | nil => intro _; simp [tailL]
    | cons v vs ih =>
      intro hv
      rw [tailL_cons]
      have h1 := ih fun v hm => hv v (List.mem_cons_of_mem _ hm)
      have h2 : 10 ∉ dg v := fun z => by have := (dg_is (hv v (List.mem_cons_self ..))).dig 10 z; omega
      simp [h1, h2]
  cases r with
  | text s => have := h.2; simp only [lineR]; intro z; simp at z; have := this 10 (by simpa using z); omega
  | line s => have := h.2; simp only [lineR]; intro z; simp at z; have := this 10 (by simpa using z); omega
  | hard => decide
  | cat q => have := ht q (parts_lt hn h); simp only [lineR]; simp [this]
  | nest k q => have := ht [k, q] (by obtain ⟨h1, h2⟩ := h; intro v hv; simp at hv; rcases hv with rfl | rfl <;> omega); simp only [lineR]; simp [this]
  | align q => have h : q < n := h; have := ht [q] (by intro v hv; simp at hv; omega); simp only [lineR]; simp [this]
  | group q => have h : q < n := h; have := ht [q] (by intro v hv; simp at hv; omega); simp only [lineR]; simp [this]
/-- texts joined by a sign that none of them has come from one list alone -/
theorem joinL_cons {c : Nat} {x : List Nat} {r : List (List Nat)} (h : r ≠ []) : joinL [c] (x :: r) = x ++ c :: joinL [c] r := by
  cases r with
  | nil => exact absurd rfl h
  | cons y r => show x ++ [c] ++ joinL [c] (y :: r) = _; simp
theorem split_free {c : Nat} : ∀ {a b u v : List Nat}, c ∉ a → c ∉ b → a ++ c :: u = b ++ c :: v → a = b ∧ u = v
  | [], [], u, v, _, _, e => by simp at e; exact ⟨rfl, e⟩
  | [], y :: b, u, v, _, hb, e => by simp at e; exact absurd e.1 (by intro z; exact hb (by simp [z]))
  | x :: a, [], u, v, ha, _, e => by simp at e; exact absurd e.1 (by intro z; exact ha (by simp [z]))
  | x :: a, y :: b, u, v, ha, hb, e => by
    simp at e ha hb
    obtain ⟨h1, h2⟩ := split_free ha.2 hb.2 e.2
    exact ⟨by rw [e.1, h1], h2⟩
theorem joinL_inj {c : Nat} : ∀ {xs ys : List (List Nat)}, xs ≠ [] → ys ≠ [] → (∀ x ∈ xs, c ∉ x) → (∀ y ∈ ys, c ∉ y) → joinL [c] xs = joinL [c] ys → xs = ys
  | [], _, h, _, _, _, _ => absurd rfl h
  | _, [], _, h, _, _, _ => absurd rfl h
  | [x], [y], _, _, _, _, e => by simp [joinL] at e; rw [e]
  | [x], y :: y2 :: r, _, _, hx, _, e => by
    rw [joinL_cons (x := y) (r := y2 :: r) (by simp)] at e
    have e : x = y ++ c :: joinL [c] (y2 :: r) := e
    exact absurd (show c ∈ x by rw [e]; simp) (hx x (by simp))
  | x :: x2 :: r, [y], _, _, _, hy, e => by
    rw [joinL_cons (x := x) (r := x2 :: r) (by simp)] at e
    have e : x ++ c :: joinL [c] (x2 :: r) = y := e
    exact absurd (show c ∈ y by rw [← e]; simp) (hy y (by simp))
  | x :: x2 :: r, y :: y2 :: q, _, _, hx, hy, e => by
    rw [joinL_cons (x := x) (r := x2 :: r) (by simp), joinL_cons (x := y) (r := y2 :: q) (by simp)] at e
    obtain ⟨h1, h2⟩ := split_free (hx x (by simp)) (hy y (by simp)) e
    have := joinL_inj (by simp) (by simp) (fun z hz => hx z (List.mem_cons_of_mem _ hz)) (fun z hz => hy z (List.mem_cons_of_mem _ hz)) h2
    rw [h1, this]
theorem split_joined {xs : List (List Nat)} (h0 : xs ≠ []) (h : ∀ x ∈ xs, 10 ∉ x) : Txt.split (tx (joinL [10] xs)) ⟨#[10]⟩ = xs.map tx := by
  have h1 := StrLaws.join_split (tx (joinL [10] xs)) ⟨#[10]⟩
  have h2 := StrLaws.split_free (tx (joinL [10] xs)) 10
  have h3 := PyProof.Rows.split_pos (tx (joinL [10] xs)) ⟨#[10]⟩
  generalize Txt.split (tx (joinL [10] xs)) ⟨#[10]⟩ = ps at h1 h2 h3
  have e : ps = (ps.map fun z => z.cps.toList).map tx := by
    rw [List.map_map]
    conv => lhs; rw [← List.map_id ps]
    exact List.map_congr_left fun z _ => tx_of z
  have e10 : (⟨#[10]⟩ : Str) = tx [10] := rfl
  rw [e10] at h1
  rw [e] at h1
  rw [join_tx] at h1
  have h4 := joinL_inj (by intro z; rw [List.map_eq_nil_iff] at z; rw [z] at h3; simp at h3) h0 (fun x hx => by obtain ⟨z, hz, rfl⟩ := List.mem_map.mp hx; exact h2 z hz) h (tx_inj.mp h1)
  rw [e, h4]
/-! ### documents by texts -/
abbrev textR (rs : List Row) : List Nat := joinL [10] (rs.map lineR)
theorem wsum_lines {rs : List Row} (h : RowsOk rs) (h2 : rs.length ≤ 200) : wSum (rs.map lineR) ≤ 60 * rs.length := by
  have : ∀ l : List (List Nat), (∀ x ∈ l, x.length ≤ 60) → wSum l ≤ 60 * l.length := by
    intro l
    induction l with
    | nil => intro _; simp [wSum]
    | cons x l ih =>
      intro hx
      have := hx x (List.mem_cons_self ..)
      have := ih fun y hy => hx y (List.mem_cons_of_mem _ hy)
      unfold wSum at *
      simp at *
      omega
  have := this (rs.map lineR) fun x hx => by
    obtain ⟨r, hr, rfl⟩ := List.mem_map.mp hx
    obtain ⟨k, hk⟩ := List.mem_iff_getElem?.mp hr
    have hkl := (List.getElem?_eq_some_iff.mp hk).1
    exact line_len (n := k) (by omega) (h k r hk)
  simpa using this
theorem nl_cps : Str.ofString "\n" = tx [10] := by decide +kernel
theorem mem_ok {rs : List Row} (h : RowsOk rs) (h2 : rs.length ≤ 200) {r : Row} (hr : r ∈ rs) : ∃ n, n < 200 ∧ r.ok n := by
  obtain ⟨k, hk⟩ := List.mem_iff_getElem?.mp hr
  have hkl := (List.getElem?_eq_some_iff.mp hk).1
  exact ⟨k, by omega, h k r hk⟩
theorem join_lines {rs : List Row} (h : RowsOk rs) (h2 : rs.length ≤ 200) : joinV (tx [10]) (.fl (rs.map fun r => .str (tx (lineR r)))) = some (.str (tx (textR rs))) := by
  have ws := wsum_lines h h2
  have := joinV_tx (sep := [10]) (ys := rs.map lineR) (by simp; omega)
  rw [List.map_map] at this
  exact this
theorem doc_text_ok (Z : Ad) (rs : List Row) (h : RowsOk rs) (h2 : rs.length ≤ 200) (μ : List SO) : fn_doc_text Z [docV Z rs] μ = .ok (.str (tx (textR rs))) μ := by
  apply of_WF
  unfold fn_doc_text m_doc_text
  simp (config := { failIfUnchanged := false, decide := false }) only [W_bind, W_pure, W_no, W_opt, W_nox, W_op, W_un, W_C, W_varM, W_tst, W_boolM, W_ifB, W_notT, W_andT, W_orT, W_ifE, W_andV, W_orV, W_notV, W_chain, W_nil, W_cons, W_ap, W_apL, W_fl, W_nx, W_brk, W_cnt, W_seq, W_set, W_own, W_ret, W_retN, W_drop, W_if, W_call, W_make, W_fld, W_ix, W_part, W_noPart, W_sl, W_itL, W_itT, W_itS, W_for, W_forNil, W_while, W_gset, W_gcons, W_gnil, W_par2, W_fzM, W_rf, W_ownA, W_setIx, WF_run, WF_ok, WF_arM, eq_self, setE_mk, List.map_cons, List.map_nil, List.length_cons, List.length_nil, List.replicate, List.cons_append, List.nil_append, List.append_nil, List.set_cons_zero, List.set_cons_succ, List.getElem?_cons_zero, List.getElem?_cons_succ, Nat.reduceAdd, Nat.reduceSub, Nat.sub_zero, if_true, if_false, Bool.false_eq_true, and_self, and_true, true_and, Int.reduceLT, Int.reduceLE, Nat.reduceLeDiff, Nat.reduceLT, decide_true, decide_false, Bool.not_true, Bool.not_false, addV_int, subV_int, negV_int, ltV_int, leV_int, gtV_int, geV_int, eqV_int, neV_int, eqV_str, neV_str, intV_int, intV_bl, lenV_fl, lenV_tup, listV_fl, tupleV_fl, ixS_fl, ixS_tup, enm_fl, tupV, lstV, szL, szl, addV_fl, W_ownIxM, W_appM, W_parVN, W_parNV, W_parNN, W_parVVN, minV_int, maxV_int, scI, W_selfM, WI_run, WI_end, WI_ok, Int.cast_ofNat_Int, Int.reduceBEq, Int.reduceBNe, beq_self_eq_true, Bool.not_eq_true, Bool.and_true, Bool.true_and, W_gtupM, W_opL, W_ownSet, W_meth, W_eqM, W_setFld, W_makeR, W_join, W_split, W_ifL, W_extM, W_itK, W_menu, ite_true, ite_false, List.set_set, check_ok, nl_cps]
  refine W_compA Row.iv (fun r => .str (tx (lineR r))) rs ?_
  simp (config := { failIfUnchanged := false, decide := false }) only [W_bind, W_pure, W_no, W_opt, W_nox, W_op, W_un, W_C, W_varM, W_tst, W_boolM, W_ifB, W_notT, W_andT, W_orT, W_ifE, W_andV, W_orV, W_notV, W_chain, W_nil, W_cons, W_ap, W_apL, W_fl, W_nx, W_brk, W_cnt, W_seq, W_set, W_own, W_ret, W_retN, W_drop, W_if, W_call, W_make, W_fld, W_ix, W_part, W_noPart, W_sl, W_itL, W_itT, W_itS, W_for, W_forNil, W_while, W_gset, W_gcons, W_gnil, W_par2, W_fzM, W_rf, W_ownA, W_setIx, WF_run, WF_ok, WF_arM, eq_self, setE_mk, List.map_cons, List.map_nil, List.length_cons, List.length_nil, List.replicate, List.cons_append, List.nil_append, List.append_nil, List.set_cons_zero, List.set_cons_succ, List.getElem?_cons_zero, List.getElem?_cons_succ, Nat.reduceAdd, Nat.reduceSub, Nat.sub_zero, if_true, if_false, Bool.false_eq_true, and_self, and_true, true_and, Int.reduceLT, Int.reduceLE, Nat.reduceLeDiff, Nat.reduceLT, decide_true, decide_false, Bool.not_true, Bool.not_false, addV_int, subV_int, negV_int, ltV_int, leV_int, gtV_int, geV_int, eqV_int, neV_int, eqV_str, neV_str, intV_int, intV_bl, lenV_fl, lenV_tup, listV_fl, tupleV_fl, ixS_fl, ixS_tup, enm_fl, tupV, lstV, szL, szl, addV_fl, W_ownIxM, W_appM, W_parVN, W_parNV, W_parNN, W_parVVN, minV_int, maxV_int, scI, W_selfM, WI_run, WI_end, WI_ok, Int.cast_ofNat_Int, Int.reduceBEq, Int.reduceBNe, beq_self_eq_true, Bool.not_eq_true, Bool.and_true, Bool.true_and, W_gtupM, W_opL, W_ownSet, W_meth, W_eqM, W_setFld, W_makeR, W_join, W_split, W_ifL, W_extM, W_itK, W_menu, ite_true, ite_false, List.set_set, fld_rows]
  refine ⟨by omega, ?_, ?_⟩
  · intro r hr
    obtain ⟨n, hn, ho⟩ := mem_ok h h2 hr
    apply of_W
    simp (config := { failIfUnchanged := false, decide := false }) only [W_bind, W_pure, W_no, W_opt, W_nox, W_op, W_un, W_C, W_varM, W_tst, W_boolM, W_ifB, W_notT, W_andT, W_orT, W_ifE, W_andV, W_orV, W_notV, W_chain, W_nil, W_cons, W_ap, W_apL, W_fl, W_nx, W_brk, W_cnt, W_seq, W_set, W_own, W_ret, W_retN, W_drop, W_if, W_call, W_make, W_fld, W_ix, W_part, W_noPart, W_sl, W_itL, W_itT, W_itS, W_for, W_forNil, W_while, W_gset, W_gcons, W_gnil, W_par2, W_fzM, W_rf, W_ownA, W_setIx, WF_run, WF_ok, WF_arM, eq_self, setE_mk, List.map_cons, List.map_nil, List.length_cons, List.length_nil, List.replicate, List.cons_append, List.nil_append, List.append_nil, List.set_cons_zero, List.set_cons_succ, List.getElem?_cons_zero, List.getElem?_cons_succ, Nat.reduceAdd, Nat.reduceSub, Nat.sub_zero, if_true, if_false, Bool.false_eq_true, and_self, and_true, true_and, Int.reduceLT, Int.reduceLE, Nat.reduceLeDiff, Nat.reduceLT, decide_true, decide_false, Bool.not_true, Bool.not_false, addV_int, subV_int, negV_int, ltV_int, leV_int, gtV_int, geV_int, eqV_int, neV_int, eqV_str, neV_str, intV_int, intV_bl, lenV_fl, lenV_tup, listV_fl, tupleV_fl, ixS_fl, ixS_tup, enm_fl, tupV, lstV, szL, szl, addV_fl, W_ownIxM, W_appM, W_parVN, W_parNV, W_parNN, W_parVVN, minV_int, maxV_int, scI, W_selfM, WI_run, WI_end, WI_ok, Int.cast_ofNat_Int, Int.reduceBEq, Int.reduceBNe, beq_self_eq_true, Bool.not_eq_true, Bool.and_true, Bool.true_and, W_gtupM, W_opL, W_ownSet, W_meth, W_eqM, W_setFld, W_makeR, W_join, W_split, W_ifL, W_extM, W_itK, W_menu, ite_true, ite_false, List.set_set, line_of_ok (Nat.le_of_lt hn) r ho]
  · simp (config := { failIfUnchanged := false, decide := false }) only [W_bind, W_pure, W_no, W_opt, W_nox, W_op, W_un, W_C, W_varM, W_tst, W_boolM, W_ifB, W_notT, W_andT, W_orT, W_ifE, W_andV, W_orV, W_notV, W_chain, W_nil, W_cons, W_ap, W_apL, W_fl, W_nx, W_brk, W_cnt, W_seq, W_set, W_own, W_ret, W_retN, W_drop, W_if, W_call, W_make, W_fld, W_ix, W_part, W_noPart, W_sl, W_itL, W_itT, W_itS, W_for, W_forNil, W_while, W_gset, W_gcons, W_gnil, W_par2, W_fzM, W_rf, W_ownA, W_setIx, WF_run, WF_ok, WF_arM, eq_self, setE_mk, List.map_cons, List.map_nil, List.length_cons, List.length_nil, List.replicate, List.cons_append, List.nil_append, List.append_nil, List.set_cons_zero, List.set_cons_succ, List.getElem?_cons_zero, List.getElem?_cons_succ, Nat.reduceAdd, Nat.reduceSub, Nat.sub_zero, if_true, if_false, Bool.false_eq_true, and_self, and_true, true_and, Int.reduceLT, Int.reduceLE, Nat.reduceLeDiff, Nat.reduceLT, decide_true, decide_false, Bool.not_true, Bool.not_false, addV_int, subV_int, negV_int, ltV_int, leV_int, gtV_int, geV_int, eqV_int, neV_int, eqV_str, neV_str, intV_int, intV_bl, lenV_fl, lenV_tup, listV_fl, tupleV_fl, ixS_fl, ixS_tup, enm_fl, tupV, lstV, szL, szl, addV_fl, W_ownIxM, W_appM, W_parVN, W_parNV, W_parNN, W_parVVN, minV_int, maxV_int, scI, W_selfM, WI_run, WI_end, WI_ok, Int.cast_ofNat_Int, Int.reduceBEq, Int.reduceBNe, beq_self_eq_true, Bool.not_eq_true, Bool.and_true, Bool.true_and, W_gtupM, W_opL, W_ownSet, W_meth, W_eqM, W_setFld, W_makeR, W_join, W_split, W_ifL, W_extM, W_itK, W_menu, ite_true, ite_false, List.set_set, join_lines h h2]
theorem row_list_ok (Z : Ad) (rs : List Row) (h2 : rs.length ≤ 200) (μ : List SO) : fn_Doc_row_list Z [docV Z rs] μ = .ok (rowsV rs) μ := by
  apply of_WF
  unfold fn_Doc_row_list m_Doc_row_list
  simp (config := { failIfUnchanged := false, decide := false }) only [W_bind, W_pure, W_no, W_opt, W_nox, W_op, W_un, W_C, W_varM, W_tst, W_boolM, W_ifB, W_notT, W_andT, W_orT, W_ifE, W_andV, W_orV, W_notV, W_chain, W_nil, W_cons, W_ap, W_apL, W_fl, W_nx, W_brk, W_cnt, W_seq, W_set, W_own, W_ret, W_retN, W_drop, W_if, W_call, W_make, W_fld, W_ix, W_part, W_noPart, W_sl, W_itL, W_itT, W_itS, W_for, W_forNil, W_while, W_gset, W_gcons, W_gnil, W_par2, W_fzM, W_rf, W_ownA, W_setIx, WF_run, WF_ok, WF_arM, eq_self, setE_mk, List.map_cons, List.map_nil, List.length_cons, List.length_nil, List.replicate, List.cons_append, List.nil_append, List.append_nil, List.set_cons_zero, List.set_cons_succ, List.getElem?_cons_zero, List.getElem?_cons_succ, Nat.reduceAdd, Nat.reduceSub, Nat.sub_zero, if_true, if_false, Bool.false_eq_true, and_self, and_true, true_and, Int.reduceLT, Int.reduceLE, Nat.reduceLeDiff, Nat.reduceLT, decide_true, decide_false, Bool.not_true, Bool.not_false, addV_int, subV_int, negV_int, ltV_int, leV_int, gtV_int, geV_int, eqV_int, neV_int, eqV_str, neV_str, intV_int, intV_bl, lenV_fl, lenV_tup, listV_fl, tupleV_fl, ixS_fl, ixS_tup, enm_fl, tupV, lstV, szL, szl, addV_fl, W_ownIxM, W_appM, W_parVN, W_parNV, W_parNN, W_parVVN, minV_int, maxV_int, scI, W_selfM, WI_run, WI_end, WI_ok, Int.cast_ofNat_Int, Int.reduceBEq, Int.reduceBNe, beq_self_eq_true, Bool.not_eq_true, Bool.and_true, Bool.true_and, W_gtupM, W_opL, W_ownSet, W_meth, W_eqM, W_setFld, W_makeR, W_join, W_split, W_ifL, W_extM, W_itK, W_menu, ite_true, ite_false, List.set_set]
  refine W_compA Row.iv Row.iv rs ?_
  simp (config := { failIfUnchanged := false, decide := false }) only [W_bind, W_pure, W_no, W_opt, W_nox, W_op, W_un, W_C, W_varM, W_tst, W_boolM, W_ifB, W_notT, W_andT, W_orT, W_ifE, W_andV, W_orV, W_notV, W_chain, W_nil, W_cons, W_ap, W_apL, W_fl, W_nx, W_brk, W_cnt, W_seq, W_set, W_own, W_ret, W_retN, W_drop, W_if, W_call, W_make, W_fld, W_ix, W_part, W_noPart, W_sl, W_itL, W_itT, W_itS, W_for, W_forNil, W_while, W_gset, W_gcons, W_gnil, W_par2, W_fzM, W_rf, W_ownA, W_setIx, WF_run, WF_ok, WF_arM, eq_self, setE_mk, List.map_cons, List.map_nil, List.length_cons, List.length_nil, List.replicate, List.cons_append, List.nil_append, List.append_nil, List.set_cons_zero, List.set_cons_succ, List.getElem?_cons_zero, List.getElem?_cons_succ, Nat.reduceAdd, Nat.reduceSub, Nat.sub_zero, if_true, if_false, Bool.false_eq_true, and_self, and_true, true_and, Int.reduceLT, Int.reduceLE, Nat.reduceLeDiff, Nat.reduceLT, decide_true, decide_false, Bool.not_true, Bool.not_false, addV_int, subV_int, negV_int, ltV_int, leV_int, gtV_int, geV_int, eqV_int, neV_int, eqV_str, neV_str, intV_int, intV_bl, lenV_fl, lenV_tup, listV_fl, tupleV_fl, ixS_fl, ixS_tup, enm_fl, tupV, lstV, szL, szl, addV_fl, W_ownIxM, W_appM, W_parVN, W_parNV, W_parNN, W_parVVN, minV_int, maxV_int, scI, W_selfM, WI_run, WI_end, WI_ok, Int.cast_ofNat_Int, Int.reduceBEq, Int.reduceBNe, beq_self_eq_true, Bool.not_eq_true, Bool.and_true, Bool.true_and, W_gtupM, W_opL, W_ownSet, W_meth, W_eqM, W_setFld, W_makeR, W_join, W_split, W_ifL, W_extM, W_itK, W_menu, ite_true, ite_false, List.set_set, fld_rows]
  refine ⟨by omega, ?_⟩
  intro r hr
  apply of_W
  simp (config := { failIfUnchanged := false, decide := false }) only [W_bind, W_pure, W_no, W_opt, W_nox, W_op, W_un, W_C, W_varM, W_tst, W_boolM, W_ifB, W_notT, W_andT, W_orT, W_ifE, W_andV, W_orV, W_notV, W_chain, W_nil, W_cons, W_ap, W_apL, W_fl, W_nx, W_brk, W_cnt, W_seq, W_set, W_own, W_ret, W_retN, W_drop, W_if, W_call, W_make, W_fld, W_ix, W_part, W_noPart, W_sl, W_itL, W_itT, W_itS, W_for, W_forNil, W_while, W_gset, W_gcons, W_gnil, W_par2, W_fzM, W_rf, W_ownA, W_setIx, WF_run, WF_ok, WF_arM, eq_self, setE_mk, List.map_cons, List.map_nil, List.length_cons, List.length_nil, List.replicate, List.cons_append, List.nil_append, List.append_nil, List.set_cons_zero, List.set_cons_succ, List.getElem?_cons_zero, List.getElem?_cons_succ, Nat.reduceAdd, Nat.reduceSub, Nat.sub_zero, if_true, if_false, Bool.false_eq_true, and_self, and_true, true_and, Int.reduceLT, Int.reduceLE, Nat.reduceLeDiff, Nat.reduceLT, decide_true, decide_false, Bool.not_true, Bool.not_false, addV_int, subV_int, negV_int, ltV_int, leV_int, gtV_int, geV_int, eqV_int, neV_int, eqV_str, neV_str, intV_int, intV_bl, lenV_fl, lenV_tup, listV_fl, tupleV_fl, ixS_fl, ixS_tup, enm_fl, tupV, lstV, szL, szl, addV_fl, W_ownIxM, W_appM, W_parVN, W_parNV, W_parNN, W_parVVN, minV_int, maxV_int, scI, W_selfM, WI_run, WI_end, WI_ok, Int.cast_ofNat_Int, Int.reduceBEq, Int.reduceBNe, beq_self_eq_true, Bool.not_eq_true, Bool.and_true, Bool.true_and, W_gtupM, W_opL, W_ownSet, W_meth, W_eqM, W_setFld, W_makeR, W_join, W_split, W_ifL, W_extM, W_itK, W_menu, ite_true, ite_false, List.set_set, copied_ok]
/-! ### read_doc -/
theorem take_succ_row {l : List Row} {i : Nat} {c : Row} (h : l[i]? = some c) : l.take (i + 1) = l.take i ++ [c] := by rw [List.take_add_one, h]; rfl
theorem app_set {μ : List SO} {x y : SO} : (μ ++ [x]).set μ.length y = μ ++ [y] := by simp
theorem app_lt {μ : List SO} {x : SO} : μ.length < (μ ++ [x]).length := by simp
theorem init_ok (Z : Ad) (l : List Nat) (n : Nat) (μ : List SO) : fn_LineReader___init__ Z [.str (tx l), nI n] μ = .ok [("line", .str (tx l)), ("number", nI n), ("place", nI 0)] μ := by
  apply of_WI
  unfold fn_LineReader___init__ m_LineReader___init__
  have p1 : ∀ v : IV, putI "line" v [] = ([("line", v)] : List (Str × IV)) := fun v => rfl
  have p2 : ∀ u v : IV, putI "number" v ([("line", u)] : List (Str × IV)) = ([("line", u), ("number", v)] : List (Str × IV)) := fun u v => by unfold putI; rw [if_neg (by decide +kernel)]; rfl
  have p3 : ∀ u v w : IV, putI "place" w ([("line", u), ("number", v)] : List (Str × IV)) = ([("line", u), ("number", v), ("place", w)] : List (Str × IV)) := fun u v w => by
    unfold putI; rw [if_neg (by decide +kernel)]; unfold putI; rw [if_neg (by decide +kernel)]; rfl
  simp (config := { failIfUnchanged := false, decide := false }) only [W_bind, W_pure, W_no, W_opt, W_nox, W_op, W_un, W_C, W_varM, W_tst, W_boolM, W_ifB, W_notT, W_andT, W_orT, W_ifE, W_andV, W_orV, W_notV, W_chain, W_nil, W_cons, W_ap, W_apL, W_fl, W_nx, W_brk, W_cnt, W_seq, W_set, W_own, W_ret, W_retN, W_drop, W_if, W_call, W_make, W_fld, W_ix, W_part, W_noPart, W_sl, W_itL, W_itT, W_itS, W_for, W_forNil, W_while, W_gset, W_gcons, W_gnil, W_par2, W_fzM, W_rf, W_ownA, W_setIx, WF_run, WF_ok, WF_arM, eq_self, setE_mk, List.map_cons, List.map_nil, List.length_cons, List.length_nil, List.replicate, List.cons_append, List.nil_append, List.append_nil, List.set_cons_zero, List.set_cons_succ, List.getElem?_cons_zero, List.getElem?_cons_succ, Nat.reduceAdd, Nat.reduceSub, Nat.sub_zero, if_true, if_false, Bool.false_eq_true, and_self, and_true, true_and, Int.reduceLT, Int.reduceLE, Nat.reduceLeDiff, Nat.reduceLT, decide_true, decide_false, Bool.not_true, Bool.not_false, addV_int, subV_int, negV_int, ltV_int, leV_int, gtV_int, geV_int, eqV_int, neV_int, eqV_str, neV_str, intV_int, intV_bl, lenV_fl, lenV_tup, listV_fl, tupleV_fl, ixS_fl, ixS_tup, enm_fl, tupV, lstV, szL, szl, addV_fl, W_ownIxM, W_appM, W_parVN, W_parNV, W_parNN, W_parVVN, minV_int, maxV_int, scI, W_selfM, WI_run, WI_end, WI_ok, Int.cast_ofNat_Int, Int.reduceBEq, Int.reduceBNe, beq_self_eq_true, Bool.not_eq_true, Bool.and_true, Bool.true_and, W_gtupM, W_opL, W_ownSet, W_meth, W_eqM, W_setFld, W_makeR, W_join, W_split, W_ifL, W_extM, W_itK, W_menu, ite_true, ite_false, List.set_set, p1, p2, p3]
  rfl
theorem iRowA {Z : Ad} {μ : List SO} {l : List Nat} {n p : Nat} {env : List Slot} : isI Z.LineReader "row" (.ref μ.length) ⟨env, μ ++ [rd Z l n p]⟩ = True := by
  have := iRow (Z := Z) (μ := μ ++ [rd Z l n p]) (j := μ.length) (n := n) (p := p) (l := l) (env := env) app_lt
  rwa [app_set] at this
theorem row_A {Z : Ad} {μ : List SO} {n : Nat} (hn : n < 200) (r : Row) (h : r.ok n) : fn_LineReader_row Z [.ref μ.length] (μ ++ [rd Z (lineR r) n 0]) = .ok r.iv (μ ++ [rd Z (lineR r) n (lineR r).length]) := by
  have := read_row (Z := Z) (μ := μ ++ [rd Z (lineR r) n 0]) (j := μ.length) app_lt hn r h
  rwa [app_set, app_set] at this
theorem isN_iv (r : Row) : isNV r.iv .non = some (.bl false) := by cases r <;> rfl
theorem read_ok (Z : Ad) (rs : List Row) (h1 : rs ≠ []) (h : RowsOk rs) (h2 : rs.length ≤ 200) (μ : List SO) : WF (fn_read_doc Z [.str (tx (textR rs))] μ) fun v μ' => v = docV Z rs ∧ ∃ ν, μ' = μ ++ ν := by
  have ws := wsum_lines h h2
  have hne : rs.map lineR ≠ [] := by simpa using h1
  have hfree : ∀ x ∈ rs.map lineR, 10 ∉ x := fun x hx => by
    obtain ⟨r, hr, rfl⟩ := List.mem_map.mp hx
    obtain ⟨n, hn, ho⟩ := mem_ok h h2 hr
    exact lines_free (Nat.le_of_lt hn) r ho
  have hlen : (textR rs).length ≤ 100000 := by
    have : ∀ l : List (List Nat), (joinL [10] l).length ≤ wSum l + l.length := by
      intro l
      induction l with
      | nil => simp [joinL, wSum]
      | cons x l ih =>
        cases l with
        | nil => simp [joinL, wSum]
        | cons y l =>
          rw [joinL_cons (by simp)]
          unfold wSum at *
          simp at ih ⊢
          omega
    have := this (rs.map lineR)
    rw [List.length_map] at this
    show (joinL [10] (rs.map lineR)).length ≤ 100000
    omega
  have hsp : splitV (tx (textR rs)) (.str (tx [10])) = some (.fl (rs.map fun r => .str (tx (lineR r)))) := by
    unfold splitV
    dsimp only
    rw [if_pos ⟨by decide, by rw [tx_len]; unfold szl; omega⟩, show (tx [10] : Str) = ⟨#[10]⟩ from rfl, split_joined hne hfree, List.map_map, List.map_map]
    rfl
  have z1 : isiV [.str (tx (textR rs)), .ty "str"] = some (.bl true) := rfl
  unfold fn_read_doc m_read_doc
  simp (config := { failIfUnchanged := false, decide := false }) only [W_bind, W_pure, W_no, W_opt, W_nox, W_op, W_un, W_C, W_varM, W_tst, W_boolM, W_ifB, W_notT, W_andT, W_orT, W_ifE, W_andV, W_orV, W_notV, W_chain, W_nil, W_cons, W_ap, W_apL, W_fl, W_nx, W_brk, W_cnt, W_seq, W_set, W_own, W_ret, W_retN, W_drop, W_if, W_call, W_make, W_fld, W_ix, W_part, W_noPart, W_sl, W_itL, W_itT, W_itS, W_for, W_forNil, W_while, W_gset, W_gcons, W_gnil, W_par2, W_fzM, W_rf, W_ownA, W_setIx, WF_run, WF_ok, WF_arM, eq_self, setE_mk, List.map_cons, List.map_nil, List.length_cons, List.length_nil, List.replicate, List.cons_append, List.nil_append, List.append_nil, List.set_cons_zero, List.set_cons_succ, List.getElem?_cons_zero, List.getElem?_cons_succ, Nat.reduceAdd, Nat.reduceSub, Nat.sub_zero, if_true, if_false, Bool.false_eq_true, and_self, and_true, true_and, Int.reduceLT, Int.reduceLE, Nat.reduceLeDiff, Nat.reduceLT, decide_true, decide_false, Bool.not_true, Bool.not_false, addV_int, subV_int, negV_int, ltV_int, leV_int, gtV_int, geV_int, eqV_int, neV_int, eqV_str, neV_str, intV_int, intV_bl, lenV_fl, lenV_tup, listV_fl, tupleV_fl, ixS_fl, ixS_tup, enm_fl, tupV, lstV, szL, szl, addV_fl, W_ownIxM, W_appM, W_parVN, W_parNV, W_parNN, W_parVVN, minV_int, maxV_int, scI, W_selfM, WI_run, WI_end, WI_ok, Int.cast_ofNat_Int, Int.reduceBEq, Int.reduceBNe, beq_self_eq_true, Bool.not_eq_true, Bool.and_true, Bool.true_and, W_gtupM, W_opL, W_ownSet, W_meth, W_eqM, W_setFld, W_makeR, W_join, W_split, W_ifL, W_extM, W_itK, W_menu, ite_true, ite_false, List.set_set, z1, nl_cps, hsp]
  refine W_forI (fun k s => ∃ ν a b c d, s = ⟨[.val (.str (tx (textR rs))), .own ((rs.take k).map Row.iv), a, b, c, d], μ ++ ν⟩) _ 0 _ ⟨[], .emp, .emp, .emp, .emp, by simp⟩ ?_ ?_
  · rintro k x s hk ⟨ν, a, b, c, d, rfl⟩
    obtain ⟨y, hy, rfl⟩ := enmL_at hk
    obtain ⟨r, hr, rfl⟩ := map_at hy
    have hkl := (List.getElem?_eq_some_iff.mp hr).1
    have ho := h k r hr
    have hk2 : ((k : Int) == 200) = false := beq_eq_false_iff_ne.mpr (by omega)
    rw [show 0 + k = k from by omega]
    have ra := row_A (Z := Z) (μ := μ ++ ν) (n := k) (by omega) r ho
    have hlk : (rs.take k).length ≤ 200 := by rw [List.length_take]; omega
    simp (config := { failIfUnchanged := false, decide := false }) only [W_bind, W_pure, W_no, W_opt, W_nox, W_op, W_un, W_C, W_varM, W_tst, W_boolM, W_ifB, W_notT, W_andT, W_orT, W_ifE, W_andV, W_orV, W_notV, W_chain, W_nil, W_cons, W_ap, W_apL, W_fl, W_nx, W_brk, W_cnt, W_seq, W_set, W_own, W_ret, W_retN, W_drop, W_if, W_call, W_make, W_fld, W_ix, W_part, W_noPart, W_sl, W_itL, W_itT, W_itS, W_for, W_forNil, W_while, W_gset, W_gcons, W_gnil, W_par2, W_fzM, W_rf, W_ownA, W_setIx, WF_run, WF_ok, WF_arM, eq_self, setE_mk, List.map_cons, List.map_nil, List.length_cons, List.length_nil, List.replicate, List.cons_append, List.nil_append, List.append_nil, List.set_cons_zero, List.set_cons_succ, List.getElem?_cons_zero, List.getElem?_cons_succ, Nat.reduceAdd, Nat.reduceSub, Nat.sub_zero, if_true, if_false, Bool.false_eq_true, and_self, and_true, true_and, Int.reduceLT, Int.reduceLE, Nat.reduceLeDiff, Nat.reduceLT, decide_true, decide_false, Bool.not_true, Bool.not_false, addV_int, subV_int, negV_int, ltV_int, leV_int, gtV_int, geV_int, eqV_int, neV_int, eqV_str, neV_str, intV_int, intV_bl, lenV_fl, lenV_tup, listV_fl, tupleV_fl, ixS_fl, ixS_tup, enm_fl, tupV, lstV, szL, szl, addV_fl, W_ownIxM, W_appM, W_parVN, W_parNV, W_parNN, W_parVVN, minV_int, maxV_int, scI, W_selfM, WI_run, WI_end, WI_ok, Int.cast_ofNat_Int, Int.reduceBEq, Int.reduceBNe, beq_self_eq_true, Bool.not_eq_true, Bool.and_true, Bool.true_and, W_gtupM, W_opL, W_ownSet, W_meth, W_eqM, W_setFld, W_makeR, W_join, W_split, W_ifL, W_extM, W_itK, W_menu, ite_true, ite_false, List.set_set, hk2, init_ok, iRowA, ra, isN_iv, List.length_map]
    rw [if_pos (by omega)]
    refine ⟨.inl trivial, ν ++ [rd Z (lineR r) k (lineR r).length], .val (nI k), .val (.str (tx (lineR r))), .val (.ref (μ ++ ν).length), .val r.iv, ?_⟩
    rw [take_succ_row hr, List.map_append, ← List.append_assoc]
    rfl
  · rintro s ⟨ν, a, b, c, d, rfl⟩
    rw [show 0 + (enmL (rs.map fun r => IV.str (tx (lineR r)))).length = rs.length from by simp [enmL], List.take_length]
    simp (config := { failIfUnchanged := false, decide := false }) only [W_bind, W_pure, W_no, W_opt, W_nox, W_op, W_un, W_C, W_varM, W_tst, W_boolM, W_ifB, W_notT, W_andT, W_orT, W_ifE, W_andV, W_orV, W_notV, W_chain, W_nil, W_cons, W_ap, W_apL, W_fl, W_nx, W_brk, W_cnt, W_seq, W_set, W_own, W_ret, W_retN, W_drop, W_if, W_call, W_make, W_fld, W_ix, W_part, W_noPart, W_sl, W_itL, W_itT, W_itS, W_for, W_forNil, W_while, W_gset, W_gcons, W_gnil, W_par2, W_fzM, W_rf, W_ownA, W_setIx, WF_run, WF_ok, WF_arM, eq_self, setE_mk, List.map_cons, List.map_nil, List.length_cons, List.length_nil, List.replicate, List.cons_append, List.nil_append, List.append_nil, List.set_cons_zero, List.set_cons_succ, List.getElem?_cons_zero, List.getElem?_cons_succ, Nat.reduceAdd, Nat.reduceSub, Nat.sub_zero, if_true, if_false, Bool.false_eq_true, and_self, and_true, true_and, Int.reduceLT, Int.reduceLE, Nat.reduceLeDiff, Nat.reduceLT, decide_true, decide_false, Bool.not_true, Bool.not_false, addV_int, subV_int, negV_int, ltV_int, leV_int, gtV_int, geV_int, eqV_int, neV_int, eqV_str, neV_str, intV_int, intV_bl, lenV_fl, lenV_tup, listV_fl, tupleV_fl, ixS_fl, ixS_tup, enm_fl, tupV, lstV, szL, szl, addV_fl, W_ownIxM, W_appM, W_parVN, W_parNV, W_parNN, W_parVVN, minV_int, maxV_int, scI, W_selfM, WI_run, WI_end, WI_ok, Int.cast_ofNat_Int, Int.reduceBEq, Int.reduceBNe, beq_self_eq_true, Bool.not_eq_true, Bool.and_true, Bool.true_and, W_gtupM, W_opL, W_ownSet, W_meth, W_eqM, W_setFld, W_makeR, W_join, W_split, W_ifL, W_extM, W_itK, W_menu, ite_true, ite_false, List.set_set, doc_ok Z rs h1 h2 h]
    exact ⟨ν, rfl⟩
end Lw
set_option Elab.async false
set_option linter.all false
set_option maxRecDepth 100000
set_option maxHeartbeats 2000000
namespace Lw
open PySem L2 Mi
/-! ### the draws -/
theorem joinL_one : ∀ cs : List Nat, joinL [] (cs.map fun c => [c]) = cs
  | [] => rfl
  | [c] => rfl
  | c :: d :: r => by
    show [c] ++ [] ++ joinL [] ((d :: r).map fun c => [c]) = _
    rw [joinL_one (d :: r)]
    rfl
theorem wsum_one (cs : List Nat) : wSum (cs.map fun c => [c]) = cs.length := by
  induction cs with
  | nil => rfl
  | cons c cs ih => unfold wSum at *; simp at *; omega
theorem join_one {cs : List Nat} (h : cs.length ≤ 1000) : joinV (tx []) (.fl (cs.map fun c => .str (tx [c]))) = some (.str (tx cs)) := by
  have := joinV_tx (sep := []) (ys := cs.map fun c => [c]) (by rw [wsum_one]; simp; omega)
  rw [joinL_one, List.map_map] at this
  exact this
theorem sign_text : ∃ l : List IV, txtL [.str "abxy (){}~"] = some (.fl l) ∧ l.length = 10 ∧ ∀ v ∈ l, ∃ c, v = .str (tx [c]) ∧ 32 ≤ c ∧ c ≤ 126 := by
  refine ⟨[97, 98, 120, 121, 32, 40, 41, 123, 125, 126].map fun c => .str (tx [c]), by kernel_rfl, rfl, ?_⟩
  intro v hv
  obtain ⟨c, hc, rfl⟩ := List.mem_map.mp hv
  refine ⟨c, rfl, ?_⟩
  simp at hc
  omega
theorem signs_draw (Z : Ad) (i most : Nat) (μ : List SO) (Q : IV → List SO → Prop) (hw : Well μ i) (hm : most ≤ 100)
    (hQ : ∀ z μ', z.length ≤ most → (∀ c ∈ z.cps.toList, 32 ≤ c ∧ c ≤ 126) → Well μ' i → μ'.length = μ.length → Q (.str z) μ') : WF (fn__law_signs Z [.ref i, nI most] μ) Q := by
  obtain ⟨l, ht, hl10, hlm⟩ := sign_text
  unfold fn__law_signs m__law_signs
  simp (config := { failIfUnchanged := false, decide := false }) only [W_bind, W_pure, W_no, W_opt, W_nox, W_op, W_un, W_C, W_varM, W_tst, W_boolM, W_ifB, W_notT, W_andT, W_orT, W_ifE, W_andV, W_orV, W_notV, W_chain, W_nil, W_cons, W_ap, W_apL, W_fl, W_nx, W_brk, W_cnt, W_seq, W_set, W_own, W_ret, W_retN, W_drop, W_if, W_call, W_make, W_fld, W_ix, W_part, W_noPart, W_sl, W_itL, W_itT, W_itS, W_for, W_forNil, W_while, W_gset, W_gcons, W_gnil, W_par2, W_fzM, W_rf, W_ownA, W_setIx, WF_run, WF_ok, WF_arM, eq_self, setE_mk, List.map_cons, List.map_nil, List.length_cons, List.length_nil, List.replicate, List.cons_append, List.nil_append, List.append_nil, List.set_cons_zero, List.set_cons_succ, List.getElem?_cons_zero, List.getElem?_cons_succ, Nat.reduceAdd, Nat.reduceSub, Nat.sub_zero, if_true, if_false, Bool.false_eq_true, and_self, and_true, true_and, Int.reduceLT, Int.reduceLE, Nat.reduceLeDiff, Nat.reduceLT, decide_true, decide_false, Bool.not_true, Bool.not_false, addV_int, subV_int, negV_int, ltV_int, leV_int, gtV_int, geV_int, eqV_int, neV_int, eqV_str, neV_str, intV_int, intV_bl, lenV_fl, lenV_tup, listV_fl, tupleV_fl, ixS_fl, ixS_tup, enm_fl, tupV, lstV, szL, szl, addV_fl, W_ownIxM, W_appM, W_parVN, W_parNV, W_parNN, W_parVVN, minV_int, maxV_int, scI, W_selfM, WI_run, WI_end, WI_ok, Int.cast_ofNat_Int, Int.reduceBEq, Int.reduceBNe, beq_self_eq_true, Bool.not_eq_true, Bool.and_true, Bool.true_and, W_gtupM, W_opL, W_ownSet, W_meth, W_eqM, W_setFld, W_makeR, W_join, W_split, W_ifL, W_extM, W_itK, W_menu, ite_true, ite_false, List.set_set, nil_cps]
  refine W_compI (fun acc s => ∃ (cs : List Nat) (μ2 : List SO), acc = (cs.map fun c => .str (tx [c])) ∧ (∀ c ∈ cs, 32 ≤ c ∧ c ≤ 126) ∧ s = ⟨[.val (.ref i), .val (nI most), .emp], μ2⟩ ∧ Well μ2 i ∧ μ2.length = μ.length) ?_
  simp (config := { failIfUnchanged := false, decide := false }) only [W_bind, W_pure, W_no, W_opt, W_nox, W_op, W_un, W_C, W_varM, W_tst, W_boolM, W_ifB, W_notT, W_andT, W_orT, W_ifE, W_andV, W_orV, W_notV, W_chain, W_nil, W_cons, W_ap, W_apL, W_fl, W_nx, W_brk, W_cnt, W_seq, W_set, W_own, W_ret, W_retN, W_drop, W_if, W_call, W_make, W_fld, W_ix, W_part, W_noPart, W_sl, W_itL, W_itT, W_itS, W_for, W_forNil, W_while, W_gset, W_gcons, W_gnil, W_par2, W_fzM, W_rf, W_ownA, W_setIx, WF_run, WF_ok, WF_arM, eq_self, setE_mk, List.map_cons, List.map_nil, List.length_cons, List.length_nil, List.replicate, List.cons_append, List.nil_append, List.append_nil, List.set_cons_zero, List.set_cons_succ, List.getElem?_cons_zero, List.getElem?_cons_succ, Nat.reduceAdd, Nat.reduceSub, Nat.sub_zero, if_true, if_false, Bool.false_eq_true, and_self, and_true, true_and, Int.reduceLT, Int.reduceLE, Nat.reduceLeDiff, Nat.reduceLT, decide_true, decide_false, Bool.not_true, Bool.not_false, addV_int, subV_int, negV_int, ltV_int, leV_int, gtV_int, geV_int, eqV_int, neV_int, eqV_str, neV_str, intV_int, intV_bl, lenV_fl, lenV_tup, listV_fl, tupleV_fl, ixS_fl, ixS_tup, enm_fl, tupV, lstV, szL, szl, addV_fl, W_ownIxM, W_appM, W_parVN, W_parNV, W_parNN, W_parVVN, minV_int, maxV_int, scI, W_selfM, WI_run, WI_end, WI_ok, Int.cast_ofNat_Int, Int.reduceBEq, Int.reduceBNe, beq_self_eq_true, Bool.not_eq_true, Bool.and_true, Bool.true_and, W_gtupM, W_opL, W_ownSet, W_meth, W_eqM, W_setFld, W_makeR, W_join, W_split, W_ifL, W_extM, W_itK, W_menu, ite_true, ite_false, List.set_set]
  refine next_ok Z i _ μ _ hw (by omega) (by omega) fun v μ1 v0 v1 hw1 hl1 => ?_
  obtain ⟨n, rfl⟩ := Int.eq_ofNat_of_zero_le v0
  rw [rng1_of (by omega) (by omega)]
  simp (config := { failIfUnchanged := false, decide := false }) only [W_bind, W_pure, W_no, W_opt, W_nox, W_op, W_un, W_C, W_varM, W_tst, W_boolM, W_ifB, W_notT, W_andT, W_orT, W_ifE, W_andV, W_orV, W_notV, W_chain, W_nil, W_cons, W_ap, W_apL, W_fl, W_nx, W_brk, W_cnt, W_seq, W_set, W_own, W_ret, W_retN, W_drop, W_if, W_call, W_make, W_fld, W_ix, W_part, W_noPart, W_sl, W_itL, W_itT, W_itS, W_for, W_forNil, W_while, W_gset, W_gcons, W_gnil, W_par2, W_fzM, W_rf, W_ownA, W_setIx, WF_run, WF_ok, WF_arM, eq_self, setE_mk, List.map_cons, List.map_nil, List.length_cons, List.length_nil, List.replicate, List.cons_append, List.nil_append, List.append_nil, List.set_cons_zero, List.set_cons_succ, List.getElem?_cons_zero, List.getElem?_cons_succ, Nat.reduceAdd, Nat.reduceSub, Nat.sub_zero, if_true, if_false, Bool.false_eq_true, and_self, and_true, true_and, Int.reduceLT, Int.reduceLE, Nat.reduceLeDiff, Nat.reduceLT, decide_true, decide_false, Bool.not_true, Bool.not_false, addV_int, subV_int, negV_int, ltV_int, leV_int, gtV_int, geV_int, eqV_int, neV_int, eqV_str, neV_str, intV_int, intV_bl, lenV_fl, lenV_tup, listV_fl, tupleV_fl, ixS_fl, ixS_tup, enm_fl, tupV, lstV, szL, szl, addV_fl, W_ownIxM, W_appM, W_parVN, W_parNV, W_parNN, W_parVVN, minV_int, maxV_int, scI, W_selfM, WI_run, WI_end, WI_ok, Int.cast_ofNat_Int, Int.reduceBEq, Int.reduceBNe, beq_self_eq_true, Bool.not_eq_true, Bool.and_true, Bool.true_and, W_gtupM, W_opL, W_ownSet, W_meth, W_eqM, W_setFld, W_makeR, W_join, W_split, W_ifL, W_extM, W_itK, W_menu, ite_true, ite_false, List.set_set]
  refine ⟨by simp [rngL]; omega, ⟨[], μ1, rfl, by simp, rfl, hw1, hl1⟩, ?_, ?_⟩
  · rintro acc x s ⟨cs, μ2, rfl, hp, rfl, hw2, hl2⟩
    simp (config := { failIfUnchanged := false, decide := false }) only [W_bind, W_pure, W_no, W_opt, W_nox, W_op, W_un, W_C, W_varM, W_tst, W_boolM, W_ifB, W_notT, W_andT, W_orT, W_ifE, W_andV, W_orV, W_notV, W_chain, W_nil, W_cons, W_ap, W_apL, W_fl, W_nx, W_brk, W_cnt, W_seq, W_set, W_own, W_ret, W_retN, W_drop, W_if, W_call, W_make, W_fld, W_ix, W_part, W_noPart, W_sl, W_itL, W_itT, W_itS, W_for, W_forNil, W_while, W_gset, W_gcons, W_gnil, W_par2, W_fzM, W_rf, W_ownA, W_setIx, WF_run, WF_ok, WF_arM, eq_self, setE_mk, List.map_cons, List.map_nil, List.length_cons, List.length_nil, List.replicate, List.cons_append, List.nil_append, List.append_nil, List.set_cons_zero, List.set_cons_succ, List.getElem?_cons_zero, List.getElem?_cons_succ, Nat.reduceAdd, Nat.reduceSub, Nat.sub_zero, if_true, if_false, Bool.false_eq_true, and_self, and_true, true_and, Int.reduceLT, Int.reduceLE, Nat.reduceLeDiff, Nat.reduceLT, decide_true, decide_false, Bool.not_true, Bool.not_false, addV_int, subV_int, negV_int, ltV_int, leV_int, gtV_int, geV_int, eqV_int, neV_int, eqV_str, neV_str, intV_int, intV_bl, lenV_fl, lenV_tup, listV_fl, tupleV_fl, ixS_fl, ixS_tup, enm_fl, tupV, lstV, szL, szl, addV_fl, W_ownIxM, W_appM, W_parVN, W_parNV, W_parNN, W_parVVN, minV_int, maxV_int, scI, W_selfM, WI_run, WI_end, WI_ok, Int.cast_ofNat_Int, Int.reduceBEq, Int.reduceBNe, beq_self_eq_true, Bool.not_eq_true, Bool.and_true, Bool.true_and, W_gtupM, W_opL, W_ownSet, W_meth, W_eqM, W_setFld, W_makeR, W_join, W_split, W_ifL, W_extM, W_itK, W_menu, ite_true, ite_false, List.set_set, ht]
    refine one_ok Z i l μ2 _ hw2 (by omega) (by omega) fun v μ3 hv hw3 hl3 => ?_
    obtain ⟨c, rfl, hc⟩ := hlm v hv
    simp (config := { failIfUnchanged := false, decide := false }) only [W_bind, W_pure, W_no, W_opt, W_nox, W_op, W_un, W_C, W_varM, W_tst, W_boolM, W_ifB, W_notT, W_andT, W_orT, W_ifE, W_andV, W_orV, W_notV, W_chain, W_nil, W_cons, W_ap, W_apL, W_fl, W_nx, W_brk, W_cnt, W_seq, W_set, W_own, W_ret, W_retN, W_drop, W_if, W_call, W_make, W_fld, W_ix, W_part, W_noPart, W_sl, W_itL, W_itT, W_itS, W_for, W_forNil, W_while, W_gset, W_gcons, W_gnil, W_par2, W_fzM, W_rf, W_ownA, W_setIx, WF_run, WF_ok, WF_arM, eq_self, setE_mk, List.map_cons, List.map_nil, List.length_cons, List.length_nil, List.replicate, List.cons_append, List.nil_append, List.append_nil, List.set_cons_zero, List.set_cons_succ, List.getElem?_cons_zero, List.getElem?_cons_succ, Nat.reduceAdd, Nat.reduceSub, Nat.sub_zero, if_true, if_false, Bool.false_eq_true, and_self, and_true, true_and, Int.reduceLT, Int.reduceLE, Nat.reduceLeDiff, Nat.reduceLT, decide_true, decide_false, Bool.not_true, Bool.not_false, addV_int, subV_int, negV_int, ltV_int, leV_int, gtV_int, geV_int, eqV_int, neV_int, eqV_str, neV_str, intV_int, intV_bl, lenV_fl, lenV_tup, listV_fl, tupleV_fl, ixS_fl, ixS_tup, enm_fl, tupV, lstV, szL, szl, addV_fl, W_ownIxM, W_appM, W_parVN, W_parNV, W_parNN, W_parVVN, minV_int, maxV_int, scI, W_selfM, WI_run, WI_end, WI_ok, Int.cast_ofNat_Int, Int.reduceBEq, Int.reduceBNe, beq_self_eq_true, Bool.not_eq_true, Bool.and_true, Bool.true_and, W_gtupM, W_opL, W_ownSet, W_meth, W_eqM, W_setFld, W_makeR, W_join, W_split, W_ifL, W_extM, W_itK, W_menu, ite_true, ite_false, List.set_set]
    refine ⟨cs ++ [c], μ3, by simp, ?_, rfl, hw3, hl3.trans hl2⟩
    intro d hd
    rcases List.mem_append.mp hd with h | h
    · exact hp d h
    · rw [List.mem_singleton.mp h]; exact hc
  · rintro acc s hacc ⟨cs, μ2, rfl, hp, rfl, hw2, hl2⟩
    have hlen : cs.length = n := by simpa [rngL] using hacc
    simp (config := { failIfUnchanged := false, decide := false }) only [W_bind, W_pure, W_no, W_opt, W_nox, W_op, W_un, W_C, W_varM, W_tst, W_boolM, W_ifB, W_notT, W_andT, W_orT, W_ifE, W_andV, W_orV, W_notV, W_chain, W_nil, W_cons, W_ap, W_apL, W_fl, W_nx, W_brk, W_cnt, W_seq, W_set, W_own, W_ret, W_retN, W_drop, W_if, W_call, W_make, W_fld, W_ix, W_part, W_noPart, W_sl, W_itL, W_itT, W_itS, W_for, W_forNil, W_while, W_gset, W_gcons, W_gnil, W_par2, W_fzM, W_rf, W_ownA, W_setIx, WF_run, WF_ok, WF_arM, eq_self, setE_mk, List.map_cons, List.map_nil, List.length_cons, List.length_nil, List.replicate, List.cons_append, List.nil_append, List.append_nil, List.set_cons_zero, List.set_cons_succ, List.getElem?_cons_zero, List.getElem?_cons_succ, Nat.reduceAdd, Nat.reduceSub, Nat.sub_zero, if_true, if_false, Bool.false_eq_true, and_self, and_true, true_and, Int.reduceLT, Int.reduceLE, Nat.reduceLeDiff, Nat.reduceLT, decide_true, decide_false, Bool.not_true, Bool.not_false, addV_int, subV_int, negV_int, ltV_int, leV_int, gtV_int, geV_int, eqV_int, neV_int, eqV_str, neV_str, intV_int, intV_bl, lenV_fl, lenV_tup, listV_fl, tupleV_fl, ixS_fl, ixS_tup, enm_fl, tupV, lstV, szL, szl, addV_fl, W_ownIxM, W_appM, W_parVN, W_parNV, W_parNN, W_parVVN, minV_int, maxV_int, scI, W_selfM, WI_run, WI_end, WI_ok, Int.cast_ofNat_Int, Int.reduceBEq, Int.reduceBNe, beq_self_eq_true, Bool.not_eq_true, Bool.and_true, Bool.true_and, W_gtupM, W_opL, W_ownSet, W_meth, W_eqM, W_setFld, W_makeR, W_join, W_split, W_ifL, W_extM, W_itK, W_menu, ite_true, ite_false, List.set_set, join_one (cs := cs) (by omega)]
    exact hQ (tx cs) μ2 (by rw [tx_len]; omega) (by rw [tx_cps]; exact hp) hw2 hl2
theorem maxN (a b : Nat) : (if ((b : Int)) > ((a : Int)) then (b : Int) else (a : Int)) = ((max a b : Nat) : Int) := by
  split <;> omega

theorem row_tail (Z : Ad) (i n : Nat) (hn : n ≤ 200) (way : Int) (w0 : 0 ≤ way) (w1 : way < 16) (hw5 : n = 0 → way < 5) (μ1 : List SO) (R : Flw → S → Prop) (hw1 : Well μ1 i)
    (hQ : ∀ (r : Row) (env : List Slot) μ', r.ok n → Well μ' i → μ'.length = μ1.length → R (.rt r.iv) ⟨env, μ'⟩) :
    W (m__law_row_r1 Z) ⟨[.val (.ref i), .val (nI n), .val (.int way), .emp, .emp, .emp], μ1⟩ R := by
  unfold m__law_row_r1 m__law_row_s2
  by_cases h3 : way < 3
  · have h3' : decide (way < 3) = true := decide_eq_true h3
    have key : ∀ (m : Nat) (μ2 : List SO), m ≤ 20 → Well μ2 i → μ2.length = μ1.length → WF (fn__law_signs Z [.ref i, nI m] μ2) fun v μ' => R (.rt (.tup [.str (Str.ofString "text"), v])) ⟨[.val (.ref i), .val (nI n), .val (.int way), .emp, .emp, .emp], μ'⟩ := fun m μ2 hm hw2 hl2 =>
      signs_draw Z i m μ2 _ hw2 (by omega) fun z μ3 hz hc hw3 hl3 => hQ (.text z) _ μ3 ⟨by omega, hc⟩ hw3 (hl3.trans hl2)
    simp (config := { failIfUnchanged := false, decide := false }) only [W_bind, W_pure, W_no, W_opt, W_nox, W_op, W_un, W_C, W_varM, W_tst, W_boolM, W_ifB, W_notT, W_andT, W_orT, W_ifE, W_andV, W_orV, W_notV, W_chain, W_nil, W_cons, W_ap, W_apL, W_fl, W_nx, W_brk, W_cnt, W_seq, W_set, W_own, W_ret, W_retN, W_drop, W_if, W_call, W_make, W_fld, W_ix, W_part, W_noPart, W_sl, W_itL, W_itT, W_itS, W_for, W_forNil, W_while, W_gset, W_gcons, W_gnil, W_par2, W_fzM, W_rf, W_ownA, W_setIx, WF_run, WF_ok, WF_arM, eq_self, setE_mk, List.map_cons, List.map_nil, List.length_cons, List.length_nil, List.replicate, List.cons_append, List.nil_append, List.append_nil, List.set_cons_zero, List.set_cons_succ, List.getElem?_cons_zero, List.getElem?_cons_succ, Nat.reduceAdd, Nat.reduceSub, Nat.sub_zero, if_true, if_false, Bool.false_eq_true, and_self, and_true, true_and, Int.reduceLT, Int.reduceLE, Nat.reduceLeDiff, Nat.reduceLT, decide_true, decide_false, Bool.not_true, Bool.not_false, addV_int, subV_int, negV_int, ltV_int, leV_int, gtV_int, geV_int, eqV_int, neV_int, eqV_str, neV_str, intV_int, intV_bl, lenV_fl, lenV_tup, listV_fl, tupleV_fl, ixS_fl, ixS_tup, enm_fl, tupV, lstV, szL, szl, addV_fl, W_ownIxM, W_appM, W_parVN, W_parNV, W_parNN, W_parVVN, minV_int, maxV_int, scI, W_selfM, WI_run, WI_end, WI_ok, Int.cast_ofNat_Int, Int.reduceBEq, Int.reduceBNe, beq_self_eq_true, Bool.not_eq_true, Bool.and_true, Bool.true_and, W_gtupM, W_opL, W_ownSet, W_meth, W_eqM, W_setFld, W_makeR, W_join, W_split, W_ifL, W_extM, W_itK, W_menu, ite_true, ite_false, List.set_set, h3']
    refine one_ok Z i _ μ1 _ hw1 (by decide) (by decide) fun v μ2 hv hw2 hl2 => ?_
    simp only [List.mem_cons, List.not_mem_nil, or_false] at hv
    rcases hv with rfl | rfl | rfl
    · simp (config := { failIfUnchanged := false, decide := false }) only [W_bind, W_pure, W_no, W_opt, W_nox, W_op, W_un, W_C, W_varM, W_tst, W_boolM, W_ifB, W_notT, W_andT, W_orT, W_ifE, W_andV, W_orV, W_notV, W_chain, W_nil, W_cons, W_ap, W_apL, W_fl, W_nx, W_brk, W_cnt, W_seq, W_set, W_own, W_ret, W_retN, W_drop, W_if, W_call, W_make, W_fld, W_ix, W_part, W_noPart, W_sl, W_itL, W_itT, W_itS, W_for, W_forNil, W_while, W_gset, W_gcons, W_gnil, W_par2, W_fzM, W_rf, W_ownA, W_setIx, WF_run, WF_ok, WF_arM, eq_self, setE_mk, List.map_cons, List.map_nil, List.length_cons, List.length_nil, List.replicate, List.cons_append, List.nil_append, List.append_nil, List.set_cons_zero, List.set_cons_succ, List.getElem?_cons_zero, List.getElem?_cons_succ, Nat.reduceAdd, Nat.reduceSub, Nat.sub_zero, if_true, if_false, Bool.false_eq_true, and_self, and_true, true_and, Int.reduceLT, Int.reduceLE, Nat.reduceLeDiff, Nat.reduceLT, decide_true, decide_false, Bool.not_true, Bool.not_false, addV_int, subV_int, negV_int, ltV_int, leV_int, gtV_int, geV_int, eqV_int, neV_int, eqV_str, neV_str, intV_int, intV_bl, lenV_fl, lenV_tup, listV_fl, tupleV_fl, ixS_fl, ixS_tup, enm_fl, tupV, lstV, szL, szl, addV_fl, W_ownIxM, W_appM, W_parVN, W_parNV, W_parNN, W_parVVN, minV_int, maxV_int, scI, W_selfM, WI_run, WI_end, WI_ok, Int.cast_ofNat_Int, Int.reduceBEq, Int.reduceBNe, beq_self_eq_true, Bool.not_eq_true, Bool.and_true, Bool.true_and, W_gtupM, W_opL, W_ownSet, W_meth, W_eqM, W_setFld, W_makeR, W_join, W_split, W_ifL, W_extM, W_itK, W_menu, ite_true, ite_false, List.set_set]; exact key 2 μ2 (by omega) hw2 hl2
    · simp (config := { failIfUnchanged := false, decide := false }) only [W_bind, W_pure, W_no, W_opt, W_nox, W_op, W_un, W_C, W_varM, W_tst, W_boolM, W_ifB, W_notT, W_andT, W_orT, W_ifE, W_andV, W_orV, W_notV, W_chain, W_nil, W_cons, W_ap, W_apL, W_fl, W_nx, W_brk, W_cnt, W_seq, W_set, W_own, W_ret, W_retN, W_drop, W_if, W_call, W_make, W_fld, W_ix, W_part, W_noPart, W_sl, W_itL, W_itT, W_itS, W_for, W_forNil, W_while, W_gset, W_gcons, W_gnil, W_par2, W_fzM, W_rf, W_ownA, W_setIx, WF_run, WF_ok, WF_arM, eq_self, setE_mk, List.map_cons, List.map_nil, List.length_cons, List.length_nil, List.replicate, List.cons_append, List.nil_append, List.append_nil, List.set_cons_zero, List.set_cons_succ, List.getElem?_cons_zero, List.getElem?_cons_succ, Nat.reduceAdd, Nat.reduceSub, Nat.sub_zero, if_true, if_false, Bool.false_eq_true, and_self, and_true, true_and, Int.reduceLT, Int.reduceLE, Nat.reduceLeDiff, Nat.reduceLT, decide_true, decide_false, Bool.not_true, Bool.not_false, addV_int, subV_int, negV_int, ltV_int, leV_int, gtV_int, geV_int, eqV_int, neV_int, eqV_str, neV_str, intV_int, intV_bl, lenV_fl, lenV_tup, listV_fl, tupleV_fl, ixS_fl, ixS_tup, enm_fl, tupV, lstV, szL, szl, addV_fl, W_ownIxM, W_appM, W_parVN, W_parNV, W_parNN, W_parVVN, minV_int, maxV_int, scI, W_selfM, WI_run, WI_end, WI_ok, Int.cast_ofNat_Int, Int.reduceBEq, Int.reduceBNe, beq_self_eq_true, Bool.not_eq_true, Bool.and_true, Bool.true_and, W_gtupM, W_opL, W_ownSet, W_meth, W_eqM, W_setFld, W_makeR, W_join, W_split, W_ifL, W_extM, W_itK, W_menu, ite_true, ite_false, List.set_set]; exact key 5 μ2 (by omega) hw2 hl2
    · simp (config := { failIfUnchanged := false, decide := false }) only [W_bind, W_pure, W_no, W_opt, W_nox, W_op, W_un, W_C, W_varM, W_tst, W_boolM, W_ifB, W_notT, W_andT, W_orT, W_ifE, W_andV, W_orV, W_notV, W_chain, W_nil, W_cons, W_ap, W_apL, W_fl, W_nx, W_brk, W_cnt, W_seq, W_set, W_own, W_ret, W_retN, W_drop, W_if, W_call, W_make, W_fld, W_ix, W_part, W_noPart, W_sl, W_itL, W_itT, W_itS, W_for, W_forNil, W_while, W_gset, W_gcons, W_gnil, W_par2, W_fzM, W_rf, W_ownA, W_setIx, WF_run, WF_ok, WF_arM, eq_self, setE_mk, List.map_cons, List.map_nil, List.length_cons, List.length_nil, List.replicate, List.cons_append, List.nil_append, List.append_nil, List.set_cons_zero, List.set_cons_succ, List.getElem?_cons_zero, List.getElem?_cons_succ, Nat.reduceAdd, Nat.reduceSub, Nat.sub_zero, if_true, if_false, Bool.false_eq_true, and_self, and_true, true_and, Int.reduceLT, Int.reduceLE, Nat.reduceLeDiff, Nat.reduceLT, decide_true, decide_false, Bool.not_true, Bool.not_false, addV_int, subV_int, negV_int, ltV_int, leV_int, gtV_int, geV_int, eqV_int, neV_int, eqV_str, neV_str, intV_int, intV_bl, lenV_fl, lenV_tup, listV_fl, tupleV_fl, ixS_fl, ixS_tup, enm_fl, tupV, lstV, szL, szl, addV_fl, W_ownIxM, W_appM, W_parVN, W_parNV, W_parNN, W_parVVN, minV_int, maxV_int, scI, W_selfM, WI_run, WI_end, WI_ok, Int.cast_ofNat_Int, Int.reduceBEq, Int.reduceBNe, beq_self_eq_true, Bool.not_eq_true, Bool.and_true, Bool.true_and, W_gtupM, W_opL, W_ownSet, W_meth, W_eqM, W_setFld, W_makeR, W_join, W_split, W_ifL, W_extM, W_itK, W_menu, ite_true, ite_false, List.set_set]; exact key 20 μ2 (by omega) hw2 hl2
  · have h3' : decide (way < 3) = false := decide_eq_false h3
    unfold m__law_row_r2 m__law_row_s3
    by_cases h5 : way < 5
    · have h5' : decide (way < 5) = true := decide_eq_true h5
      simp (config := { failIfUnchanged := false, decide := false }) only [W_bind, W_pure, W_no, W_opt, W_nox, W_op, W_un, W_C, W_varM, W_tst, W_boolM, W_ifB, W_notT, W_andT, W_orT, W_ifE, W_andV, W_orV, W_notV, W_chain, W_nil, W_cons, W_ap, W_apL, W_fl, W_nx, W_brk, W_cnt, W_seq, W_set, W_own, W_ret, W_retN, W_drop, W_if, W_call, W_make, W_fld, W_ix, W_part, W_noPart, W_sl, W_itL, W_itT, W_itS, W_for, W_forNil, W_while, W_gset, W_gcons, W_gnil, W_par2, W_fzM, W_rf, W_ownA, W_setIx, WF_run, WF_ok, WF_arM, eq_self, setE_mk, List.map_cons, List.map_nil, List.length_cons, List.length_nil, List.replicate, List.cons_append, List.nil_append, List.append_nil, List.set_cons_zero, List.set_cons_succ, List.getElem?_cons_zero, List.getElem?_cons_succ, Nat.reduceAdd, Nat.reduceSub, Nat.sub_zero, if_true, if_false, Bool.false_eq_true, and_self, and_true, true_and, Int.reduceLT, Int.reduceLE, Nat.reduceLeDiff, Nat.reduceLT, decide_true, decide_false, Bool.not_true, Bool.not_false, addV_int, subV_int, negV_int, ltV_int, leV_int, gtV_int, geV_int, eqV_int, neV_int, eqV_str, neV_str, intV_int, intV_bl, lenV_fl, lenV_tup, listV_fl, tupleV_fl, ixS_fl, ixS_tup, enm_fl, tupV, lstV, szL, szl, addV_fl, W_ownIxM, W_appM, W_parVN, W_parNV, W_parNN, W_parVVN, minV_int, maxV_int, scI, W_selfM, WI_run, WI_end, WI_ok, Int.cast_ofNat_Int, Int.reduceBEq, Int.reduceBNe, beq_self_eq_true, Bool.not_eq_true, Bool.and_true, Bool.true_and, W_gtupM, W_opL, W_ownSet, W_meth, W_eqM, W_setFld, W_makeR, W_join, W_split, W_ifL, W_extM, W_itK, W_menu, ite_true, ite_false, List.set_set, h3', h5']
      refine signs_draw Z i 3 μ1 _ hw1 (by omega) fun z μ2 hz hc hw2 hl2 => ?_
      simp (config := { failIfUnchanged := false, decide := false }) only [W_bind, W_pure, W_no, W_opt, W_nox, W_op, W_un, W_C, W_varM, W_tst, W_boolM, W_ifB, W_notT, W_andT, W_orT, W_ifE, W_andV, W_orV, W_notV, W_chain, W_nil, W_cons, W_ap, W_apL, W_fl, W_nx, W_brk, W_cnt, W_seq, W_set, W_own, W_ret, W_retN, W_drop, W_if, W_call, W_make, W_fld, W_ix, W_part, W_noPart, W_sl, W_itL, W_itT, W_itS, W_for, W_forNil, W_while, W_gset, W_gcons, W_gnil, W_par2, W_fzM, W_rf, W_ownA, W_setIx, WF_run, WF_ok, WF_arM, eq_self, setE_mk, List.map_cons, List.map_nil, List.length_cons, List.length_nil, List.replicate, List.cons_append, List.nil_append, List.append_nil, List.set_cons_zero, List.set_cons_succ, List.getElem?_cons_zero, List.getElem?_cons_succ, Nat.reduceAdd, Nat.reduceSub, Nat.sub_zero, if_true, if_false, Bool.false_eq_true, and_self, and_true, true_and, Int.reduceLT, Int.reduceLE, Nat.reduceLeDiff, Nat.reduceLT, decide_true, decide_false, Bool.not_true, Bool.not_false, addV_int, subV_int, negV_int, ltV_int, leV_int, gtV_int, geV_int, eqV_int, neV_int, eqV_str, neV_str, intV_int, intV_bl, lenV_fl, lenV_tup, listV_fl, tupleV_fl, ixS_fl, ixS_tup, enm_fl, tupV, lstV, szL, szl, addV_fl, W_ownIxM, W_appM, W_parVN, W_parNV, W_parNN, W_parVVN, minV_int, maxV_int, scI, W_selfM, WI_run, WI_end, WI_ok, Int.cast_ofNat_Int, Int.reduceBEq, Int.reduceBNe, beq_self_eq_true, Bool.not_eq_true, Bool.and_true, Bool.true_and, W_gtupM, W_opL, W_ownSet, W_meth, W_eqM, W_setFld, W_makeR, W_join, W_split, W_ifL, W_extM, W_itK, W_menu, ite_true, ite_false, List.set_set]
      refine next_ok Z i _ μ2 _ hw2 (by decide) (by decide) fun v μ3 v0 v1 hw3 hl3 => ?_
      have hcase : v = 0 ∨ v = 1 ∨ v = 2 := by omega
      have e0 : ∀ x y z : IV, atI [x, y, z] (0 : Int) = some x := fun x y z => at0
      have e1 : ∀ x y z : IV, atI [x, y, z] (1 : Int) = some y := fun x y z => at1
      have e2 : ∀ x y z : IV, atI [x, y, z] (2 : Int) = some z := fun x y z => by
        have := Mi.atI_n (l := [x, y, z]) (n := 2) (by simp)
        simpa using this
      rcases hcase with rfl | rfl | rfl
      · simp (config := { failIfUnchanged := false, decide := false }) only [W_bind, W_pure, W_no, W_opt, W_nox, W_op, W_un, W_C, W_varM, W_tst, W_boolM, W_ifB, W_notT, W_andT, W_orT, W_ifE, W_andV, W_orV, W_notV, W_chain, W_nil, W_cons, W_ap, W_apL, W_fl, W_nx, W_brk, W_cnt, W_seq, W_set, W_own, W_ret, W_retN, W_drop, W_if, W_call, W_make, W_fld, W_ix, W_part, W_noPart, W_sl, W_itL, W_itT, W_itS, W_for, W_forNil, W_while, W_gset, W_gcons, W_gnil, W_par2, W_fzM, W_rf, W_ownA, W_setIx, WF_run, WF_ok, WF_arM, eq_self, setE_mk, List.map_cons, List.map_nil, List.length_cons, List.length_nil, List.replicate, List.cons_append, List.nil_append, List.append_nil, List.set_cons_zero, List.set_cons_succ, List.getElem?_cons_zero, List.getElem?_cons_succ, Nat.reduceAdd, Nat.reduceSub, Nat.sub_zero, if_true, if_false, Bool.false_eq_true, and_self, and_true, true_and, Int.reduceLT, Int.reduceLE, Nat.reduceLeDiff, Nat.reduceLT, decide_true, decide_false, Bool.not_true, Bool.not_false, addV_int, subV_int, negV_int, ltV_int, leV_int, gtV_int, geV_int, eqV_int, neV_int, eqV_str, neV_str, intV_int, intV_bl, lenV_fl, lenV_tup, listV_fl, tupleV_fl, ixS_fl, ixS_tup, enm_fl, tupV, lstV, szL, szl, addV_fl, W_ownIxM, W_appM, W_parVN, W_parNV, W_parNN, W_parVVN, minV_int, maxV_int, scI, W_selfM, WI_run, WI_end, WI_ok, Int.cast_ofNat_Int, Int.reduceBEq, Int.reduceBNe, beq_self_eq_true, Bool.not_eq_true, Bool.and_true, Bool.true_and, W_gtupM, W_opL, W_ownSet, W_meth, W_eqM, W_setFld, W_makeR, W_join, W_split, W_ifL, W_extM, W_itK, W_menu, ite_true, ite_false, List.set_set, e0]; exact hQ (.line z) _ μ3 ⟨hz, hc⟩ hw3 (hl3.trans hl2)
      · simp (config := { failIfUnchanged := false, decide := false }) only [W_bind, W_pure, W_no, W_opt, W_nox, W_op, W_un, W_C, W_varM, W_tst, W_boolM, W_ifB, W_notT, W_andT, W_orT, W_ifE, W_andV, W_orV, W_notV, W_chain, W_nil, W_cons, W_ap, W_apL, W_fl, W_nx, W_brk, W_cnt, W_seq, W_set, W_own, W_ret, W_retN, W_drop, W_if, W_call, W_make, W_fld, W_ix, W_part, W_noPart, W_sl, W_itL, W_itT, W_itS, W_for, W_forNil, W_while, W_gset, W_gcons, W_gnil, W_par2, W_fzM, W_rf, W_ownA, W_setIx, WF_run, WF_ok, WF_arM, eq_self, setE_mk, List.map_cons, List.map_nil, List.length_cons, List.length_nil, List.replicate, List.cons_append, List.nil_append, List.append_nil, List.set_cons_zero, List.set_cons_succ, List.getElem?_cons_zero, List.getElem?_cons_succ, Nat.reduceAdd, Nat.reduceSub, Nat.sub_zero, if_true, if_false, Bool.false_eq_true, and_self, and_true, true_and, Int.reduceLT, Int.reduceLE, Nat.reduceLeDiff, Nat.reduceLT, decide_true, decide_false, Bool.not_true, Bool.not_false, addV_int, subV_int, negV_int, ltV_int, leV_int, gtV_int, geV_int, eqV_int, neV_int, eqV_str, neV_str, intV_int, intV_bl, lenV_fl, lenV_tup, listV_fl, tupleV_fl, ixS_fl, ixS_tup, enm_fl, tupV, lstV, szL, szl, addV_fl, W_ownIxM, W_appM, W_parVN, W_parNV, W_parNN, W_parVVN, minV_int, maxV_int, scI, W_selfM, WI_run, WI_end, WI_ok, Int.cast_ofNat_Int, Int.reduceBEq, Int.reduceBNe, beq_self_eq_true, Bool.not_eq_true, Bool.and_true, Bool.true_and, W_gtupM, W_opL, W_ownSet, W_meth, W_eqM, W_setFld, W_makeR, W_join, W_split, W_ifL, W_extM, W_itK, W_menu, ite_true, ite_false, List.set_set, e1]
        exact hQ (.line (Str.ofString " ")) _ μ3 ⟨by decide +kernel, by rw [sp_cps']; intro c hc; simp at hc; omega⟩ hw3 (hl3.trans hl2)
      · simp (config := { failIfUnchanged := false, decide := false }) only [W_bind, W_pure, W_no, W_opt, W_nox, W_op, W_un, W_C, W_varM, W_tst, W_boolM, W_ifB, W_notT, W_andT, W_orT, W_ifE, W_andV, W_orV, W_notV, W_chain, W_nil, W_cons, W_ap, W_apL, W_fl, W_nx, W_brk, W_cnt, W_seq, W_set, W_own, W_ret, W_retN, W_drop, W_if, W_call, W_make, W_fld, W_ix, W_part, W_noPart, W_sl, W_itL, W_itT, W_itS, W_for, W_forNil, W_while, W_gset, W_gcons, W_gnil, W_par2, W_fzM, W_rf, W_ownA, W_setIx, WF_run, WF_ok, WF_arM, eq_self, setE_mk, List.map_cons, List.map_nil, List.length_cons, List.length_nil, List.replicate, List.cons_append, List.nil_append, List.append_nil, List.set_cons_zero, List.set_cons_succ, List.getElem?_cons_zero, List.getElem?_cons_succ, Nat.reduceAdd, Nat.reduceSub, Nat.sub_zero, if_true, if_false, Bool.false_eq_true, and_self, and_true, true_and, Int.reduceLT, Int.reduceLE, Nat.reduceLeDiff, Nat.reduceLT, decide_true, decide_false, Bool.not_true, Bool.not_false, addV_int, subV_int, negV_int, ltV_int, leV_int, gtV_int, geV_int, eqV_int, neV_int, eqV_str, neV_str, intV_int, intV_bl, lenV_fl, lenV_tup, listV_fl, tupleV_fl, ixS_fl, ixS_tup, enm_fl, tupV, lstV, szL, szl, addV_fl, W_ownIxM, W_appM, W_parVN, W_parNV, W_parNN, W_parVVN, minV_int, maxV_int, scI, W_selfM, WI_run, WI_end, WI_ok, Int.cast_ofNat_Int, Int.reduceBEq, Int.reduceBNe, beq_self_eq_true, Bool.not_eq_true, Bool.and_true, Bool.true_and, W_gtupM, W_opL, W_ownSet, W_meth, W_eqM, W_setFld, W_makeR, W_join, W_split, W_ifL, W_extM, W_itK, W_menu, ite_true, ite_false, List.set_set, e2]; exact hQ .hard _ μ3 trivial hw3 (hl3.trans hl2)
    · have h5' : decide (way < 5) = false := decide_eq_false h5
      have hn0 : 0 < n := Nat.pos_of_ne_zero fun z => h5 (hw5 z)
      unfold m__law_row_r3 m__law_row_s4
      simp (config := { failIfUnchanged := false, decide := false }) only [W_bind, W_pure, W_no, W_opt, W_nox, W_op, W_un, W_C, W_varM, W_tst, W_boolM, W_ifB, W_notT, W_andT, W_orT, W_ifE, W_andV, W_orV, W_notV, W_chain, W_nil, W_cons, W_ap, W_apL, W_fl, W_nx, W_brk, W_cnt, W_seq, W_set, W_own, W_ret, W_retN, W_drop, W_if, W_call, W_make, W_fld, W_ix, W_part, W_noPart, W_sl, W_itL, W_itT, W_itS, W_for, W_forNil, W_while, W_gset, W_gcons, W_gnil, W_par2, W_fzM, W_rf, W_ownA, W_setIx, WF_run, WF_ok, WF_arM, eq_self, setE_mk, List.map_cons, List.map_nil, List.length_cons, List.length_nil, List.replicate, List.cons_append, List.nil_append, List.append_nil, List.set_cons_zero, List.set_cons_succ, List.getElem?_cons_zero, List.getElem?_cons_succ, Nat.reduceAdd, Nat.reduceSub, Nat.sub_zero, if_true, if_false, Bool.false_eq_true, and_self, and_true, true_and, Int.reduceLT, Int.reduceLE, Nat.reduceLeDiff, Nat.reduceLT, decide_true, decide_false, Bool.not_true, Bool.not_false, addV_int, subV_int, negV_int, ltV_int, leV_int, gtV_int, geV_int, eqV_int, neV_int, eqV_str, neV_str, intV_int, intV_bl, lenV_fl, lenV_tup, listV_fl, tupleV_fl, ixS_fl, ixS_tup, enm_fl, tupV, lstV, szL, szl, addV_fl, W_ownIxM, W_appM, W_parVN, W_parNV, W_parNN, W_parVVN, minV_int, maxV_int, scI, W_selfM, WI_run, WI_end, WI_ok, Int.cast_ofNat_Int, Int.reduceBEq, Int.reduceBNe, beq_self_eq_true, Bool.not_eq_true, Bool.and_true, Bool.true_and, W_gtupM, W_opL, W_ownSet, W_meth, W_eqM, W_setFld, W_makeR, W_join, W_split, W_ifL, W_extM, W_itK, W_menu, ite_true, ite_false, List.set_set, h3', h5']
      refine next_ok Z i _ μ1 _ hw1 (by omega) (by omega) fun va μ2 a0 a1 hw2 hl2 => ?_
      simp (config := { failIfUnchanged := false, decide := false }) only [W_bind, W_pure, W_no, W_opt, W_nox, W_op, W_un, W_C, W_varM, W_tst, W_boolM, W_ifB, W_notT, W_andT, W_orT, W_ifE, W_andV, W_orV, W_notV, W_chain, W_nil, W_cons, W_ap, W_apL, W_fl, W_nx, W_brk, W_cnt, W_seq, W_set, W_own, W_ret, W_retN, W_drop, W_if, W_call, W_make, W_fld, W_ix, W_part, W_noPart, W_sl, W_itL, W_itT, W_itS, W_for, W_forNil, W_while, W_gset, W_gcons, W_gnil, W_par2, W_fzM, W_rf, W_ownA, W_setIx, WF_run, WF_ok, WF_arM, eq_self, setE_mk, List.map_cons, List.map_nil, List.length_cons, List.length_nil, List.replicate, List.cons_append, List.nil_append, List.append_nil, List.set_cons_zero, List.set_cons_succ, List.getElem?_cons_zero, List.getElem?_cons_succ, Nat.reduceAdd, Nat.reduceSub, Nat.sub_zero, if_true, if_false, Bool.false_eq_true, and_self, and_true, true_and, Int.reduceLT, Int.reduceLE, Nat.reduceLeDiff, Nat.reduceLT, decide_true, decide_false, Bool.not_true, Bool.not_false, addV_int, subV_int, negV_int, ltV_int, leV_int, gtV_int, geV_int, eqV_int, neV_int, eqV_str, neV_str, intV_int, intV_bl, lenV_fl, lenV_tup, listV_fl, tupleV_fl, ixS_fl, ixS_tup, enm_fl, tupV, lstV, szL, szl, addV_fl, W_ownIxM, W_appM, W_parVN, W_parNV, W_parNN, W_parVVN, minV_int, maxV_int, scI, W_selfM, WI_run, WI_end, WI_ok, Int.cast_ofNat_Int, Int.reduceBEq, Int.reduceBNe, beq_self_eq_true, Bool.not_eq_true, Bool.and_true, Bool.true_and, W_gtupM, W_opL, W_ownSet, W_meth, W_eqM, W_setFld, W_makeR, W_join, W_split, W_ifL, W_extM, W_itK, W_menu, ite_true, ite_false, List.set_set]
      refine next_ok Z i _ μ2 _ hw2 (by omega) (by omega) fun vb μ3 b0 b1 hw3 hl3 => ?_
      obtain ⟨a, rfl⟩ := Int.eq_ofNat_of_zero_le a0
      obtain ⟨b, rfl⟩ := Int.eq_ofNat_of_zero_le b0
      simp (config := { failIfUnchanged := false, decide := false }) only [W_bind, W_pure, W_no, W_opt, W_nox, W_op, W_un, W_C, W_varM, W_tst, W_boolM, W_ifB, W_notT, W_andT, W_orT, W_ifE, W_andV, W_orV, W_notV, W_chain, W_nil, W_cons, W_ap, W_apL, W_fl, W_nx, W_brk, W_cnt, W_seq, W_set, W_own, W_ret, W_retN, W_drop, W_if, W_call, W_make, W_fld, W_ix, W_part, W_noPart, W_sl, W_itL, W_itT, W_itS, W_for, W_forNil, W_while, W_gset, W_gcons, W_gnil, W_par2, W_fzM, W_rf, W_ownA, W_setIx, WF_run, WF_ok, WF_arM, eq_self, setE_mk, List.map_cons, List.map_nil, List.length_cons, List.length_nil, List.replicate, List.cons_append, List.nil_append, List.append_nil, List.set_cons_zero, List.set_cons_succ, List.getElem?_cons_zero, List.getElem?_cons_succ, Nat.reduceAdd, Nat.reduceSub, Nat.sub_zero, if_true, if_false, Bool.false_eq_true, and_self, and_true, true_and, Int.reduceLT, Int.reduceLE, Nat.reduceLeDiff, Nat.reduceLT, decide_true, decide_false, Bool.not_true, Bool.not_false, addV_int, subV_int, negV_int, ltV_int, leV_int, gtV_int, geV_int, eqV_int, neV_int, eqV_str, neV_str, intV_int, intV_bl, lenV_fl, lenV_tup, listV_fl, tupleV_fl, ixS_fl, ixS_tup, enm_fl, tupV, lstV, szL, szl, addV_fl, W_ownIxM, W_appM, W_parVN, W_parNV, W_parNN, W_parVVN, minV_int, maxV_int, scI, W_selfM, WI_run, WI_end, WI_ok, Int.cast_ofNat_Int, Int.reduceBEq, Int.reduceBNe, beq_self_eq_true, Bool.not_eq_true, Bool.and_true, Bool.true_and, W_gtupM, W_opL, W_ownSet, W_meth, W_eqM, W_setFld, W_makeR, W_join, W_split, W_ifL, W_extM, W_itK, W_menu, ite_true, ite_false, List.set_set, maxN]
      have hp : max a b < n := by omega
      generalize max a b = q at hp
      unfold m__law_row_r4 m__law_row_s5
      by_cases h10 : way < 10
      · have h10' : decide (way < 10) = true := decide_eq_true h10
        simp (config := { failIfUnchanged := false, decide := false }) only [W_bind, W_pure, W_no, W_opt, W_nox, W_op, W_un, W_C, W_varM, W_tst, W_boolM, W_ifB, W_notT, W_andT, W_orT, W_ifE, W_andV, W_orV, W_notV, W_chain, W_nil, W_cons, W_ap, W_apL, W_fl, W_nx, W_brk, W_cnt, W_seq, W_set, W_own, W_ret, W_retN, W_drop, W_if, W_call, W_make, W_fld, W_ix, W_part, W_noPart, W_sl, W_itL, W_itT, W_itS, W_for, W_forNil, W_while, W_gset, W_gcons, W_gnil, W_par2, W_fzM, W_rf, W_ownA, W_setIx, WF_run, WF_ok, WF_arM, eq_self, setE_mk, List.map_cons, List.map_nil, List.length_cons, List.length_nil, List.replicate, List.cons_append, List.nil_append, List.append_nil, List.set_cons_zero, List.set_cons_succ, List.getElem?_cons_zero, List.getElem?_cons_succ, Nat.reduceAdd, Nat.reduceSub, Nat.sub_zero, if_true, if_false, Bool.false_eq_true, and_self, and_true, true_and, Int.reduceLT, Int.reduceLE, Nat.reduceLeDiff, Nat.reduceLT, decide_true, decide_false, Bool.not_true, Bool.not_false, addV_int, subV_int, negV_int, ltV_int, leV_int, gtV_int, geV_int, eqV_int, neV_int, eqV_str, neV_str, intV_int, intV_bl, lenV_fl, lenV_tup, listV_fl, tupleV_fl, ixS_fl, ixS_tup, enm_fl, tupV, lstV, szL, szl, addV_fl, W_ownIxM, W_appM, W_parVN, W_parNV, W_parNN, W_parVVN, minV_int, maxV_int, scI, W_selfM, WI_run, WI_end, WI_ok, Int.cast_ofNat_Int, Int.reduceBEq, Int.reduceBNe, beq_self_eq_true, Bool.not_eq_true, Bool.and_true, Bool.true_and, W_gtupM, W_opL, W_ownSet, W_meth, W_eqM, W_setFld, W_makeR, W_join, W_split, W_ifL, W_extM, W_itK, W_menu, ite_true, ite_false, List.set_set, h10']
        refine one_ok Z i _ μ3 _ hw3 (by decide) (by decide) fun v μ4 hv hw4 hl4 => ?_
        obtain ⟨m, rfl, hm⟩ : ∃ m : Nat, v = nI m ∧ m ≤ 8 := by
          simp only [List.mem_cons, List.not_mem_nil, or_false] at hv
          rcases hv with rfl | rfl | rfl | rfl | rfl | rfl
          · exact ⟨0, rfl, by omega⟩
          · exact ⟨1, rfl, by omega⟩
          · exact ⟨2, rfl, by omega⟩
          · exact ⟨3, rfl, by omega⟩
          · exact ⟨4, rfl, by omega⟩
          · exact ⟨8, rfl, by omega⟩
        simp (config := { failIfUnchanged := false, decide := false }) only [W_bind, W_pure, W_no, W_opt, W_nox, W_op, W_un, W_C, W_varM, W_tst, W_boolM, W_ifB, W_notT, W_andT, W_orT, W_ifE, W_andV, W_orV, W_notV, W_chain, W_nil, W_cons, W_ap, W_apL, W_fl, W_nx, W_brk, W_cnt, W_seq, W_set, W_own, W_ret, W_retN, W_drop, W_if, W_call, W_make, W_fld, W_ix, W_part, W_noPart, W_sl, W_itL, W_itT, W_itS, W_for, W_forNil, W_while, W_gset, W_gcons, W_gnil, W_par2, W_fzM, W_rf, W_ownA, W_setIx, WF_run, WF_ok, WF_arM, eq_self, setE_mk, List.map_cons, List.map_nil, List.length_cons, List.length_nil, List.replicate, List.cons_append, List.nil_append, List.append_nil, List.set_cons_zero, List.set_cons_succ, List.getElem?_cons_zero, List.getElem?_cons_succ, Nat.reduceAdd, Nat.reduceSub, Nat.sub_zero, if_true, if_false, Bool.false_eq_true, and_self, and_true, true_and, Int.reduceLT, Int.reduceLE, Nat.reduceLeDiff, Nat.reduceLT, decide_true, decide_false, Bool.not_true, Bool.not_false, addV_int, subV_int, negV_int, ltV_int, leV_int, gtV_int, geV_int, eqV_int, neV_int, eqV_str, neV_str, intV_int, intV_bl, lenV_fl, lenV_tup, listV_fl, tupleV_fl, ixS_fl, ixS_tup, enm_fl, tupV, lstV, szL, szl, addV_fl, W_ownIxM, W_appM, W_parVN, W_parNV, W_parNN, W_parVVN, minV_int, maxV_int, scI, W_selfM, WI_run, WI_end, WI_ok, Int.cast_ofNat_Int, Int.reduceBEq, Int.reduceBNe, beq_self_eq_true, Bool.not_eq_true, Bool.and_true, Bool.true_and, W_gtupM, W_opL, W_ownSet, W_meth, W_eqM, W_setFld, W_makeR, W_join, W_split, W_ifL, W_extM, W_itK, W_menu, ite_true, ite_false, List.set_set]
        refine W_compI (fun acc s => ∃ (ps : List Nat) (μ5 : List SO), acc = ps.map nI ∧ (∀ p ∈ ps, p < n) ∧ s = ⟨[.val (.ref i), .val (nI n), .val (.int way), .val (nI q), .val (nI m), .emp], μ5⟩ ∧ Well μ5 i ∧ μ5.length = μ1.length) ?_
        have rm : rng1 [nI m] = some (rngL 0 m) := by
          have := rng1_of (j := (m : Int)) (by omega) (by omega)
          simpa using this
        simp (config := { failIfUnchanged := false, decide := false }) only [W_bind, W_pure, W_no, W_opt, W_nox, W_op, W_un, W_C, W_varM, W_tst, W_boolM, W_ifB, W_notT, W_andT, W_orT, W_ifE, W_andV, W_orV, W_notV, W_chain, W_nil, W_cons, W_ap, W_apL, W_fl, W_nx, W_brk, W_cnt, W_seq, W_set, W_own, W_ret, W_retN, W_drop, W_if, W_call, W_make, W_fld, W_ix, W_part, W_noPart, W_sl, W_itL, W_itT, W_itS, W_for, W_forNil, W_while, W_gset, W_gcons, W_gnil, W_par2, W_fzM, W_rf, W_ownA, W_setIx, WF_run, WF_ok, WF_arM, eq_self, setE_mk, List.map_cons, List.map_nil, List.length_cons, List.length_nil, List.replicate, List.cons_append, List.nil_append, List.append_nil, List.set_cons_zero, List.set_cons_succ, List.getElem?_cons_zero, List.getElem?_cons_succ, Nat.reduceAdd, Nat.reduceSub, Nat.sub_zero, if_true, if_false, Bool.false_eq_true, and_self, and_true, true_and, Int.reduceLT, Int.reduceLE, Nat.reduceLeDiff, Nat.reduceLT, decide_true, decide_false, Bool.not_true, Bool.not_false, addV_int, subV_int, negV_int, ltV_int, leV_int, gtV_int, geV_int, eqV_int, neV_int, eqV_str, neV_str, intV_int, intV_bl, lenV_fl, lenV_tup, listV_fl, tupleV_fl, ixS_fl, ixS_tup, enm_fl, tupV, lstV, szL, szl, addV_fl, W_ownIxM, W_appM, W_parVN, W_parNV, W_parNN, W_parVVN, minV_int, maxV_int, scI, W_selfM, WI_run, WI_end, WI_ok, Int.cast_ofNat_Int, Int.reduceBEq, Int.reduceBNe, beq_self_eq_true, Bool.not_eq_true, Bool.and_true, Bool.true_and, W_gtupM, W_opL, W_ownSet, W_meth, W_eqM, W_setFld, W_makeR, W_join, W_split, W_ifL, W_extM, W_itK, W_menu, ite_true, ite_false, List.set_set, rm]
        refine ⟨by simp [rngL]; omega, ⟨[], μ4, rfl, by simp, rfl, hw4, hl4.trans (hl3.trans hl2)⟩, ?_, ?_⟩
        · rintro acc x s ⟨ps, μ5, rfl, hps, rfl, hw5, hl5⟩
          simp (config := { failIfUnchanged := false, decide := false }) only [W_bind, W_pure, W_no, W_opt, W_nox, W_op, W_un, W_C, W_varM, W_tst, W_boolM, W_ifB, W_notT, W_andT, W_orT, W_ifE, W_andV, W_orV, W_notV, W_chain, W_nil, W_cons, W_ap, W_apL, W_fl, W_nx, W_brk, W_cnt, W_seq, W_set, W_own, W_ret, W_retN, W_drop, W_if, W_call, W_make, W_fld, W_ix, W_part, W_noPart, W_sl, W_itL, W_itT, W_itS, W_for, W_forNil, W_while, W_gset, W_gcons, W_gnil, W_par2, W_fzM, W_rf, W_ownA, W_setIx, WF_run, WF_ok, WF_arM, eq_self, setE_mk, List.map_cons, List.map_nil, List.length_cons, List.length_nil, List.replicate, List.cons_append, List.nil_append, List.append_nil, List.set_cons_zero, List.set_cons_succ, List.getElem?_cons_zero, List.getElem?_cons_succ, Nat.reduceAdd, Nat.reduceSub, Nat.sub_zero, if_true, if_false, Bool.false_eq_true, and_self, and_true, true_and, Int.reduceLT, Int.reduceLE, Nat.reduceLeDiff, Nat.reduceLT, decide_true, decide_false, Bool.not_true, Bool.not_false, addV_int, subV_int, negV_int, ltV_int, leV_int, gtV_int, geV_int, eqV_int, neV_int, eqV_str, neV_str, intV_int, intV_bl, lenV_fl, lenV_tup, listV_fl, tupleV_fl, ixS_fl, ixS_tup, enm_fl, tupV, lstV, szL, szl, addV_fl, W_ownIxM, W_appM, W_parVN, W_parNV, W_parNN, W_parVVN, minV_int, maxV_int, scI, W_selfM, WI_run, WI_end, WI_ok, Int.cast_ofNat_Int, Int.reduceBEq, Int.reduceBNe, beq_self_eq_true, Bool.not_eq_true, Bool.and_true, Bool.true_and, W_gtupM, W_opL, W_ownSet, W_meth, W_eqM, W_setFld, W_makeR, W_join, W_split, W_ifL, W_extM, W_itK, W_menu, ite_true, ite_false, List.set_set]
          refine next_ok Z i _ μ5 _ hw5 (by omega) (by omega) fun va μ6 a0 a1 hw6 hl6 => ?_
          simp (config := { failIfUnchanged := false, decide := false }) only [W_bind, W_pure, W_no, W_opt, W_nox, W_op, W_un, W_C, W_varM, W_tst, W_boolM, W_ifB, W_notT, W_andT, W_orT, W_ifE, W_andV, W_orV, W_notV, W_chain, W_nil, W_cons, W_ap, W_apL, W_fl, W_nx, W_brk, W_cnt, W_seq, W_set, W_own, W_ret, W_retN, W_drop, W_if, W_call, W_make, W_fld, W_ix, W_part, W_noPart, W_sl, W_itL, W_itT, W_itS, W_for, W_forNil, W_while, W_gset, W_gcons, W_gnil, W_par2, W_fzM, W_rf, W_ownA, W_setIx, WF_run, WF_ok, WF_arM, eq_self, setE_mk, List.map_cons, List.map_nil, List.length_cons, List.length_nil, List.replicate, List.cons_append, List.nil_append, List.append_nil, List.set_cons_zero, List.set_cons_succ, List.getElem?_cons_zero, List.getElem?_cons_succ, Nat.reduceAdd, Nat.reduceSub, Nat.sub_zero, if_true, if_false, Bool.false_eq_true, and_self, and_true, true_and, Int.reduceLT, Int.reduceLE, Nat.reduceLeDiff, Nat.reduceLT, decide_true, decide_false, Bool.not_true, Bool.not_false, addV_int, subV_int, negV_int, ltV_int, leV_int, gtV_int, geV_int, eqV_int, neV_int, eqV_str, neV_str, intV_int, intV_bl, lenV_fl, lenV_tup, listV_fl, tupleV_fl, ixS_fl, ixS_tup, enm_fl, tupV, lstV, szL, szl, addV_fl, W_ownIxM, W_appM, W_parVN, W_parNV, W_parNN, W_parVVN, minV_int, maxV_int, scI, W_selfM, WI_run, WI_end, WI_ok, Int.cast_ofNat_Int, Int.reduceBEq, Int.reduceBNe, beq_self_eq_true, Bool.not_eq_true, Bool.and_true, Bool.true_and, W_gtupM, W_opL, W_ownSet, W_meth, W_eqM, W_setFld, W_makeR, W_join, W_split, W_ifL, W_extM, W_itK, W_menu, ite_true, ite_false, List.set_set]
          refine next_ok Z i _ μ6 _ hw6 (by omega) (by omega) fun vb μ7 b0 b1 hw7 hl7 => ?_
          obtain ⟨a', rfl⟩ := Int.eq_ofNat_of_zero_le a0
          obtain ⟨b', rfl⟩ := Int.eq_ofNat_of_zero_le b0
          simp (config := { failIfUnchanged := false, decide := false }) only [W_bind, W_pure, W_no, W_opt, W_nox, W_op, W_un, W_C, W_varM, W_tst, W_boolM, W_ifB, W_notT, W_andT, W_orT, W_ifE, W_andV, W_orV, W_notV, W_chain, W_nil, W_cons, W_ap, W_apL, W_fl, W_nx, W_brk, W_cnt, W_seq, W_set, W_own, W_ret, W_retN, W_drop, W_if, W_call, W_make, W_fld, W_ix, W_part, W_noPart, W_sl, W_itL, W_itT, W_itS, W_for, W_forNil, W_while, W_gset, W_gcons, W_gnil, W_par2, W_fzM, W_rf, W_ownA, W_setIx, WF_run, WF_ok, WF_arM, eq_self, setE_mk, List.map_cons, List.map_nil, List.length_cons, List.length_nil, List.replicate, List.cons_append, List.nil_append, List.append_nil, List.set_cons_zero, List.set_cons_succ, List.getElem?_cons_zero, List.getElem?_cons_succ, Nat.reduceAdd, Nat.reduceSub, Nat.sub_zero, if_true, if_false, Bool.false_eq_true, and_self, and_true, true_and, Int.reduceLT, Int.reduceLE, Nat.reduceLeDiff, Nat.reduceLT, decide_true, decide_false, Bool.not_true, Bool.not_false, addV_int, subV_int, negV_int, ltV_int, leV_int, gtV_int, geV_int, eqV_int, neV_int, eqV_str, neV_str, intV_int, intV_bl, lenV_fl, lenV_tup, listV_fl, tupleV_fl, ixS_fl, ixS_tup, enm_fl, tupV, lstV, szL, szl, addV_fl, W_ownIxM, W_appM, W_parVN, W_parNV, W_parNN, W_parVVN, minV_int, maxV_int, scI, W_selfM, WI_run, WI_end, WI_ok, Int.cast_ofNat_Int, Int.reduceBEq, Int.reduceBNe, beq_self_eq_true, Bool.not_eq_true, Bool.and_true, Bool.true_and, W_gtupM, W_opL, W_ownSet, W_meth, W_eqM, W_setFld, W_makeR, W_join, W_split, W_ifL, W_extM, W_itK, W_menu, ite_true, ite_false, List.set_set, maxN]
          refine ⟨ps ++ [max a' b'], μ7, by simp, ?_, rfl, hw7, hl7.trans (hl6.trans hl5)⟩
          intro p hp'
          rcases List.mem_append.mp hp' with h | h
          · exact hps p h
          · have := List.mem_singleton.mp h
            omega
        · rintro acc s hacc ⟨ps, μ5, rfl, hps, rfl, hw5, hl5⟩
          have hlen : ps.length = m := by simpa [rngL] using hacc
          simp (config := { failIfUnchanged := false, decide := false }) only [W_bind, W_pure, W_no, W_opt, W_nox, W_op, W_un, W_C, W_varM, W_tst, W_boolM, W_ifB, W_notT, W_andT, W_orT, W_ifE, W_andV, W_orV, W_notV, W_chain, W_nil, W_cons, W_ap, W_apL, W_fl, W_nx, W_brk, W_cnt, W_seq, W_set, W_own, W_ret, W_retN, W_drop, W_if, W_call, W_make, W_fld, W_ix, W_part, W_noPart, W_sl, W_itL, W_itT, W_itS, W_for, W_forNil, W_while, W_gset, W_gcons, W_gnil, W_par2, W_fzM, W_rf, W_ownA, W_setIx, WF_run, WF_ok, WF_arM, eq_self, setE_mk, List.map_cons, List.map_nil, List.length_cons, List.length_nil, List.replicate, List.cons_append, List.nil_append, List.append_nil, List.set_cons_zero, List.set_cons_succ, List.getElem?_cons_zero, List.getElem?_cons_succ, Nat.reduceAdd, Nat.reduceSub, Nat.sub_zero, if_true, if_false, Bool.false_eq_true, and_self, and_true, true_and, Int.reduceLT, Int.reduceLE, Nat.reduceLeDiff, Nat.reduceLT, decide_true, decide_false, Bool.not_true, Bool.not_false, addV_int, subV_int, negV_int, ltV_int, leV_int, gtV_int, geV_int, eqV_int, neV_int, eqV_str, neV_str, intV_int, intV_bl, lenV_fl, lenV_tup, listV_fl, tupleV_fl, ixS_fl, ixS_tup, enm_fl, tupV, lstV, szL, szl, addV_fl, W_ownIxM, W_appM, W_parVN, W_parNV, W_parNN, W_parVVN, minV_int, maxV_int, scI, W_selfM, WI_run, WI_end, WI_ok, Int.cast_ofNat_Int, Int.reduceBEq, Int.reduceBNe, beq_self_eq_true, Bool.not_eq_true, Bool.and_true, Bool.true_and, W_gtupM, W_opL, W_ownSet, W_meth, W_eqM, W_setFld, W_makeR, W_join, W_split, W_ifL, W_extM, W_itK, W_menu, ite_true, ite_false, List.set_set]
          exact hQ (.cat ps) _ μ5 ⟨by omega, hps⟩ hw5 hl5
      · have h10' : decide (way < 10) = false := decide_eq_false h10
        unfold m__law_row_r5 m__law_row_s6
        by_cases h12 : way < 12
        · have h12' : decide (way < 12) = true := decide_eq_true h12
          simp (config := { failIfUnchanged := false, decide := false }) only [W_bind, W_pure, W_no, W_opt, W_nox, W_op, W_un, W_C, W_varM, W_tst, W_boolM, W_ifB, W_notT, W_andT, W_orT, W_ifE, W_andV, W_orV, W_notV, W_chain, W_nil, W_cons, W_ap, W_apL, W_fl, W_nx, W_brk, W_cnt, W_seq, W_set, W_own, W_ret, W_retN, W_drop, W_if, W_call, W_make, W_fld, W_ix, W_part, W_noPart, W_sl, W_itL, W_itT, W_itS, W_for, W_forNil, W_while, W_gset, W_gcons, W_gnil, W_par2, W_fzM, W_rf, W_ownA, W_setIx, WF_run, WF_ok, WF_arM, eq_self, setE_mk, List.map_cons, List.map_nil, List.length_cons, List.length_nil, List.replicate, List.cons_append, List.nil_append, List.append_nil, List.set_cons_zero, List.set_cons_succ, List.getElem?_cons_zero, List.getElem?_cons_succ, Nat.reduceAdd, Nat.reduceSub, Nat.sub_zero, if_true, if_false, Bool.false_eq_true, and_self, and_true, true_and, Int.reduceLT, Int.reduceLE, Nat.reduceLeDiff, Nat.reduceLT, decide_true, decide_false, Bool.not_true, Bool.not_false, addV_int, subV_int, negV_int, ltV_int, leV_int, gtV_int, geV_int, eqV_int, neV_int, eqV_str, neV_str, intV_int, intV_bl, lenV_fl, lenV_tup, listV_fl, tupleV_fl, ixS_fl, ixS_tup, enm_fl, tupV, lstV, szL, szl, addV_fl, W_ownIxM, W_appM, W_parVN, W_parNV, W_parNN, W_parVVN, minV_int, maxV_int, scI, W_selfM, WI_run, WI_end, WI_ok, Int.cast_ofNat_Int, Int.reduceBEq, Int.reduceBNe, beq_self_eq_true, Bool.not_eq_true, Bool.and_true, Bool.true_and, W_gtupM, W_opL, W_ownSet, W_meth, W_eqM, W_setFld, W_makeR, W_join, W_split, W_ifL, W_extM, W_itK, W_menu, ite_true, ite_false, List.set_set, h10', h12']
          refine next_ok Z i _ μ3 _ hw3 (by decide) (by decide) fun v μ4 v0 v1 hw4 hl4 => ?_
          obtain ⟨k, rfl⟩ := Int.eq_ofNat_of_zero_le v0
          simp (config := { failIfUnchanged := false, decide := false }) only [W_bind, W_pure, W_no, W_opt, W_nox, W_op, W_un, W_C, W_varM, W_tst, W_boolM, W_ifB, W_notT, W_andT, W_orT, W_ifE, W_andV, W_orV, W_notV, W_chain, W_nil, W_cons, W_ap, W_apL, W_fl, W_nx, W_brk, W_cnt, W_seq, W_set, W_own, W_ret, W_retN, W_drop, W_if, W_call, W_make, W_fld, W_ix, W_part, W_noPart, W_sl, W_itL, W_itT, W_itS, W_for, W_forNil, W_while, W_gset, W_gcons, W_gnil, W_par2, W_fzM, W_rf, W_ownA, W_setIx, WF_run, WF_ok, WF_arM, eq_self, setE_mk, List.map_cons, List.map_nil, List.length_cons, List.length_nil, List.replicate, List.cons_append, List.nil_append, List.append_nil, List.set_cons_zero, List.set_cons_succ, List.getElem?_cons_zero, List.getElem?_cons_succ, Nat.reduceAdd, Nat.reduceSub, Nat.sub_zero, if_true, if_false, Bool.false_eq_true, and_self, and_true, true_and, Int.reduceLT, Int.reduceLE, Nat.reduceLeDiff, Nat.reduceLT, decide_true, decide_false, Bool.not_true, Bool.not_false, addV_int, subV_int, negV_int, ltV_int, leV_int, gtV_int, geV_int, eqV_int, neV_int, eqV_str, neV_str, intV_int, intV_bl, lenV_fl, lenV_tup, listV_fl, tupleV_fl, ixS_fl, ixS_tup, enm_fl, tupV, lstV, szL, szl, addV_fl, W_ownIxM, W_appM, W_parVN, W_parNV, W_parNN, W_parVVN, minV_int, maxV_int, scI, W_selfM, WI_run, WI_end, WI_ok, Int.cast_ofNat_Int, Int.reduceBEq, Int.reduceBNe, beq_self_eq_true, Bool.not_eq_true, Bool.and_true, Bool.true_and, W_gtupM, W_opL, W_ownSet, W_meth, W_eqM, W_setFld, W_makeR, W_join, W_split, W_ifL, W_extM, W_itK, W_menu, ite_true, ite_false, List.set_set]
          exact hQ (.nest k q) _ μ4 ⟨by omega, hp⟩ hw4 (hl4.trans (hl3.trans hl2))
        · have h12' : decide (way < 12) = false := decide_eq_false h12
          unfold m__law_row_r6 m__law_row_s7
          by_cases he : way = 12
          · subst he
            simp (config := { failIfUnchanged := false, decide := false }) only [W_bind, W_pure, W_no, W_opt, W_nox, W_op, W_un, W_C, W_varM, W_tst, W_boolM, W_ifB, W_notT, W_andT, W_orT, W_ifE, W_andV, W_orV, W_notV, W_chain, W_nil, W_cons, W_ap, W_apL, W_fl, W_nx, W_brk, W_cnt, W_seq, W_set, W_own, W_ret, W_retN, W_drop, W_if, W_call, W_make, W_fld, W_ix, W_part, W_noPart, W_sl, W_itL, W_itT, W_itS, W_for, W_forNil, W_while, W_gset, W_gcons, W_gnil, W_par2, W_fzM, W_rf, W_ownA, W_setIx, WF_run, WF_ok, WF_arM, eq_self, setE_mk, List.map_cons, List.map_nil, List.length_cons, List.length_nil, List.replicate, List.cons_append, List.nil_append, List.append_nil, List.set_cons_zero, List.set_cons_succ, List.getElem?_cons_zero, List.getElem?_cons_succ, Nat.reduceAdd, Nat.reduceSub, Nat.sub_zero, if_true, if_false, Bool.false_eq_true, and_self, and_true, true_and, Int.reduceLT, Int.reduceLE, Nat.reduceLeDiff, Nat.reduceLT, decide_true, decide_false, Bool.not_true, Bool.not_false, addV_int, subV_int, negV_int, ltV_int, leV_int, gtV_int, geV_int, eqV_int, neV_int, eqV_str, neV_str, intV_int, intV_bl, lenV_fl, lenV_tup, listV_fl, tupleV_fl, ixS_fl, ixS_tup, enm_fl, tupV, lstV, szL, szl, addV_fl, W_ownIxM, W_appM, W_parVN, W_parNV, W_parNN, W_parVVN, minV_int, maxV_int, scI, W_selfM, WI_run, WI_end, WI_ok, Int.cast_ofNat_Int, Int.reduceBEq, Int.reduceBNe, beq_self_eq_true, Bool.not_eq_true, Bool.and_true, Bool.true_and, W_gtupM, W_opL, W_ownSet, W_meth, W_eqM, W_setFld, W_makeR, W_join, W_split, W_ifL, W_extM, W_itK, W_menu, ite_true, ite_false, List.set_set, h10', h12']
            exact hQ (.align q) _ μ3 hp hw3 (hl3.trans hl2)
          · have he' : (way == 12) = false := beq_eq_false_iff_ne.mpr he
            simp (config := { failIfUnchanged := false, decide := false }) only [W_bind, W_pure, W_no, W_opt, W_nox, W_op, W_un, W_C, W_varM, W_tst, W_boolM, W_ifB, W_notT, W_andT, W_orT, W_ifE, W_andV, W_orV, W_notV, W_chain, W_nil, W_cons, W_ap, W_apL, W_fl, W_nx, W_brk, W_cnt, W_seq, W_set, W_own, W_ret, W_retN, W_drop, W_if, W_call, W_make, W_fld, W_ix, W_part, W_noPart, W_sl, W_itL, W_itT, W_itS, W_for, W_forNil, W_while, W_gset, W_gcons, W_gnil, W_par2, W_fzM, W_rf, W_ownA, W_setIx, WF_run, WF_ok, WF_arM, eq_self, setE_mk, List.map_cons, List.map_nil, List.length_cons, List.length_nil, List.replicate, List.cons_append, List.nil_append, List.append_nil, List.set_cons_zero, List.set_cons_succ, List.getElem?_cons_zero, List.getElem?_cons_succ, Nat.reduceAdd, Nat.reduceSub, Nat.sub_zero, if_true, if_false, Bool.false_eq_true, and_self, and_true, true_and, Int.reduceLT, Int.reduceLE, Nat.reduceLeDiff, Nat.reduceLT, decide_true, decide_false, Bool.not_true, Bool.not_false, addV_int, subV_int, negV_int, ltV_int, leV_int, gtV_int, geV_int, eqV_int, neV_int, eqV_str, neV_str, intV_int, intV_bl, lenV_fl, lenV_tup, listV_fl, tupleV_fl, ixS_fl, ixS_tup, enm_fl, tupV, lstV, szL, szl, addV_fl, W_ownIxM, W_appM, W_parVN, W_parNV, W_parNN, W_parVVN, minV_int, maxV_int, scI, W_selfM, WI_run, WI_end, WI_ok, Int.cast_ofNat_Int, Int.reduceBEq, Int.reduceBNe, beq_self_eq_true, Bool.not_eq_true, Bool.and_true, Bool.true_and, W_gtupM, W_opL, W_ownSet, W_meth, W_eqM, W_setFld, W_makeR, W_join, W_split, W_ifL, W_extM, W_itK, W_menu, ite_true, ite_false, List.set_set, h10', h12', he']
            exact hQ (.group q) _ μ3 hp hw3 (hl3.trans hl2)
theorem row_draw (Z : Ad) (i n : Nat) (hn : n ≤ 200) (μ : List SO) (Q : IV → List SO → Prop) (hw : Well μ i) (hQ : ∀ (r : Row) μ', r.ok n → Well μ' i → μ'.length = μ.length → Q r.iv μ') :
    WF (fn__law_row Z [.ref i, nI n] μ) Q := by
  unfold fn__law_row m__law_row m__law_row_s1
  by_cases h0 : 0 < n
  · have h0' : decide ((0 : Int) < (n : Int)) = true := decide_eq_true (by omega)
    simp (config := { failIfUnchanged := false, decide := false }) only [W_bind, W_pure, W_no, W_opt, W_nox, W_op, W_un, W_C, W_varM, W_tst, W_boolM, W_ifB, W_notT, W_andT, W_orT, W_ifE, W_andV, W_orV, W_notV, W_chain, W_nil, W_cons, W_ap, W_apL, W_fl, W_nx, W_brk, W_cnt, W_seq, W_set, W_own, W_ret, W_retN, W_drop, W_if, W_call, W_make, W_fld, W_ix, W_part, W_noPart, W_sl, W_itL, W_itT, W_itS, W_for, W_forNil, W_while, W_gset, W_gcons, W_gnil, W_par2, W_fzM, W_rf, W_ownA, W_setIx, WF_run, WF_ok, WF_arM, eq_self, setE_mk, List.map_cons, List.map_nil, List.length_cons, List.length_nil, List.replicate, List.cons_append, List.nil_append, List.append_nil, List.set_cons_zero, List.set_cons_succ, List.getElem?_cons_zero, List.getElem?_cons_succ, Nat.reduceAdd, Nat.reduceSub, Nat.sub_zero, if_true, if_false, Bool.false_eq_true, and_self, and_true, true_and, Int.reduceLT, Int.reduceLE, Nat.reduceLeDiff, Nat.reduceLT, decide_true, decide_false, Bool.not_true, Bool.not_false, addV_int, subV_int, negV_int, ltV_int, leV_int, gtV_int, geV_int, eqV_int, neV_int, eqV_str, neV_str, intV_int, intV_bl, lenV_fl, lenV_tup, listV_fl, tupleV_fl, ixS_fl, ixS_tup, enm_fl, tupV, lstV, szL, szl, addV_fl, W_ownIxM, W_appM, W_parVN, W_parNV, W_parNN, W_parVVN, minV_int, maxV_int, scI, W_selfM, WI_run, WI_end, WI_ok, Int.cast_ofNat_Int, Int.reduceBEq, Int.reduceBNe, beq_self_eq_true, Bool.not_eq_true, Bool.and_true, Bool.true_and, W_gtupM, W_opL, W_ownSet, W_meth, W_eqM, W_setFld, W_makeR, W_join, W_split, W_ifL, W_extM, W_itK, W_menu, ite_true, ite_false, List.set_set, h0']
    refine next_ok Z i _ μ _ hw (by decide) (by decide) fun way μ1 w0 w1 hw1 hl1 => ?_
    simp (config := { failIfUnchanged := false, decide := false }) only [W_bind, W_pure, W_no, W_opt, W_nox, W_op, W_un, W_C, W_varM, W_tst, W_boolM, W_ifB, W_notT, W_andT, W_orT, W_ifE, W_andV, W_orV, W_notV, W_chain, W_nil, W_cons, W_ap, W_apL, W_fl, W_nx, W_brk, W_cnt, W_seq, W_set, W_own, W_ret, W_retN, W_drop, W_if, W_call, W_make, W_fld, W_ix, W_part, W_noPart, W_sl, W_itL, W_itT, W_itS, W_for, W_forNil, W_while, W_gset, W_gcons, W_gnil, W_par2, W_fzM, W_rf, W_ownA, W_setIx, WF_run, WF_ok, WF_arM, eq_self, setE_mk, List.map_cons, List.map_nil, List.length_cons, List.length_nil, List.replicate, List.cons_append, List.nil_append, List.append_nil, List.set_cons_zero, List.set_cons_succ, List.getElem?_cons_zero, List.getElem?_cons_succ, Nat.reduceAdd, Nat.reduceSub, Nat.sub_zero, if_true, if_false, Bool.false_eq_true, and_self, and_true, true_and, Int.reduceLT, Int.reduceLE, Nat.reduceLeDiff, Nat.reduceLT, decide_true, decide_false, Bool.not_true, Bool.not_false, addV_int, subV_int, negV_int, ltV_int, leV_int, gtV_int, geV_int, eqV_int, neV_int, eqV_str, neV_str, intV_int, intV_bl, lenV_fl, lenV_tup, listV_fl, tupleV_fl, ixS_fl, ixS_tup, enm_fl, tupV, lstV, szL, szl, addV_fl, W_ownIxM, W_appM, W_parVN, W_parNV, W_parNN, W_parVVN, minV_int, maxV_int, scI, W_selfM, WI_run, WI_end, WI_ok, Int.cast_ofNat_Int, Int.reduceBEq, Int.reduceBNe, beq_self_eq_true, Bool.not_eq_true, Bool.and_true, Bool.true_and, W_gtupM, W_opL, W_ownSet, W_meth, W_eqM, W_setFld, W_makeR, W_join, W_split, W_ifL, W_extM, W_itK, W_menu, ite_true, ite_false, List.set_set]
    exact row_tail Z i n hn way w0 w1 (by omega) μ1 _ hw1 fun r env μ' ho hw' hl' => hQ r μ' ho hw' (hl'.trans hl1)
  · have h0' : decide ((0 : Int) < (n : Int)) = false := decide_eq_false (by omega)
    simp (config := { failIfUnchanged := false, decide := false }) only [W_bind, W_pure, W_no, W_opt, W_nox, W_op, W_un, W_C, W_varM, W_tst, W_boolM, W_ifB, W_notT, W_andT, W_orT, W_ifE, W_andV, W_orV, W_notV, W_chain, W_nil, W_cons, W_ap, W_apL, W_fl, W_nx, W_brk, W_cnt, W_seq, W_set, W_own, W_ret, W_retN, W_drop, W_if, W_call, W_make, W_fld, W_ix, W_part, W_noPart, W_sl, W_itL, W_itT, W_itS, W_for, W_forNil, W_while, W_gset, W_gcons, W_gnil, W_par2, W_fzM, W_rf, W_ownA, W_setIx, WF_run, WF_ok, WF_arM, eq_self, setE_mk, List.map_cons, List.map_nil, List.length_cons, List.length_nil, List.replicate, List.cons_append, List.nil_append, List.append_nil, List.set_cons_zero, List.set_cons_succ, List.getElem?_cons_zero, List.getElem?_cons_succ, Nat.reduceAdd, Nat.reduceSub, Nat.sub_zero, if_true, if_false, Bool.false_eq_true, and_self, and_true, true_and, Int.reduceLT, Int.reduceLE, Nat.reduceLeDiff, Nat.reduceLT, decide_true, decide_false, Bool.not_true, Bool.not_false, addV_int, subV_int, negV_int, ltV_int, leV_int, gtV_int, geV_int, eqV_int, neV_int, eqV_str, neV_str, intV_int, intV_bl, lenV_fl, lenV_tup, listV_fl, tupleV_fl, ixS_fl, ixS_tup, enm_fl, tupV, lstV, szL, szl, addV_fl, W_ownIxM, W_appM, W_parVN, W_parNV, W_parNN, W_parVVN, minV_int, maxV_int, scI, W_selfM, WI_run, WI_end, WI_ok, Int.cast_ofNat_Int, Int.reduceBEq, Int.reduceBNe, beq_self_eq_true, Bool.not_eq_true, Bool.and_true, Bool.true_and, W_gtupM, W_opL, W_ownSet, W_meth, W_eqM, W_setFld, W_makeR, W_join, W_split, W_ifL, W_extM, W_itK, W_menu, ite_true, ite_false, List.set_set, h0']
    refine next_ok Z i _ μ _ hw (by decide) (by decide) fun way μ1 w0 w1 hw1 hl1 => ?_
    simp (config := { failIfUnchanged := false, decide := false }) only [W_bind, W_pure, W_no, W_opt, W_nox, W_op, W_un, W_C, W_varM, W_tst, W_boolM, W_ifB, W_notT, W_andT, W_orT, W_ifE, W_andV, W_orV, W_notV, W_chain, W_nil, W_cons, W_ap, W_apL, W_fl, W_nx, W_brk, W_cnt, W_seq, W_set, W_own, W_ret, W_retN, W_drop, W_if, W_call, W_make, W_fld, W_ix, W_part, W_noPart, W_sl, W_itL, W_itT, W_itS, W_for, W_forNil, W_while, W_gset, W_gcons, W_gnil, W_par2, W_fzM, W_rf, W_ownA, W_setIx, WF_run, WF_ok, WF_arM, eq_self, setE_mk, List.map_cons, List.map_nil, List.length_cons, List.length_nil, List.replicate, List.cons_append, List.nil_append, List.append_nil, List.set_cons_zero, List.set_cons_succ, List.getElem?_cons_zero, List.getElem?_cons_succ, Nat.reduceAdd, Nat.reduceSub, Nat.sub_zero, if_true, if_false, Bool.false_eq_true, and_self, and_true, true_and, Int.reduceLT, Int.reduceLE, Nat.reduceLeDiff, Nat.reduceLT, decide_true, decide_false, Bool.not_true, Bool.not_false, addV_int, subV_int, negV_int, ltV_int, leV_int, gtV_int, geV_int, eqV_int, neV_int, eqV_str, neV_str, intV_int, intV_bl, lenV_fl, lenV_tup, listV_fl, tupleV_fl, ixS_fl, ixS_tup, enm_fl, tupV, lstV, szL, szl, addV_fl, W_ownIxM, W_appM, W_parVN, W_parNV, W_parNN, W_parVVN, minV_int, maxV_int, scI, W_selfM, WI_run, WI_end, WI_ok, Int.cast_ofNat_Int, Int.reduceBEq, Int.reduceBNe, beq_self_eq_true, Bool.not_eq_true, Bool.and_true, Bool.true_and, W_gtupM, W_opL, W_ownSet, W_meth, W_eqM, W_setFld, W_makeR, W_join, W_split, W_ifL, W_extM, W_itK, W_menu, ite_true, ite_false, List.set_set]
    exact row_tail Z i n hn way w0 (by omega) (by omega) μ1 _ hw1 fun r env μ' ho hw' hl' => hQ r μ' ho hw' (hl'.trans hl1)
theorem rows_draw (Z : Ad) (i m : Nat) (hm : 0 < m) (hm2 : m ≤ 190) (μ : List SO) (Q : IV → List SO → Prop) (hw : Well μ i) (hQ : ∀ rs μ', rs ≠ [] → rs.length ≤ m → RowsOk rs → Well μ' i → Q (rowsV rs) μ') :
    WF (fn__law_rows Z [.ref i, nI m] μ) Q := by
  unfold fn__law_rows m__law_rows
  simp (config := { failIfUnchanged := false, decide := false }) only [W_bind, W_pure, W_no, W_opt, W_nox, W_op, W_un, W_C, W_varM, W_tst, W_boolM, W_ifB, W_notT, W_andT, W_orT, W_ifE, W_andV, W_orV, W_notV, W_chain, W_nil, W_cons, W_ap, W_apL, W_fl, W_nx, W_brk, W_cnt, W_seq, W_set, W_own, W_ret, W_retN, W_drop, W_if, W_call, W_make, W_fld, W_ix, W_part, W_noPart, W_sl, W_itL, W_itT, W_itS, W_for, W_forNil, W_while, W_gset, W_gcons, W_gnil, W_par2, W_fzM, W_rf, W_ownA, W_setIx, WF_run, WF_ok, WF_arM, eq_self, setE_mk, List.map_cons, List.map_nil, List.length_cons, List.length_nil, List.replicate, List.cons_append, List.nil_append, List.append_nil, List.set_cons_zero, List.set_cons_succ, List.getElem?_cons_zero, List.getElem?_cons_succ, Nat.reduceAdd, Nat.reduceSub, Nat.sub_zero, if_true, if_false, Bool.false_eq_true, and_self, and_true, true_and, Int.reduceLT, Int.reduceLE, Nat.reduceLeDiff, Nat.reduceLT, decide_true, decide_false, Bool.not_true, Bool.not_false, addV_int, subV_int, negV_int, ltV_int, leV_int, gtV_int, geV_int, eqV_int, neV_int, eqV_str, neV_str, intV_int, intV_bl, lenV_fl, lenV_tup, listV_fl, tupleV_fl, ixS_fl, ixS_tup, enm_fl, tupV, lstV, szL, szl, addV_fl, W_ownIxM, W_appM, W_parVN, W_parNV, W_parNN, W_parVVN, minV_int, maxV_int, scI, W_selfM, WI_run, WI_end, WI_ok, Int.cast_ofNat_Int, Int.reduceBEq, Int.reduceBNe, beq_self_eq_true, Bool.not_eq_true, Bool.and_true, Bool.true_and, W_gtupM, W_opL, W_ownSet, W_meth, W_eqM, W_setFld, W_makeR, W_join, W_split, W_ifL, W_extM, W_itK, W_menu, ite_true, ite_false, List.set_set]
  refine next_ok Z i _ μ _ hw (by omega) (by omega) fun v μ1 v0 v1 hw1 hl1 => ?_
  obtain ⟨k, rfl⟩ := Int.eq_ofNat_of_zero_le v0
  have rk : rng1 [.int (1 + (k : Int))] = some (rngL 0 ((1 : Int) + (k : Int)).toNat) := rng1_of (by omega) (by omega)
  simp (config := { failIfUnchanged := false, decide := false }) only [W_bind, W_pure, W_no, W_opt, W_nox, W_op, W_un, W_C, W_varM, W_tst, W_boolM, W_ifB, W_notT, W_andT, W_orT, W_ifE, W_andV, W_orV, W_notV, W_chain, W_nil, W_cons, W_ap, W_apL, W_fl, W_nx, W_brk, W_cnt, W_seq, W_set, W_own, W_ret, W_retN, W_drop, W_if, W_call, W_make, W_fld, W_ix, W_part, W_noPart, W_sl, W_itL, W_itT, W_itS, W_for, W_forNil, W_while, W_gset, W_gcons, W_gnil, W_par2, W_fzM, W_rf, W_ownA, W_setIx, WF_run, WF_ok, WF_arM, eq_self, setE_mk, List.map_cons, List.map_nil, List.length_cons, List.length_nil, List.replicate, List.cons_append, List.nil_append, List.append_nil, List.set_cons_zero, List.set_cons_succ, List.getElem?_cons_zero, List.getElem?_cons_succ, Nat.reduceAdd, Nat.reduceSub, Nat.sub_zero, if_true, if_false, Bool.false_eq_true, and_self, and_true, true_and, Int.reduceLT, Int.reduceLE, Nat.reduceLeDiff, Nat.reduceLT, decide_true, decide_false, Bool.not_true, Bool.not_false, addV_int, subV_int, negV_int, ltV_int, leV_int, gtV_int, geV_int, eqV_int, neV_int, eqV_str, neV_str, intV_int, intV_bl, lenV_fl, lenV_tup, listV_fl, tupleV_fl, ixS_fl, ixS_tup, enm_fl, tupV, lstV, szL, szl, addV_fl, W_ownIxM, W_appM, W_parVN, W_parNV, W_parNN, W_parVVN, minV_int, maxV_int, scI, W_selfM, WI_run, WI_end, WI_ok, Int.cast_ofNat_Int, Int.reduceBEq, Int.reduceBNe, beq_self_eq_true, Bool.not_eq_true, Bool.and_true, Bool.true_and, W_gtupM, W_opL, W_ownSet, W_meth, W_eqM, W_setFld, W_makeR, W_join, W_split, W_ifL, W_extM, W_itK, W_menu, ite_true, ite_false, List.set_set, rk]
  refine W_forI (fun j s => ∃ (rs : List Row) (μ2 : List SO) (e : Slot), rs.length = j ∧ RowsOk rs ∧ s = ⟨[.val (.ref i), .val (nI m), .own (rs.map Row.iv), e], μ2⟩ ∧ Well μ2 i) _ 0 _ ⟨[], μ1, .emp, rfl, (fun k r e => by simp at e), rfl, hw1⟩ ?_ ?_
  · rintro j x s hj ⟨rs, μ2, e, hlen, hok, rfl, hw2⟩
    rw [Nat.zero_add] at hlen
    have hx : x = nI j ∧ j < k + 1 := by
      unfold rngL at hj
      rw [List.getElem?_map] at hj
      cases e2 : (List.range ((1 : Int) + (k : Int)).toNat)[j]? with
      | none => rw [e2] at hj; cases hj
      | some y =>
        rw [e2] at hj
        have h1 := (List.getElem?_eq_some_iff.mp e2).1
        rw [List.length_range] at h1
        rw [List.getElem?_range h1] at e2
        cases e2
        cases hj
        exact ⟨by simp, by omega⟩
    obtain ⟨rfl, hjk⟩ := hx
    simp (config := { failIfUnchanged := false, decide := false }) only [W_bind, W_pure, W_no, W_opt, W_nox, W_op, W_un, W_C, W_varM, W_tst, W_boolM, W_ifB, W_notT, W_andT, W_orT, W_ifE, W_andV, W_orV, W_notV, W_chain, W_nil, W_cons, W_ap, W_apL, W_fl, W_nx, W_brk, W_cnt, W_seq, W_set, W_own, W_ret, W_retN, W_drop, W_if, W_call, W_make, W_fld, W_ix, W_part, W_noPart, W_sl, W_itL, W_itT, W_itS, W_for, W_forNil, W_while, W_gset, W_gcons, W_gnil, W_par2, W_fzM, W_rf, W_ownA, W_setIx, WF_run, WF_ok, WF_arM, eq_self, setE_mk, List.map_cons, List.map_nil, List.length_cons, List.length_nil, List.replicate, List.cons_append, List.nil_append, List.append_nil, List.set_cons_zero, List.set_cons_succ, List.getElem?_cons_zero, List.getElem?_cons_succ, Nat.reduceAdd, Nat.reduceSub, Nat.sub_zero, if_true, if_false, Bool.false_eq_true, and_self, and_true, true_and, Int.reduceLT, Int.reduceLE, Nat.reduceLeDiff, Nat.reduceLT, decide_true, decide_false, Bool.not_true, Bool.not_false, addV_int, subV_int, negV_int, ltV_int, leV_int, gtV_int, geV_int, eqV_int, neV_int, eqV_str, neV_str, intV_int, intV_bl, lenV_fl, lenV_tup, listV_fl, tupleV_fl, ixS_fl, ixS_tup, enm_fl, tupV, lstV, szL, szl, addV_fl, W_ownIxM, W_appM, W_parVN, W_parNV, W_parNN, W_parVVN, minV_int, maxV_int, scI, W_selfM, WI_run, WI_end, WI_ok, Int.cast_ofNat_Int, Int.reduceBEq, Int.reduceBNe, beq_self_eq_true, Bool.not_eq_true, Bool.and_true, Bool.true_and, W_gtupM, W_opL, W_ownSet, W_meth, W_eqM, W_setFld, W_makeR, W_join, W_split, W_ifL, W_extM, W_itK, W_menu, ite_true, ite_false, List.set_set]
    refine row_draw Z i j (by omega) μ2 _ hw2 fun r μ3 ho hw3 hl3 => ?_
    simp (config := { failIfUnchanged := false, decide := false }) only [W_bind, W_pure, W_no, W_opt, W_nox, W_op, W_un, W_C, W_varM, W_tst, W_boolM, W_ifB, W_notT, W_andT, W_orT, W_ifE, W_andV, W_orV, W_notV, W_chain, W_nil, W_cons, W_ap, W_apL, W_fl, W_nx, W_brk, W_cnt, W_seq, W_set, W_own, W_ret, W_retN, W_drop, W_if, W_call, W_make, W_fld, W_ix, W_part, W_noPart, W_sl, W_itL, W_itT, W_itS, W_for, W_forNil, W_while, W_gset, W_gcons, W_gnil, W_par2, W_fzM, W_rf, W_ownA, W_setIx, WF_run, WF_ok, WF_arM, eq_self, setE_mk, List.map_cons, List.map_nil, List.length_cons, List.length_nil, List.replicate, List.cons_append, List.nil_append, List.append_nil, List.set_cons_zero, List.set_cons_succ, List.getElem?_cons_zero, List.getElem?_cons_succ, Nat.reduceAdd, Nat.reduceSub, Nat.sub_zero, if_true, if_false, Bool.false_eq_true, and_self, and_true, true_and, Int.reduceLT, Int.reduceLE, Nat.reduceLeDiff, Nat.reduceLT, decide_true, decide_false, Bool.not_true, Bool.not_false, addV_int, subV_int, negV_int, ltV_int, leV_int, gtV_int, geV_int, eqV_int, neV_int, eqV_str, neV_str, intV_int, intV_bl, lenV_fl, lenV_tup, listV_fl, tupleV_fl, ixS_fl, ixS_tup, enm_fl, tupV, lstV, szL, szl, addV_fl, W_ownIxM, W_appM, W_parVN, W_parNV, W_parNN, W_parVVN, minV_int, maxV_int, scI, W_selfM, WI_run, WI_end, WI_ok, Int.cast_ofNat_Int, Int.reduceBEq, Int.reduceBNe, beq_self_eq_true, Bool.not_eq_true, Bool.and_true, Bool.true_and, W_gtupM, W_opL, W_ownSet, W_meth, W_eqM, W_setFld, W_makeR, W_join, W_split, W_ifL, W_extM, W_itK, W_menu, ite_true, ite_false, List.set_set, List.length_map]
    rw [if_pos (by omega)]
    refine ⟨.inl trivial, rs ++ [r], μ3, .val (nI j), by simp [hlen], hok.snoc (by rw [hlen]; exact ho), by simp, hw3⟩
  · rintro s ⟨rs, μ2, e, hlen, hok, rfl, hw2⟩
    have hlen : rs.length = k + 1 := by rw [hlen]; simp [rngL]; omega
    simp (config := { failIfUnchanged := false, decide := false }) only [W_bind, W_pure, W_no, W_opt, W_nox, W_op, W_un, W_C, W_varM, W_tst, W_boolM, W_ifB, W_notT, W_andT, W_orT, W_ifE, W_andV, W_orV, W_notV, W_chain, W_nil, W_cons, W_ap, W_apL, W_fl, W_nx, W_brk, W_cnt, W_seq, W_set, W_own, W_ret, W_retN, W_drop, W_if, W_call, W_make, W_fld, W_ix, W_part, W_noPart, W_sl, W_itL, W_itT, W_itS, W_for, W_forNil, W_while, W_gset, W_gcons, W_gnil, W_par2, W_fzM, W_rf, W_ownA, W_setIx, WF_run, WF_ok, WF_arM, eq_self, setE_mk, List.map_cons, List.map_nil, List.length_cons, List.length_nil, List.replicate, List.cons_append, List.nil_append, List.append_nil, List.set_cons_zero, List.set_cons_succ, List.getElem?_cons_zero, List.getElem?_cons_succ, Nat.reduceAdd, Nat.reduceSub, Nat.sub_zero, if_true, if_false, Bool.false_eq_true, and_self, and_true, true_and, Int.reduceLT, Int.reduceLE, Nat.reduceLeDiff, Nat.reduceLT, decide_true, decide_false, Bool.not_true, Bool.not_false, addV_int, subV_int, negV_int, ltV_int, leV_int, gtV_int, geV_int, eqV_int, neV_int, eqV_str, neV_str, intV_int, intV_bl, lenV_fl, lenV_tup, listV_fl, tupleV_fl, ixS_fl, ixS_tup, enm_fl, tupV, lstV, szL, szl, addV_fl, W_ownIxM, W_appM, W_parVN, W_parNV, W_parNN, W_parVVN, minV_int, maxV_int, scI, W_selfM, WI_run, WI_end, WI_ok, Int.cast_ofNat_Int, Int.reduceBEq, Int.reduceBNe, beq_self_eq_true, Bool.not_eq_true, Bool.and_true, Bool.true_and, W_gtupM, W_opL, W_ownSet, W_meth, W_eqM, W_setFld, W_makeR, W_join, W_split, W_ifL, W_extM, W_itK, W_menu, ite_true, ite_false, List.set_set]
    exact hQ rs μ2 (fun z => by rw [z] at hlen; simp at hlen) (by omega) hok hw2
end Lw
set_option Elab.async false
set_option linter.all false
set_option maxRecDepth 100000
set_option maxHeartbeats 2000000
namespace Mi
theorem WF.imp {r : RF} {Q Q' : IV → List SO → Prop} (h : WF r Q) (f : ∀ v μ, Q v μ → Q' v μ) : WF r Q' := by
  cases r with
  | ok v μ => exact f v μ h
  | ex c fs μ => exact h.elim
  | no => exact h.elim
end Mi
namespace Lw
open PySem L2 Mi
/-! ### equal rows -/
theorem eq_self' (l : List IV) (ds : List PyData) (hp : pdL l = some ds) (hc : PyData.canLayAll0 ds = true) (hd : PyData.depthAll ds ≤ 10) : Mi.eqV (.fl l) (.fl l) = some (.bl true) := by
  have hp' : IV.pd (.fl l) = some (.list ds) := by rw [IV.pd, hp]; rfl
  have hc' : PyData.canLay0 (.list ds) = true := by simp only [PyData.canLay0]; exact hc
  have hs : SeqAt.shaped (.list ds) = true := by
    unfold SeqAt.shaped
    rw [hc', Bool.true_and]
    apply decide_eq_true
    simp only [PyData.depth]
    omega
  have he : PyData.eqv (.list ds) (.list ds) = true := SeqAt.eqv_refl _ hc'
  unfold Mi.eqV
  have : eqB (.fl l) (.fl l) = some true := by
    simp only [eqB, hp', hs, he, and_self, if_true]
  rw [this]
  rfl
theorem pd_nats : ∀ q : List Nat, pdL (q.map nI) = some (q.map fun (n : Nat) => PyData.int (n : Int))
  | [] => by rw [List.map_nil, pdL]; rfl
  | n :: q => by rw [List.map_cons, pdL, pd_nats q, IV.pd]; rfl
def pdR : Row → PyData
  | .text s => .tuple [.str "text", .str s]
  | .line s => .tuple [.str "line", .str s]
  | .hard => .tuple [.str "hard"]
  | .cat l => .tuple [.str "cat", .list (l.map fun (n : Nat) => PyData.int (n : Int))]
  | .nest k p => .tuple [.str "nest", .int (k : Int), .int (p : Int)]
  | .align p => .tuple [.str "align", .int (p : Int)]
  | .group p => .tuple [.str "group", .int (p : Int)]
theorem pd_row (r : Row) : IV.pd r.iv = some (pdR r) := by
  cases r with
  | cat l =>
    show IV.pd (.tup [.str "cat", .fl (l.map nI)]) = _
    simp only [IV.pd, pdL, pd_nats, Option.map]
    rfl
  | _ => rfl
theorem ok_str {s : Str} (h : ∀ c ∈ s.cps.toList, 32 ≤ c ∧ c ≤ 126) : PyData.strOk s = true := by
  unfold PyData.strOk
  rw [← Array.all_toList, List.all_eq_true]
  intro c hc
  have := h c hc
  exact decide_eq_true (by omega)
theorem ok_word (s : Str) (h : PyData.strOk s = true) : PyData.canLay0 (.str s) = true := by simp only [PyData.canLay0]; exact h
theorem can_row {n : Nat} (r : Row) (h : r.ok n) : PyData.canLay0 (pdR r) = true := by
  have k1 : PyData.strOk "text" = true := by decide +kernel
  have k2 : PyData.strOk "line" = true := by decide +kernel
  have k3 : PyData.strOk "hard" = true := by decide +kernel
  have k4 : PyData.strOk "cat" = true := by decide +kernel
  have k5 : PyData.strOk "nest" = true := by decide +kernel
  have k6 : PyData.strOk "align" = true := by decide +kernel
  have k7 : PyData.strOk "group" = true := by decide +kernel
  cases r with
  | text s => simp only [pdR, PyData.canLay0, PyData.canLayAll0, k1, ok_str h.2]; rfl
  | line s => simp only [pdR, PyData.canLay0, PyData.canLayAll0, k2, ok_str h.2]; rfl
  | hard => simp only [pdR, PyData.canLay0, PyData.canLayAll0, k3]; rfl
  | cat l =>
    have := PySem.W.canLayAll0_ints (l.map fun (n : Nat) => (n : Int))
    rw [List.map_map] at this
    have this : PyData.canLayAll0 (l.map fun (n : Nat) => PyData.int (n : Int)) = true := this
    simp only [pdR, PyData.canLay0, PyData.canLayAll0, k4, this]; rfl
  | nest k p => simp only [pdR, PyData.canLay0, PyData.canLayAll0, k5]; rfl
  | align p => simp only [pdR, PyData.canLay0, PyData.canLayAll0, k6]; rfl
  | group p => simp only [pdR, PyData.canLay0, PyData.canLayAll0, k7]; rfl
theorem dep_row (r : Row) : PyData.depth (pdR r) ≤ 3 := by
  cases r with
  | cat l =>
    have := PySem.W.depthAll_ints (l.map fun (n : Nat) => (n : Int))
    rw [List.map_map] at this
    have this : PyData.depthAll (l.map fun (n : Nat) => PyData.int (n : Int)) ≤ 1 := this
    simp only [pdR, PyData.depth, PyData.depthAll]
    omega
  | _ => simp [pdR, PyData.depth, PyData.depthAll]
theorem eq_rows {rs : List Row} (h : RowsOk rs) (h2 : rs.length ≤ 200) : Mi.eqV (rowsV rs) (rowsV rs) = some (.bl true) := by
  refine eq_self' _ (rs.map pdR) ?_ ?_ ?_
  · clear h h2
    induction rs with
    | nil => rw [List.map_nil, pdL]; rfl
    | cons r rs ih => rw [List.map_cons, pdL, ih, pd_row]; rfl
  · have : ∀ l : List Row, (∀ r ∈ l, ∃ n, r.ok n) → PyData.canLayAll0 (l.map pdR) = true := by
      intro l
      induction l with
      | nil => intro _; simp [PyData.canLayAll0]
      | cons r l ih =>
        intro hl
        obtain ⟨n, hn⟩ := hl r (List.mem_cons_self ..)
        rw [List.map_cons]
        simp only [PyData.canLayAll0, can_row r hn, ih fun q hq => hl q (List.mem_cons_of_mem _ hq)]
        rfl
    exact this rs fun r hr => let ⟨n, _, ho⟩ := mem_ok h h2 hr; ⟨n, ho⟩
  · clear h h2
    induction rs with
    | nil => simp [PyData.depthAll]
    | cons r rs ih => rw [List.map_cons]; have := dep_row r; simp only [PyData.depthAll]; omega
theorem iDoc (Z : Ad) (rs : List Row) (m : Str) (s : S) (hm : List.lookup m (docF rs) = none) : isI Z.Doc m (docV Z rs) s = True := by
  unfold isI
  exact eq_true ⟨rfl, hm⟩
theorem doc_eq_ok (Z : Ad) {rs : List Row} (h : RowsOk rs) (h2 : rs.length ≤ 200) (μ : List SO) : fn_Doc___eq__ Z [docV Z rs, docV Z rs] μ = .ok (.bl true) μ := by
  apply of_WF
  unfold fn_Doc___eq__ m_Doc___eq__
  have z : isiC Z.Doc [Z.Doc] [docV Z rs, .adr Z.Doc] = some (.bl true) := by simp [isiC]
  simp (config := { failIfUnchanged := false, decide := false }) only [W_bind, W_pure, W_no, W_opt, W_nox, W_op, W_un, W_C, W_varM, W_tst, W_boolM, W_ifB, W_notT, W_andT, W_orT, W_ifE, W_andV, W_orV, W_notV, W_chain, W_nil, W_cons, W_ap, W_apL, W_fl, W_nx, W_brk, W_cnt, W_seq, W_set, W_own, W_ret, W_retN, W_drop, W_if, W_call, W_make, W_fld, W_ix, W_part, W_noPart, W_sl, W_itL, W_itT, W_itS, W_for, W_forNil, W_while, W_gset, W_gcons, W_gnil, W_par2, W_fzM, W_rf, W_ownA, W_setIx, WF_run, WF_ok, WF_arM, eq_self, setE_mk, List.map_cons, List.map_nil, List.length_cons, List.length_nil, List.replicate, List.cons_append, List.nil_append, List.append_nil, List.set_cons_zero, List.set_cons_succ, List.getElem?_cons_zero, List.getElem?_cons_succ, Nat.reduceAdd, Nat.reduceSub, Nat.sub_zero, if_true, if_false, Bool.false_eq_true, and_self, and_true, true_and, Int.reduceLT, Int.reduceLE, Nat.reduceLeDiff, Nat.reduceLT, decide_true, decide_false, Bool.not_true, Bool.not_false, addV_int, subV_int, negV_int, ltV_int, leV_int, gtV_int, geV_int, eqV_int, neV_int, eqV_str, neV_str, intV_int, intV_bl, lenV_fl, lenV_tup, listV_fl, tupleV_fl, ixS_fl, ixS_tup, enm_fl, tupV, lstV, szL, szl, addV_fl, W_ownIxM, W_appM, W_parVN, W_parNV, W_parNN, W_parVVN, minV_int, maxV_int, scI, W_selfM, WI_run, WI_end, WI_ok, Int.cast_ofNat_Int, Int.reduceBEq, Int.reduceBNe, beq_self_eq_true, Bool.not_eq_true, Bool.and_true, Bool.true_and, W_gtupM, W_opL, W_ownSet, W_meth, W_eqM, W_setFld, W_makeR, W_join, W_split, W_ifL, W_extM, W_itK, W_menu, ite_true, ite_false, List.set_set, z, fld_rows, eq_rows h h2]
/-! ### one document -/
theorem right_ok (Z : Ad) {rs : List Row} (h1 : rs ≠ []) (h : RowsOk rs) (h2 : rs.length ≤ 200) (μ : List SO) : WF (fn__law_right Z [rowsV rs] μ) fun v μ' => v = .bl true ∧ ∃ ν, μ' = μ ++ ν := by
  unfold fn__law_right m__law_right m__law_right_s1
  simp (config := { failIfUnchanged := false, decide := false }) only [W_bind, W_pure, W_no, W_opt, W_nox, W_op, W_un, W_C, W_varM, W_tst, W_boolM, W_ifB, W_notT, W_andT, W_orT, W_ifE, W_andV, W_orV, W_notV, W_chain, W_nil, W_cons, W_ap, W_apL, W_fl, W_nx, W_brk, W_cnt, W_seq, W_set, W_own, W_ret, W_retN, W_drop, W_if, W_call, W_make, W_fld, W_ix, W_part, W_noPart, W_sl, W_itL, W_itT, W_itS, W_for, W_forNil, W_while, W_gset, W_gcons, W_gnil, W_par2, W_fzM, W_rf, W_ownA, W_setIx, WF_run, WF_ok, WF_arM, eq_self, setE_mk, List.map_cons, List.map_nil, List.length_cons, List.length_nil, List.replicate, List.cons_append, List.nil_append, List.append_nil, List.set_cons_zero, List.set_cons_succ, List.getElem?_cons_zero, List.getElem?_cons_succ, Nat.reduceAdd, Nat.reduceSub, Nat.sub_zero, if_true, if_false, Bool.false_eq_true, and_self, and_true, true_and, Int.reduceLT, Int.reduceLE, Nat.reduceLeDiff, Nat.reduceLT, decide_true, decide_false, Bool.not_true, Bool.not_false, addV_int, subV_int, negV_int, ltV_int, leV_int, gtV_int, geV_int, eqV_int, neV_int, eqV_str, neV_str, intV_int, intV_bl, lenV_fl, lenV_tup, listV_fl, tupleV_fl, ixS_fl, ixS_tup, enm_fl, tupV, lstV, szL, szl, addV_fl, W_ownIxM, W_appM, W_parVN, W_parNV, W_parNN, W_parVVN, minV_int, maxV_int, scI, W_selfM, WI_run, WI_end, WI_ok, Int.cast_ofNat_Int, Int.reduceBEq, Int.reduceBNe, beq_self_eq_true, Bool.not_eq_true, Bool.and_true, Bool.true_and, W_gtupM, W_opL, W_ownSet, W_meth, W_eqM, W_setFld, W_makeR, W_join, W_split, W_ifL, W_extM, W_itK, W_menu, ite_true, ite_false, List.set_set, nl_cps]
  refine W_compA Row.iv (fun r => .str (tx (lineR r))) rs ?_
  simp (config := { failIfUnchanged := false, decide := false }) only [W_bind, W_pure, W_no, W_opt, W_nox, W_op, W_un, W_C, W_varM, W_tst, W_boolM, W_ifB, W_notT, W_andT, W_orT, W_ifE, W_andV, W_orV, W_notV, W_chain, W_nil, W_cons, W_ap, W_apL, W_fl, W_nx, W_brk, W_cnt, W_seq, W_set, W_own, W_ret, W_retN, W_drop, W_if, W_call, W_make, W_fld, W_ix, W_part, W_noPart, W_sl, W_itL, W_itT, W_itS, W_for, W_forNil, W_while, W_gset, W_gcons, W_gnil, W_par2, W_fzM, W_rf, W_ownA, W_setIx, WF_run, WF_ok, WF_arM, eq_self, setE_mk, List.map_cons, List.map_nil, List.length_cons, List.length_nil, List.replicate, List.cons_append, List.nil_append, List.append_nil, List.set_cons_zero, List.set_cons_succ, List.getElem?_cons_zero, List.getElem?_cons_succ, Nat.reduceAdd, Nat.reduceSub, Nat.sub_zero, if_true, if_false, Bool.false_eq_true, and_self, and_true, true_and, Int.reduceLT, Int.reduceLE, Nat.reduceLeDiff, Nat.reduceLT, decide_true, decide_false, Bool.not_true, Bool.not_false, addV_int, subV_int, negV_int, ltV_int, leV_int, gtV_int, geV_int, eqV_int, neV_int, eqV_str, neV_str, intV_int, intV_bl, lenV_fl, lenV_tup, listV_fl, tupleV_fl, ixS_fl, ixS_tup, enm_fl, tupV, lstV, szL, szl, addV_fl, W_ownIxM, W_appM, W_parVN, W_parNV, W_parNN, W_parVVN, minV_int, maxV_int, scI, W_selfM, WI_run, WI_end, WI_ok, Int.cast_ofNat_Int, Int.reduceBEq, Int.reduceBNe, beq_self_eq_true, Bool.not_eq_true, Bool.and_true, Bool.true_and, W_gtupM, W_opL, W_ownSet, W_meth, W_eqM, W_setFld, W_makeR, W_join, W_split, W_ifL, W_extM, W_itK, W_menu, ite_true, ite_false, List.set_set]
  refine ⟨by omega, ?_, ?_⟩
  · intro r hr
    obtain ⟨n, hn, ho⟩ := mem_ok h h2 hr
    apply of_W
    simp (config := { failIfUnchanged := false, decide := false }) only [W_bind, W_pure, W_no, W_opt, W_nox, W_op, W_un, W_C, W_varM, W_tst, W_boolM, W_ifB, W_notT, W_andT, W_orT, W_ifE, W_andV, W_orV, W_notV, W_chain, W_nil, W_cons, W_ap, W_apL, W_fl, W_nx, W_brk, W_cnt, W_seq, W_set, W_own, W_ret, W_retN, W_drop, W_if, W_call, W_make, W_fld, W_ix, W_part, W_noPart, W_sl, W_itL, W_itT, W_itS, W_for, W_forNil, W_while, W_gset, W_gcons, W_gnil, W_par2, W_fzM, W_rf, W_ownA, W_setIx, WF_run, WF_ok, WF_arM, eq_self, setE_mk, List.map_cons, List.map_nil, List.length_cons, List.length_nil, List.replicate, List.cons_append, List.nil_append, List.append_nil, List.set_cons_zero, List.set_cons_succ, List.getElem?_cons_zero, List.getElem?_cons_succ, Nat.reduceAdd, Nat.reduceSub, Nat.sub_zero, if_true, if_false, Bool.false_eq_true, and_self, and_true, true_and, Int.reduceLT, Int.reduceLE, Nat.reduceLeDiff, Nat.reduceLT, decide_true, decide_false, Bool.not_true, Bool.not_false, addV_int, subV_int, negV_int, ltV_int, leV_int, gtV_int, geV_int, eqV_int, neV_int, eqV_str, neV_str, intV_int, intV_bl, lenV_fl, lenV_tup, listV_fl, tupleV_fl, ixS_fl, ixS_tup, enm_fl, tupV, lstV, szL, szl, addV_fl, W_ownIxM, W_appM, W_parVN, W_parNV, W_parNN, W_parVVN, minV_int, maxV_int, scI, W_selfM, WI_run, WI_end, WI_ok, Int.cast_ofNat_Int, Int.reduceBEq, Int.reduceBNe, beq_self_eq_true, Bool.not_eq_true, Bool.and_true, Bool.true_and, W_gtupM, W_opL, W_ownSet, W_meth, W_eqM, W_setFld, W_makeR, W_join, W_split, W_ifL, W_extM, W_itK, W_menu, ite_true, ite_false, List.set_set, law_line_ok (Nat.le_of_lt hn) r ho]
  · unfold m__law_right_r1 m__law_right_s2
    simp (config := { failIfUnchanged := false, decide := false }) only [W_bind, W_pure, W_no, W_opt, W_nox, W_op, W_un, W_C, W_varM, W_tst, W_boolM, W_ifB, W_notT, W_andT, W_orT, W_ifE, W_andV, W_orV, W_notV, W_chain, W_nil, W_cons, W_ap, W_apL, W_fl, W_nx, W_brk, W_cnt, W_seq, W_set, W_own, W_ret, W_retN, W_drop, W_if, W_call, W_make, W_fld, W_ix, W_part, W_noPart, W_sl, W_itL, W_itT, W_itS, W_for, W_forNil, W_while, W_gset, W_gcons, W_gnil, W_par2, W_fzM, W_rf, W_ownA, W_setIx, WF_run, WF_ok, WF_arM, eq_self, setE_mk, List.map_cons, List.map_nil, List.length_cons, List.length_nil, List.replicate, List.cons_append, List.nil_append, List.append_nil, List.set_cons_zero, List.set_cons_succ, List.getElem?_cons_zero, List.getElem?_cons_succ, Nat.reduceAdd, Nat.reduceSub, Nat.sub_zero, if_true, if_false, Bool.false_eq_true, and_self, and_true, true_and, Int.reduceLT, Int.reduceLE, Nat.reduceLeDiff, Nat.reduceLT, decide_true, decide_false, Bool.not_true, Bool.not_false, addV_int, subV_int, negV_int, ltV_int, leV_int, gtV_int, geV_int, eqV_int, neV_int, eqV_str, neV_str, intV_int, intV_bl, lenV_fl, lenV_tup, listV_fl, tupleV_fl, ixS_fl, ixS_tup, enm_fl, tupV, lstV, szL, szl, addV_fl, W_ownIxM, W_appM, W_parVN, W_parNV, W_parNN, W_parVVN, minV_int, maxV_int, scI, W_selfM, WI_run, WI_end, WI_ok, Int.cast_ofNat_Int, Int.reduceBEq, Int.reduceBNe, beq_self_eq_true, Bool.not_eq_true, Bool.and_true, Bool.true_and, W_gtupM, W_opL, W_ownSet, W_meth, W_eqM, W_setFld, W_makeR, W_join, W_split, W_ifL, W_extM, W_itK, W_menu, ite_true, ite_false, List.set_set, join_lines h h2, doc_ok Z rs h1 h2 h]
    unfold m__law_right_r2 m__law_right_s3
    simp (config := { failIfUnchanged := false, decide := false }) only [W_bind, W_pure, W_no, W_opt, W_nox, W_op, W_un, W_C, W_varM, W_tst, W_boolM, W_ifB, W_notT, W_andT, W_orT, W_ifE, W_andV, W_orV, W_notV, W_chain, W_nil, W_cons, W_ap, W_apL, W_fl, W_nx, W_brk, W_cnt, W_seq, W_set, W_own, W_ret, W_retN, W_drop, W_if, W_call, W_make, W_fld, W_ix, W_part, W_noPart, W_sl, W_itL, W_itT, W_itS, W_for, W_forNil, W_while, W_gset, W_gcons, W_gnil, W_par2, W_fzM, W_rf, W_ownA, W_setIx, WF_run, WF_ok, WF_arM, eq_self, setE_mk, List.map_cons, List.map_nil, List.length_cons, List.length_nil, List.replicate, List.cons_append, List.nil_append, List.append_nil, List.set_cons_zero, List.set_cons_succ, List.getElem?_cons_zero, List.getElem?_cons_succ, Nat.reduceAdd, Nat.reduceSub, Nat.sub_zero, if_true, if_false, Bool.false_eq_true, and_self, and_true, true_and, Int.reduceLT, Int.reduceLE, Nat.reduceLeDiff, Nat.reduceLT, decide_true, decide_false, Bool.not_true, Bool.not_false, addV_int, subV_int, negV_int, ltV_int, leV_int, gtV_int, geV_int, eqV_int, neV_int, eqV_str, neV_str, intV_int, intV_bl, lenV_fl, lenV_tup, listV_fl, tupleV_fl, ixS_fl, ixS_tup, enm_fl, tupV, lstV, szL, szl, addV_fl, W_ownIxM, W_appM, W_parVN, W_parNV, W_parNN, W_parVVN, minV_int, maxV_int, scI, W_selfM, WI_run, WI_end, WI_ok, Int.cast_ofNat_Int, Int.reduceBEq, Int.reduceBNe, beq_self_eq_true, Bool.not_eq_true, Bool.and_true, Bool.true_and, W_gtupM, W_opL, W_ownSet, W_meth, W_eqM, W_setFld, W_makeR, W_join, W_split, W_ifL, W_extM, W_itK, W_menu, ite_true, ite_false, List.set_set, doc_text_ok Z rs h h2]
    unfold m__law_right_r3 m__law_right_s4
    simp (config := { failIfUnchanged := false, decide := false }) only [W_bind, W_pure, W_no, W_opt, W_nox, W_op, W_un, W_C, W_varM, W_tst, W_boolM, W_ifB, W_notT, W_andT, W_orT, W_ifE, W_andV, W_orV, W_notV, W_chain, W_nil, W_cons, W_ap, W_apL, W_fl, W_nx, W_brk, W_cnt, W_seq, W_set, W_own, W_ret, W_retN, W_drop, W_if, W_call, W_make, W_fld, W_ix, W_part, W_noPart, W_sl, W_itL, W_itT, W_itS, W_for, W_forNil, W_while, W_gset, W_gcons, W_gnil, W_par2, W_fzM, W_rf, W_ownA, W_setIx, WF_run, WF_ok, WF_arM, eq_self, setE_mk, List.map_cons, List.map_nil, List.length_cons, List.length_nil, List.replicate, List.cons_append, List.nil_append, List.append_nil, List.set_cons_zero, List.set_cons_succ, List.getElem?_cons_zero, List.getElem?_cons_succ, Nat.reduceAdd, Nat.reduceSub, Nat.sub_zero, if_true, if_false, Bool.false_eq_true, and_self, and_true, true_and, Int.reduceLT, Int.reduceLE, Nat.reduceLeDiff, Nat.reduceLT, decide_true, decide_false, Bool.not_true, Bool.not_false, addV_int, subV_int, negV_int, ltV_int, leV_int, gtV_int, geV_int, eqV_int, neV_int, eqV_str, neV_str, intV_int, intV_bl, lenV_fl, lenV_tup, listV_fl, tupleV_fl, ixS_fl, ixS_tup, enm_fl, tupV, lstV, szL, szl, addV_fl, W_ownIxM, W_appM, W_parVN, W_parNV, W_parNN, W_parVVN, minV_int, maxV_int, scI, W_selfM, WI_run, WI_end, WI_ok, Int.cast_ofNat_Int, Int.reduceBEq, Int.reduceBNe, beq_self_eq_true, Bool.not_eq_true, Bool.and_true, Bool.true_and, W_gtupM, W_opL, W_ownSet, W_meth, W_eqM, W_setFld, W_makeR, W_join, W_split, W_ifL, W_extM, W_itK, W_menu, ite_true, ite_false, List.set_set]
    refine (read_ok Z rs h1 h h2 μ).imp fun v μ1 ⟨hv, ν, hν⟩ => ?_
    subst hv
    subst hν
    unfold m__law_right_r4 m__law_right_s5
    have i1 : ∀ s, isI Z.Doc "__eq__" (docV Z rs) s = True := fun s => iDoc Z rs _ s (by kernel_rfl)
    have i2 : ∀ s, isI Z.Doc "row_list" (docV Z rs) s = True := fun s => iDoc Z rs _ s (by kernel_rfl)
    simp (config := { failIfUnchanged := false, decide := false }) only [W_bind, W_pure, W_no, W_opt, W_nox, W_op, W_un, W_C, W_varM, W_tst, W_boolM, W_ifB, W_notT, W_andT, W_orT, W_ifE, W_andV, W_orV, W_notV, W_chain, W_nil, W_cons, W_ap, W_apL, W_fl, W_nx, W_brk, W_cnt, W_seq, W_set, W_own, W_ret, W_retN, W_drop, W_if, W_call, W_make, W_fld, W_ix, W_part, W_noPart, W_sl, W_itL, W_itT, W_itS, W_for, W_forNil, W_while, W_gset, W_gcons, W_gnil, W_par2, W_fzM, W_rf, W_ownA, W_setIx, WF_run, WF_ok, WF_arM, eq_self, setE_mk, List.map_cons, List.map_nil, List.length_cons, List.length_nil, List.replicate, List.cons_append, List.nil_append, List.append_nil, List.set_cons_zero, List.set_cons_succ, List.getElem?_cons_zero, List.getElem?_cons_succ, Nat.reduceAdd, Nat.reduceSub, Nat.sub_zero, if_true, if_false, Bool.false_eq_true, and_self, and_true, true_and, Int.reduceLT, Int.reduceLE, Nat.reduceLeDiff, Nat.reduceLT, decide_true, decide_false, Bool.not_true, Bool.not_false, addV_int, subV_int, negV_int, ltV_int, leV_int, gtV_int, geV_int, eqV_int, neV_int, eqV_str, neV_str, intV_int, intV_bl, lenV_fl, lenV_tup, listV_fl, tupleV_fl, ixS_fl, ixS_tup, enm_fl, tupV, lstV, szL, szl, addV_fl, W_ownIxM, W_appM, W_parVN, W_parNV, W_parNN, W_parVVN, minV_int, maxV_int, scI, W_selfM, WI_run, WI_end, WI_ok, Int.cast_ofNat_Int, Int.reduceBEq, Int.reduceBNe, beq_self_eq_true, Bool.not_eq_true, Bool.and_true, Bool.true_and, W_gtupM, W_opL, W_ownSet, W_meth, W_eqM, W_setFld, W_makeR, W_join, W_split, W_ifL, W_extM, W_itK, W_menu, ite_true, ite_false, List.set_set, i1, i2, doc_eq_ok Z h h2, row_list_ok Z rs h2, eq_rows h h2]
    refine (read_ok Z rs h1 h h2 (μ ++ ν)).imp fun v μ2 ⟨hv, ν2, hν2⟩ => ?_
    subst hv
    subst hν2
    simp (config := { failIfUnchanged := false, decide := false }) only [W_bind, W_pure, W_no, W_opt, W_nox, W_op, W_un, W_C, W_varM, W_tst, W_boolM, W_ifB, W_notT, W_andT, W_orT, W_ifE, W_andV, W_orV, W_notV, W_chain, W_nil, W_cons, W_ap, W_apL, W_fl, W_nx, W_brk, W_cnt, W_seq, W_set, W_own, W_ret, W_retN, W_drop, W_if, W_call, W_make, W_fld, W_ix, W_part, W_noPart, W_sl, W_itL, W_itT, W_itS, W_for, W_forNil, W_while, W_gset, W_gcons, W_gnil, W_par2, W_fzM, W_rf, W_ownA, W_setIx, WF_run, WF_ok, WF_arM, eq_self, setE_mk, List.map_cons, List.map_nil, List.length_cons, List.length_nil, List.replicate, List.cons_append, List.nil_append, List.append_nil, List.set_cons_zero, List.set_cons_succ, List.getElem?_cons_zero, List.getElem?_cons_succ, Nat.reduceAdd, Nat.reduceSub, Nat.sub_zero, if_true, if_false, Bool.false_eq_true, and_self, and_true, true_and, Int.reduceLT, Int.reduceLE, Nat.reduceLeDiff, Nat.reduceLT, decide_true, decide_false, Bool.not_true, Bool.not_false, addV_int, subV_int, negV_int, ltV_int, leV_int, gtV_int, geV_int, eqV_int, neV_int, eqV_str, neV_str, intV_int, intV_bl, lenV_fl, lenV_tup, listV_fl, tupleV_fl, ixS_fl, ixS_tup, enm_fl, tupV, lstV, szL, szl, addV_fl, W_ownIxM, W_appM, W_parVN, W_parNV, W_parNN, W_parVVN, minV_int, maxV_int, scI, W_selfM, WI_run, WI_end, WI_ok, Int.cast_ofNat_Int, Int.reduceBEq, Int.reduceBNe, beq_self_eq_true, Bool.not_eq_true, Bool.and_true, Bool.true_and, W_gtupM, W_opL, W_ownSet, W_meth, W_eqM, W_setFld, W_makeR, W_join, W_split, W_ifL, W_extM, W_itK, W_menu, ite_true, ite_false, List.set_set, doc_text_ok Z rs h h2]
    exact ⟨ν ++ ν2, by rw [List.append_assoc]⟩
end Lw
set_option Elab.async false
set_option linter.all false
set_option maxRecDepth 100000
set_option maxHeartbeats 1000000
namespace Lw
open PySem L2 Mi
theorem cell_at3 (Z : Ad) (ns : List Int) (hns : ns.length ≤ 63) (μ : List SO) : ∃ c : Int, fn__law_cell_at Z [.fl (ns.map .int), .int 0] μ = .ok (.int c) μ := by
  cases ns with
  | nil => exact ⟨0, by kernel_rfl⟩
  | cons n ns =>
    refine ⟨n, ?_⟩
    apply of_WF
    unfold fn__law_cell_at m__law_cell_at
    have h : decide ((0 : Int) < ((ns.length : Nat) : Int) + 1) = true := decide_eq_true (by omega)
    have h' : decide ((0 : Int) < ((ns.length + 1 : Nat) : Int)) = true := decide_eq_true (by omega)
    simp (config := { failIfUnchanged := false, decide := false }) only [W_bind, W_pure, W_no, W_opt, W_nox, W_op, W_un, W_C, W_varM, W_tst, W_boolM, W_ifB, W_notT, W_andT, W_orT, W_ifE, W_andV, W_orV, W_notV, W_chain, W_nil, W_cons, W_ap, W_apL, W_fl, W_nx, W_brk, W_cnt, W_seq, W_set, W_own, W_ret, W_retN, W_drop, W_if, W_call, W_make, W_fld, W_ix, W_part, W_noPart, W_sl, W_itL, W_itT, W_itS, W_for, W_forNil, W_while, W_gset, W_gcons, W_gnil, W_par2, W_fzM, W_rf, W_ownA, W_setIx, WF_run, WF_ok, WF_arM, eq_self, setE_mk, List.map_cons, List.map_nil, List.length_cons, List.length_nil, List.replicate, List.cons_append, List.nil_append, List.append_nil, List.set_cons_zero, List.set_cons_succ, List.getElem?_cons_zero, List.getElem?_cons_succ, Nat.reduceAdd, Nat.reduceSub, Nat.sub_zero, if_true, if_false, Bool.false_eq_true, and_self, and_true, true_and, Int.reduceLT, Int.reduceLE, Nat.reduceLeDiff, Nat.reduceLT, decide_true, decide_false, Bool.not_true, Bool.not_false, addV_int, subV_int, negV_int, ltV_int, leV_int, gtV_int, geV_int, eqV_int, neV_int, eqV_str, neV_str, intV_int, intV_bl, lenV_fl, lenV_tup, listV_fl, tupleV_fl, ixS_fl, ixS_tup, enm_fl, tupV, lstV, szL, szl, addV_fl, W_ownIxM, W_appM, W_parVN, W_parNV, W_parNN, W_parVVN, minV_int, maxV_int, scI, W_selfM, WI_run, WI_end, WI_ok, Int.cast_ofNat_Int, Int.reduceBEq, Int.reduceBNe, beq_self_eq_true, Bool.not_eq_true, Bool.and_true, Bool.true_and, W_gtupM, W_opL, W_ownSet, W_meth, W_eqM, W_setFld, W_makeR, W_join, W_split, W_ifL, W_extM, W_itK, W_menu, ite_true, ite_false, List.set_set, List.length_map, h, h', at0]
theorem well_app {μ ν : List SO} {i : Nat} (h : Well μ i) : Well (μ ++ ν) i := by
  obtain ⟨a, b, c, h⟩ := h
  exact ⟨a, b, c, by rw [List.getElem?_append_left (List.getElem?_eq_some_iff.mp h).1]; exact h⟩
def bigM (m : Nat) : List Row := .text (tx []) :: (List.range m).map fun i => .nest (i % 9) i
theorem bigM_len (m : Nat) : (bigM m).length = m + 1 := by simp [bigM]
theorem bigM_ok : ∀ m, RowsOk (bigM m)
  | 0 => by
    intro k r e
    cases k with
    | zero => cases e; exact ⟨by decide, by simp⟩
    | succ k => simp [bigM] at e
  | m + 1 => by
    have e : bigM (m + 1) = bigM m ++ [.nest (m % 9) m] := by unfold bigM; rw [List.range_succ, List.map_append]; rfl
    rw [e]
    exact (bigM_ok m).snoc (by rw [bigM_len]; exact ⟨by omega, by omega⟩)
def big : List Row := bigM 198 ++ [.cat (List.replicate 8 198)]
theorem big_ok : RowsOk big := (bigM_ok 198).snoc (by rw [bigM_len]; exact ⟨by simp, fun p hp => by rw [List.eq_of_mem_replicate hp]; omega⟩)
theorem big_len : big.length = 200 := by unfold big; rw [List.length_append, bigM_len]; rfl
theorem big_ex : ∃ (bg : List Row) (q : List IV), RowsOk bg ∧ bg.length = 200 ∧ addV (.fl [.tup [.str "text", .str ""]]) (.fl ((List.range 198).map fun i => (Row.nest (i % 9) i).iv)) = some (.fl q) ∧
    addV (.fl q) (.fl [.tup [.str "cat", .fl (List.replicate 8 (nI 198))]]) = some (rowsV bg) := by
  refine ⟨big, (bigM 198).map Row.iv, big_ok, big_len, ?_, ?_⟩
  · rw [addV_fl (by rw [List.length_map, List.length_range]; decide)]
    unfold bigM
    rw [List.map_cons, List.map_map, show (Row.text (tx [])).iv = .tup [.str "text", .str ""] from by rw [← nil_cps]; rfl]
    rfl
  · rw [addV_fl (by rw [List.length_map, bigM_len]; decide)]
    unfold big rowsV
    rw [List.map_append]
    rfl
section
variable (Z : Ad) (ns : List Int) (hns : ns.length ≤ 63) (f198 : Nat → IV) (bg : List Row) (q : List IV) (b1 : RowsOk bg) (b2 : bg.length = 200)
  (e1b : addV (.fl [.tup [.str "text", .str ""]]) (.fl ((List.range 198).map f198)) = some (.fl q)) (hf : ∀ i, f198 i = .tup [.str "nest", nI (i % 9), nI i])
  (e2b : addV (.fl q) (.fl [.tup [.str "cat", .fl (List.replicate 8 (nI 198))]]) = some (rowsV bg))
include hns b1 b2 e1b e2b hf
theorem law_s1 (R : Flw → S → Prop) (hR : ∀ e1 e3 e4 e5 μ, R .nx ⟨[.val (.fl (ns.map .int)), e1, .emp, e3, e4, e5, .emp, .emp, .emp], μ⟩) :
    W (m_law_s1 Z) ⟨[.val (.fl (ns.map .int)), .emp, .emp, .emp, .emp, .emp, .emp, .emp, .emp], []⟩ R := by
  unfold m_law_s1
  generalize h198 : (198 : Int) = m
  obtain ⟨c0, hc0⟩ := cell_at3 Z ns hns []
  have ecut : cutL (ns.map IV.int) (some 1) (some 5) = (cutL ns (some 1) (some 5)).map IV.int := by unfold cutL; simp
  have elen : (cutL ns (some 1) (some 5)).length ≤ ns.length := by unfold cutL; simp; omega
  have es : slV (.fl (ns.map IV.int)) (some 1) (some 5) = some (.fl ((cutL ns (some 1) (some 5)).map IV.int)) := by
    rw [← ecut]; rfl
  have ea : addV (.fl [.int c0]) (.fl ((cutL ns (some 1) (some 5)).map IV.int)) = some (.fl ((c0 :: cutL ns (some 1) (some 5)).map IV.int)) := by
    show addV (.fl ([c0].map IV.int)) _ = _
    rw [addV_fl (by simp [szl]; omega), ← List.map_append]; rfl
  have r3 : rng1 [.int 3] = some (rngL 0 3) := rfl
  have r198 : rng1 [.int m] = some (rngL 0 198) := by rw [← h198]; rfl
  simp (config := { failIfUnchanged := false, decide := false }) only [W_bind, W_pure, W_no, W_opt, W_nox, W_op, W_un, W_C, W_varM, W_tst, W_boolM, W_ifB, W_notT, W_andT, W_orT, W_ifE, W_andV, W_orV, W_notV, W_chain, W_nil, W_cons, W_ap, W_apL, W_fl, W_nx, W_brk, W_cnt, W_seq, W_set, W_own, W_ret, W_retN, W_drop, W_if, W_call, W_make, W_fld, W_ix, W_part, W_noPart, W_sl, W_itL, W_itT, W_itS, W_for, W_forNil, W_while, W_gset, W_gcons, W_gnil, W_par2, W_fzM, W_rf, W_ownA, W_setIx, WF_run, WF_ok, WF_arM, eq_self, setE_mk, List.map_cons, List.map_nil, List.length_cons, List.length_nil, List.replicate, List.cons_append, List.nil_append, List.append_nil, List.set_cons_zero, List.set_cons_succ, List.getElem?_cons_zero, List.getElem?_cons_succ, Nat.reduceAdd, Nat.reduceSub, Nat.sub_zero, if_true, if_false, Bool.false_eq_true, and_self, and_true, true_and, Int.reduceLT, Int.reduceLE, Nat.reduceLeDiff, Nat.reduceLT, decide_true, decide_false, Bool.not_true, Bool.not_false, addV_int, subV_int, negV_int, ltV_int, leV_int, gtV_int, geV_int, eqV_int, neV_int, eqV_str, neV_str, intV_int, intV_bl, lenV_fl, lenV_tup, listV_fl, tupleV_fl, ixS_fl, ixS_tup, enm_fl, tupV, lstV, szL, szl, addV_fl, W_ownIxM, W_appM, W_parVN, W_parNV, W_parNN, W_parVVN, minV_int, maxV_int, scI, W_selfM, WI_run, WI_end, WI_ok, Int.cast_ofNat_Int, Int.reduceBEq, Int.reduceBNe, beq_self_eq_true, Bool.not_eq_true, Bool.and_true, Bool.true_and, W_gtupM, W_opL, W_ownSet, W_meth, W_eqM, W_setFld, W_makeR, W_join, W_split, W_ifL, W_extM, W_itK, W_menu, ite_true, ite_false, List.set_set, hc0, es, ea]
  refine W_forI (fun _ s => ∃ (e1 e3 e4 e5 : Slot) (μ : List SO), s = ⟨[.val (.fl (ns.map .int)), e1, .emp, e3, e4, e5, .emp, .emp, .emp], μ⟩) _ 0 _ ⟨_, _, _, _, _, rfl⟩ ?_ ?_
  · rintro k x s hk ⟨e1, e3, e4, e5, μ, rfl⟩
    obtain ⟨cell, rfl⟩ : ∃ c : Int, x = .int c := by
      rcases List.mem_cons.mp (List.mem_of_getElem? hk) with h | h
      · exact ⟨_, h⟩
      · obtain ⟨c, _, rfl⟩ := List.mem_map.mp h
        exact ⟨c, rfl⟩
    obtain ⟨wa, wb, ew⟩ := source_at Z cell μ
    simp (config := { failIfUnchanged := false, decide := false }) only [W_bind, W_pure, W_no, W_opt, W_nox, W_op, W_un, W_C, W_varM, W_tst, W_boolM, W_ifB, W_notT, W_andT, W_orT, W_ifE, W_andV, W_orV, W_notV, W_chain, W_nil, W_cons, W_ap, W_apL, W_fl, W_nx, W_brk, W_cnt, W_seq, W_set, W_own, W_ret, W_retN, W_drop, W_if, W_call, W_make, W_fld, W_ix, W_part, W_noPart, W_sl, W_itL, W_itT, W_itS, W_for, W_forNil, W_while, W_gset, W_gcons, W_gnil, W_par2, W_fzM, W_rf, W_ownA, W_setIx, WF_run, WF_ok, WF_arM, eq_self, setE_mk, List.map_cons, List.map_nil, List.length_cons, List.length_nil, List.replicate, List.cons_append, List.nil_append, List.append_nil, List.set_cons_zero, List.set_cons_succ, List.getElem?_cons_zero, List.getElem?_cons_succ, Nat.reduceAdd, Nat.reduceSub, Nat.sub_zero, if_true, if_false, Bool.false_eq_true, and_self, and_true, true_and, Int.reduceLT, Int.reduceLE, Nat.reduceLeDiff, Nat.reduceLT, decide_true, decide_false, Bool.not_true, Bool.not_false, addV_int, subV_int, negV_int, ltV_int, leV_int, gtV_int, geV_int, eqV_int, neV_int, eqV_str, neV_str, intV_int, intV_bl, lenV_fl, lenV_tup, listV_fl, tupleV_fl, ixS_fl, ixS_tup, enm_fl, tupV, lstV, szL, szl, addV_fl, W_ownIxM, W_appM, W_parVN, W_parNV, W_parNN, W_parVVN, minV_int, maxV_int, scI, W_selfM, WI_run, WI_end, WI_ok, Int.cast_ofNat_Int, Int.reduceBEq, Int.reduceBNe, beq_self_eq_true, Bool.not_eq_true, Bool.and_true, Bool.true_and, W_gtupM, W_opL, W_ownSet, W_meth, W_eqM, W_setFld, W_makeR, W_join, W_split, W_ifL, W_extM, W_itK, W_menu, ite_true, ite_false, List.set_set, ew, r3]
    refine W_forI (fun _ s => ∃ (e4 : Slot) (μ' : List SO), s = ⟨[.val (.fl (ns.map .int)), .val (.int cell), .emp, .val (.ref μ.length), e4, e5, .emp, .emp, .emp], μ'⟩ ∧ Well μ' μ.length) _ 0 _ ⟨_, _, rfl, ⟨wa, wb, 0, by simp⟩⟩ ?_ ?_
    · rintro k x s hk ⟨e4, μ', rfl, hw⟩
      simp (config := { failIfUnchanged := false, decide := false }) only [W_bind, W_pure, W_no, W_opt, W_nox, W_op, W_un, W_C, W_varM, W_tst, W_boolM, W_ifB, W_notT, W_andT, W_orT, W_ifE, W_andV, W_orV, W_notV, W_chain, W_nil, W_cons, W_ap, W_apL, W_fl, W_nx, W_brk, W_cnt, W_seq, W_set, W_own, W_ret, W_retN, W_drop, W_if, W_call, W_make, W_fld, W_ix, W_part, W_noPart, W_sl, W_itL, W_itT, W_itS, W_for, W_forNil, W_while, W_gset, W_gcons, W_gnil, W_par2, W_fzM, W_rf, W_ownA, W_setIx, WF_run, WF_ok, WF_arM, eq_self, setE_mk, List.map_cons, List.map_nil, List.length_cons, List.length_nil, List.replicate, List.cons_append, List.nil_append, List.append_nil, List.set_cons_zero, List.set_cons_succ, List.getElem?_cons_zero, List.getElem?_cons_succ, Nat.reduceAdd, Nat.reduceSub, Nat.sub_zero, if_true, if_false, Bool.false_eq_true, and_self, and_true, true_and, Int.reduceLT, Int.reduceLE, Nat.reduceLeDiff, Nat.reduceLT, decide_true, decide_false, Bool.not_true, Bool.not_false, addV_int, subV_int, negV_int, ltV_int, leV_int, gtV_int, geV_int, eqV_int, neV_int, eqV_str, neV_str, intV_int, intV_bl, lenV_fl, lenV_tup, listV_fl, tupleV_fl, ixS_fl, ixS_tup, enm_fl, tupV, lstV, szL, szl, addV_fl, W_ownIxM, W_appM, W_parVN, W_parNV, W_parNN, W_parVVN, minV_int, maxV_int, scI, W_selfM, WI_run, WI_end, WI_ok, Int.cast_ofNat_Int, Int.reduceBEq, Int.reduceBNe, beq_self_eq_true, Bool.not_eq_true, Bool.and_true, Bool.true_and, W_gtupM, W_opL, W_ownSet, W_meth, W_eqM, W_setFld, W_makeR, W_join, W_split, W_ifL, W_extM, W_itK, W_menu, ite_true, ite_false, List.set_set]
      refine rows_draw Z μ.length 30 (by decide) (by decide) μ' _ hw fun rs μ2 hne hlen hok hw2 => ?_
      simp (config := { failIfUnchanged := false, decide := false }) only [W_bind, W_pure, W_no, W_opt, W_nox, W_op, W_un, W_C, W_varM, W_tst, W_boolM, W_ifB, W_notT, W_andT, W_orT, W_ifE, W_andV, W_orV, W_notV, W_chain, W_nil, W_cons, W_ap, W_apL, W_fl, W_nx, W_brk, W_cnt, W_seq, W_set, W_own, W_ret, W_retN, W_drop, W_if, W_call, W_make, W_fld, W_ix, W_part, W_noPart, W_sl, W_itL, W_itT, W_itS, W_for, W_forNil, W_while, W_gset, W_gcons, W_gnil, W_par2, W_fzM, W_rf, W_ownA, W_setIx, WF_run, WF_ok, WF_arM, eq_self, setE_mk, List.map_cons, List.map_nil, List.length_cons, List.length_nil, List.replicate, List.cons_append, List.nil_append, List.append_nil, List.set_cons_zero, List.set_cons_succ, List.getElem?_cons_zero, List.getElem?_cons_succ, Nat.reduceAdd, Nat.reduceSub, Nat.sub_zero, if_true, if_false, Bool.false_eq_true, and_self, and_true, true_and, Int.reduceLT, Int.reduceLE, Nat.reduceLeDiff, Nat.reduceLT, decide_true, decide_false, Bool.not_true, Bool.not_false, addV_int, subV_int, negV_int, ltV_int, leV_int, gtV_int, geV_int, eqV_int, neV_int, eqV_str, neV_str, intV_int, intV_bl, lenV_fl, lenV_tup, listV_fl, tupleV_fl, ixS_fl, ixS_tup, enm_fl, tupV, lstV, szL, szl, addV_fl, W_ownIxM, W_appM, W_parVN, W_parNV, W_parNN, W_parVVN, minV_int, maxV_int, scI, W_selfM, WI_run, WI_end, WI_ok, Int.cast_ofNat_Int, Int.reduceBEq, Int.reduceBNe, beq_self_eq_true, Bool.not_eq_true, Bool.and_true, Bool.true_and, W_gtupM, W_opL, W_ownSet, W_meth, W_eqM, W_setFld, W_makeR, W_join, W_split, W_ifL, W_extM, W_itK, W_menu, ite_true, ite_false, List.set_set]
      refine (right_ok Z hne hok (by omega) μ2).imp fun v μ3 ⟨hv, ν, hν⟩ => ?_
      subst hv
      subst hν
      simp (config := { failIfUnchanged := false, decide := false }) only [W_bind, W_pure, W_no, W_opt, W_nox, W_op, W_un, W_C, W_varM, W_tst, W_boolM, W_ifB, W_notT, W_andT, W_orT, W_ifE, W_andV, W_orV, W_notV, W_chain, W_nil, W_cons, W_ap, W_apL, W_fl, W_nx, W_brk, W_cnt, W_seq, W_set, W_own, W_ret, W_retN, W_drop, W_if, W_call, W_make, W_fld, W_ix, W_part, W_noPart, W_sl, W_itL, W_itT, W_itS, W_for, W_forNil, W_while, W_gset, W_gcons, W_gnil, W_par2, W_fzM, W_rf, W_ownA, W_setIx, WF_run, WF_ok, WF_arM, eq_self, setE_mk, List.map_cons, List.map_nil, List.length_cons, List.length_nil, List.replicate, List.cons_append, List.nil_append, List.append_nil, List.set_cons_zero, List.set_cons_succ, List.getElem?_cons_zero, List.getElem?_cons_succ, Nat.reduceAdd, Nat.reduceSub, Nat.sub_zero, if_true, if_false, Bool.false_eq_true, and_self, and_true, true_and, Int.reduceLT, Int.reduceLE, Nat.reduceLeDiff, Nat.reduceLT, decide_true, decide_false, Bool.not_true, Bool.not_false, addV_int, subV_int, negV_int, ltV_int, leV_int, gtV_int, geV_int, eqV_int, neV_int, eqV_str, neV_str, intV_int, intV_bl, lenV_fl, lenV_tup, listV_fl, tupleV_fl, ixS_fl, ixS_tup, enm_fl, tupV, lstV, szL, szl, addV_fl, W_ownIxM, W_appM, W_parVN, W_parNV, W_parNN, W_parVVN, minV_int, maxV_int, scI, W_selfM, WI_run, WI_end, WI_ok, Int.cast_ofNat_Int, Int.reduceBEq, Int.reduceBNe, beq_self_eq_true, Bool.not_eq_true, Bool.and_true, Bool.true_and, W_gtupM, W_opL, W_ownSet, W_meth, W_eqM, W_setFld, W_makeR, W_join, W_split, W_ifL, W_extM, W_itK, W_menu, ite_true, ite_false, List.set_set]
      exact ⟨.inl trivial, _, _, rfl, well_app hw2⟩
    · rintro s ⟨e4, μ', rfl, hw⟩
      simp (config := { failIfUnchanged := false, decide := false }) only [W_bind, W_pure, W_no, W_opt, W_nox, W_op, W_un, W_C, W_varM, W_tst, W_boolM, W_ifB, W_notT, W_andT, W_orT, W_ifE, W_andV, W_orV, W_notV, W_chain, W_nil, W_cons, W_ap, W_apL, W_fl, W_nx, W_brk, W_cnt, W_seq, W_set, W_own, W_ret, W_retN, W_drop, W_if, W_call, W_make, W_fld, W_ix, W_part, W_noPart, W_sl, W_itL, W_itT, W_itS, W_for, W_forNil, W_while, W_gset, W_gcons, W_gnil, W_par2, W_fzM, W_rf, W_ownA, W_setIx, WF_run, WF_ok, WF_arM, eq_self, setE_mk, List.map_cons, List.map_nil, List.length_cons, List.length_nil, List.replicate, List.cons_append, List.nil_append, List.append_nil, List.set_cons_zero, List.set_cons_succ, List.getElem?_cons_zero, List.getElem?_cons_succ, Nat.reduceAdd, Nat.reduceSub, Nat.sub_zero, if_true, if_false, Bool.false_eq_true, and_self, and_true, true_and, Int.reduceLT, Int.reduceLE, Nat.reduceLeDiff, Nat.reduceLT, decide_true, decide_false, Bool.not_true, Bool.not_false, addV_int, subV_int, negV_int, ltV_int, leV_int, gtV_int, geV_int, eqV_int, neV_int, eqV_str, neV_str, intV_int, intV_bl, lenV_fl, lenV_tup, listV_fl, tupleV_fl, ixS_fl, ixS_tup, enm_fl, tupV, lstV, szL, szl, addV_fl, W_ownIxM, W_appM, W_parVN, W_parNV, W_parNN, W_parVVN, minV_int, maxV_int, scI, W_selfM, WI_run, WI_end, WI_ok, Int.cast_ofNat_Int, Int.reduceBEq, Int.reduceBNe, beq_self_eq_true, Bool.not_eq_true, Bool.and_true, Bool.true_and, W_gtupM, W_opL, W_ownSet, W_meth, W_eqM, W_setFld, W_makeR, W_join, W_split, W_ifL, W_extM, W_itK, W_menu, ite_true, ite_false, List.set_set, r198]
      refine W_compA (fun (i : Nat) => IV.int ((0 : Int) + (i : Int))) f198 (List.range 198) ?_
      simp (config := { failIfUnchanged := false, decide := false }) only [W_bind, W_pure, W_no, W_opt, W_nox, W_op, W_un, W_C, W_varM, W_tst, W_boolM, W_ifB, W_notT, W_andT, W_orT, W_ifE, W_andV, W_orV, W_notV, W_chain, W_nil, W_cons, W_ap, W_apL, W_fl, W_nx, W_brk, W_cnt, W_seq, W_set, W_own, W_ret, W_retN, W_drop, W_if, W_call, W_make, W_fld, W_ix, W_part, W_noPart, W_sl, W_itL, W_itT, W_itS, W_for, W_forNil, W_while, W_gset, W_gcons, W_gnil, W_par2, W_fzM, W_rf, W_ownA, W_setIx, WF_run, WF_ok, WF_arM, eq_self, setE_mk, List.map_cons, List.map_nil, List.length_cons, List.length_nil, List.replicate, List.cons_append, List.nil_append, List.append_nil, List.set_cons_zero, List.set_cons_succ, List.getElem?_cons_zero, List.getElem?_cons_succ, Nat.reduceAdd, Nat.reduceSub, Nat.sub_zero, if_true, if_false, Bool.false_eq_true, and_self, and_true, true_and, Int.reduceLT, Int.reduceLE, Nat.reduceLeDiff, Nat.reduceLT, decide_true, decide_false, Bool.not_true, Bool.not_false, addV_int, subV_int, negV_int, ltV_int, leV_int, gtV_int, geV_int, eqV_int, neV_int, eqV_str, neV_str, intV_int, intV_bl, lenV_fl, lenV_tup, listV_fl, tupleV_fl, ixS_fl, ixS_tup, enm_fl, tupV, lstV, szL, szl, addV_fl, W_ownIxM, W_appM, W_parVN, W_parNV, W_parNN, W_parVVN, minV_int, maxV_int, scI, W_selfM, WI_run, WI_end, WI_ok, Int.cast_ofNat_Int, Int.reduceBEq, Int.reduceBNe, beq_self_eq_true, Bool.not_eq_true, Bool.and_true, Bool.true_and, W_gtupM, W_opL, W_ownSet, W_meth, W_eqM, W_setFld, W_makeR, W_join, W_split, W_ifL, W_extM, W_itK, W_menu, ite_true, ite_false, List.set_set, r198]
      refine ⟨rfl, by rw [List.length_range]; decide, ?_, ?_⟩
      · intro i hi
        have em : modV (.int ((0 : Int) + (i : Int))) (.int 9) = some (nI (i % 9)) := by
          rw [modV_int (by decide)]
          simp
        have e0 : (IV.int ((0 : Int) + (i : Int))) = nI i := by simp
        apply of_W
        simp (config := { failIfUnchanged := false, decide := false }) only [W_bind, W_pure, W_no, W_opt, W_nox, W_op, W_un, W_C, W_varM, W_tst, W_boolM, W_ifB, W_notT, W_andT, W_orT, W_ifE, W_andV, W_orV, W_notV, W_chain, W_nil, W_cons, W_ap, W_apL, W_fl, W_nx, W_brk, W_cnt, W_seq, W_set, W_own, W_ret, W_retN, W_drop, W_if, W_call, W_make, W_fld, W_ix, W_part, W_noPart, W_sl, W_itL, W_itT, W_itS, W_for, W_forNil, W_while, W_gset, W_gcons, W_gnil, W_par2, W_fzM, W_rf, W_ownA, W_setIx, WF_run, WF_ok, WF_arM, eq_self, setE_mk, List.map_cons, List.map_nil, List.length_cons, List.length_nil, List.replicate, List.cons_append, List.nil_append, List.append_nil, List.set_cons_zero, List.set_cons_succ, List.getElem?_cons_zero, List.getElem?_cons_succ, Nat.reduceAdd, Nat.reduceSub, Nat.sub_zero, if_true, if_false, Bool.false_eq_true, and_self, and_true, true_and, Int.reduceLT, Int.reduceLE, Nat.reduceLeDiff, Nat.reduceLT, decide_true, decide_false, Bool.not_true, Bool.not_false, addV_int, subV_int, negV_int, ltV_int, leV_int, gtV_int, geV_int, eqV_int, neV_int, eqV_str, neV_str, intV_int, intV_bl, lenV_fl, lenV_tup, listV_fl, tupleV_fl, ixS_fl, ixS_tup, enm_fl, tupV, lstV, szL, szl, addV_fl, W_ownIxM, W_appM, W_parVN, W_parNV, W_parNN, W_parVVN, minV_int, maxV_int, scI, W_selfM, WI_run, WI_end, WI_ok, Int.cast_ofNat_Int, Int.reduceBEq, Int.reduceBNe, beq_self_eq_true, Bool.not_eq_true, Bool.and_true, Bool.true_and, W_gtupM, W_opL, W_ownSet, W_meth, W_eqM, W_setFld, W_makeR, W_join, W_split, W_ifL, W_extM, W_itK, W_menu, ite_true, ite_false, List.set_set, em]
        rw [e0, hf]
      · have eM : mulV (.fl [.int m]) (.int 8) = some (.fl (List.replicate 8 (nI 198))) := by rw [← h198]; kernel_rfl
        have e2c : addV (.fl q) (.fl [.tup [.str "cat", .fl [nI 198, nI 198, nI 198, nI 198, nI 198, nI 198, nI 198, nI 198]]]) = some (rowsV bg) := e2b
        simp (config := { failIfUnchanged := false, decide := false }) only [W_bind, W_pure, W_no, W_opt, W_nox, W_op, W_un, W_C, W_varM, W_tst, W_boolM, W_ifB, W_notT, W_andT, W_orT, W_ifE, W_andV, W_orV, W_notV, W_chain, W_nil, W_cons, W_ap, W_apL, W_fl, W_nx, W_brk, W_cnt, W_seq, W_set, W_own, W_ret, W_retN, W_drop, W_if, W_call, W_make, W_fld, W_ix, W_part, W_noPart, W_sl, W_itL, W_itT, W_itS, W_for, W_forNil, W_while, W_gset, W_gcons, W_gnil, W_par2, W_fzM, W_rf, W_ownA, W_setIx, WF_run, WF_ok, WF_arM, eq_self, setE_mk, List.map_cons, List.map_nil, List.length_cons, List.length_nil, List.replicate, List.cons_append, List.nil_append, List.append_nil, List.set_cons_zero, List.set_cons_succ, List.getElem?_cons_zero, List.getElem?_cons_succ, Nat.reduceAdd, Nat.reduceSub, Nat.sub_zero, if_true, if_false, Bool.false_eq_true, and_self, and_true, true_and, Int.reduceLT, Int.reduceLE, Nat.reduceLeDiff, Nat.reduceLT, decide_true, decide_false, Bool.not_true, Bool.not_false, addV_int, subV_int, negV_int, ltV_int, leV_int, gtV_int, geV_int, eqV_int, neV_int, eqV_str, neV_str, intV_int, intV_bl, lenV_fl, lenV_tup, listV_fl, tupleV_fl, ixS_fl, ixS_tup, enm_fl, tupV, lstV, szL, szl, addV_fl, W_ownIxM, W_appM, W_parVN, W_parNV, W_parNN, W_parVVN, minV_int, maxV_int, scI, W_selfM, WI_run, WI_end, WI_ok, Int.cast_ofNat_Int, Int.reduceBEq, Int.reduceBNe, beq_self_eq_true, Bool.not_eq_true, Bool.and_true, Bool.true_and, W_gtupM, W_opL, W_ownSet, W_meth, W_eqM, W_setFld, W_makeR, W_join, W_split, W_ifL, W_extM, W_itK, W_menu, ite_true, ite_false, List.set_set, e1b, eM, e2b, e2c]
        refine (right_ok Z (rs := bg) (by intro z; rw [z] at b2; simp at b2) b1 (by omega) μ').imp fun v μ3 ⟨hv, ν, hν⟩ => ?_
        subst hv
        subst hν
        simp (config := { failIfUnchanged := false, decide := false }) only [W_bind, W_pure, W_no, W_opt, W_nox, W_op, W_un, W_C, W_varM, W_tst, W_boolM, W_ifB, W_notT, W_andT, W_orT, W_ifE, W_andV, W_orV, W_notV, W_chain, W_nil, W_cons, W_ap, W_apL, W_fl, W_nx, W_brk, W_cnt, W_seq, W_set, W_own, W_ret, W_retN, W_drop, W_if, W_call, W_make, W_fld, W_ix, W_part, W_noPart, W_sl, W_itL, W_itT, W_itS, W_for, W_forNil, W_while, W_gset, W_gcons, W_gnil, W_par2, W_fzM, W_rf, W_ownA, W_setIx, WF_run, WF_ok, WF_arM, eq_self, setE_mk, List.map_cons, List.map_nil, List.length_cons, List.length_nil, List.replicate, List.cons_append, List.nil_append, List.append_nil, List.set_cons_zero, List.set_cons_succ, List.getElem?_cons_zero, List.getElem?_cons_succ, Nat.reduceAdd, Nat.reduceSub, Nat.sub_zero, if_true, if_false, Bool.false_eq_true, and_self, and_true, true_and, Int.reduceLT, Int.reduceLE, Nat.reduceLeDiff, Nat.reduceLT, decide_true, decide_false, Bool.not_true, Bool.not_false, addV_int, subV_int, negV_int, ltV_int, leV_int, gtV_int, geV_int, eqV_int, neV_int, eqV_str, neV_str, intV_int, intV_bl, lenV_fl, lenV_tup, listV_fl, tupleV_fl, ixS_fl, ixS_tup, enm_fl, tupV, lstV, szL, szl, addV_fl, W_ownIxM, W_appM, W_parVN, W_parNV, W_parNN, W_parVVN, minV_int, maxV_int, scI, W_selfM, WI_run, WI_end, WI_ok, Int.cast_ofNat_Int, Int.reduceBEq, Int.reduceBNe, beq_self_eq_true, Bool.not_eq_true, Bool.and_true, Bool.true_and, W_gtupM, W_opL, W_ownSet, W_meth, W_eqM, W_setFld, W_makeR, W_join, W_split, W_ifL, W_extM, W_itK, W_menu, ite_true, ite_false, List.set_set]
        refine row_draw Z μ.length 0 (by decide) _ _ (well_app hw) fun r μ4 ho hw4 hl4 => ?_
        simp (config := { failIfUnchanged := false, decide := false }) only [W_bind, W_pure, W_no, W_opt, W_nox, W_op, W_un, W_C, W_varM, W_tst, W_boolM, W_ifB, W_notT, W_andT, W_orT, W_ifE, W_andV, W_orV, W_notV, W_chain, W_nil, W_cons, W_ap, W_apL, W_fl, W_nx, W_brk, W_cnt, W_seq, W_set, W_own, W_ret, W_retN, W_drop, W_if, W_call, W_make, W_fld, W_ix, W_part, W_noPart, W_sl, W_itL, W_itT, W_itS, W_for, W_forNil, W_while, W_gset, W_gcons, W_gnil, W_par2, W_fzM, W_rf, W_ownA, W_setIx, WF_run, WF_ok, WF_arM, eq_self, setE_mk, List.map_cons, List.map_nil, List.length_cons, List.length_nil, List.replicate, List.cons_append, List.nil_append, List.append_nil, List.set_cons_zero, List.set_cons_succ, List.getElem?_cons_zero, List.getElem?_cons_succ, Nat.reduceAdd, Nat.reduceSub, Nat.sub_zero, if_true, if_false, Bool.false_eq_true, and_self, and_true, true_and, Int.reduceLT, Int.reduceLE, Nat.reduceLeDiff, Nat.reduceLT, decide_true, decide_false, Bool.not_true, Bool.not_false, addV_int, subV_int, negV_int, ltV_int, leV_int, gtV_int, geV_int, eqV_int, neV_int, eqV_str, neV_str, intV_int, intV_bl, lenV_fl, lenV_tup, listV_fl, tupleV_fl, ixS_fl, ixS_tup, enm_fl, tupV, lstV, szL, szl, addV_fl, W_ownIxM, W_appM, W_parVN, W_parNV, W_parNN, W_parVVN, minV_int, maxV_int, scI, W_selfM, WI_run, WI_end, WI_ok, Int.cast_ofNat_Int, Int.reduceBEq, Int.reduceBNe, beq_self_eq_true, Bool.not_eq_true, Bool.and_true, Bool.true_and, W_gtupM, W_opL, W_ownSet, W_meth, W_eqM, W_setFld, W_makeR, W_join, W_split, W_ifL, W_extM, W_itK, W_menu, ite_true, ite_false, List.set_set]
        refine (right_ok Z (rs := [r]) (by simp) (fun k q e => by cases k with | zero => cases e; exact ho | succ k => simp at e) (by simp) μ4).imp fun v μ5 ⟨hv, ν2, hν2⟩ => ?_
        subst hv
        subst hν2
        simp (config := { failIfUnchanged := false, decide := false }) only [W_bind, W_pure, W_no, W_opt, W_nox, W_op, W_un, W_C, W_varM, W_tst, W_boolM, W_ifB, W_notT, W_andT, W_orT, W_ifE, W_andV, W_orV, W_notV, W_chain, W_nil, W_cons, W_ap, W_apL, W_fl, W_nx, W_brk, W_cnt, W_seq, W_set, W_own, W_ret, W_retN, W_drop, W_if, W_call, W_make, W_fld, W_ix, W_part, W_noPart, W_sl, W_itL, W_itT, W_itS, W_for, W_forNil, W_while, W_gset, W_gcons, W_gnil, W_par2, W_fzM, W_rf, W_ownA, W_setIx, WF_run, WF_ok, WF_arM, eq_self, setE_mk, List.map_cons, List.map_nil, List.length_cons, List.length_nil, List.replicate, List.cons_append, List.nil_append, List.append_nil, List.set_cons_zero, List.set_cons_succ, List.getElem?_cons_zero, List.getElem?_cons_succ, Nat.reduceAdd, Nat.reduceSub, Nat.sub_zero, if_true, if_false, Bool.false_eq_true, and_self, and_true, true_and, Int.reduceLT, Int.reduceLE, Nat.reduceLeDiff, Nat.reduceLT, decide_true, decide_false, Bool.not_true, Bool.not_false, addV_int, subV_int, negV_int, ltV_int, leV_int, gtV_int, geV_int, eqV_int, neV_int, eqV_str, neV_str, intV_int, intV_bl, lenV_fl, lenV_tup, listV_fl, tupleV_fl, ixS_fl, ixS_tup, enm_fl, tupV, lstV, szL, szl, addV_fl, W_ownIxM, W_appM, W_parVN, W_parNV, W_parNN, W_parVVN, minV_int, maxV_int, scI, W_selfM, WI_run, WI_end, WI_ok, Int.cast_ofNat_Int, Int.reduceBEq, Int.reduceBNe, beq_self_eq_true, Bool.not_eq_true, Bool.and_true, Bool.true_and, W_gtupM, W_opL, W_ownSet, W_meth, W_eqM, W_setFld, W_makeR, W_join, W_split, W_ifL, W_extM, W_itK, W_menu, ite_true, ite_false, List.set_set]
        exact ⟨.inl trivial, _, _, _, _, _, rfl⟩
  · rintro s ⟨e1, e3, e4, e5, μ, rfl⟩
    exact hR _ _ _ _ _
end
/-- the known ones -/
def knownR : List (Row × Str) := [(.text (Str.ofString ""), "text "), (.line (Str.ofString " "), "line  "), (.hard, "hard"), (.cat [], "cat")]
def kV (p : Row × Str) : IV := .tup [rowsV [p.1], .str p.2]
theorem known_all : ∀ p ∈ knownR, p.1.ok 0 ∧ tx (lineR p.1) = p.2 := by
  intro p hp
  simp only [knownR, List.mem_cons, List.not_mem_nil, or_false] at hp
  rcases hp with rfl | rfl | rfl | rfl
  · exact ⟨⟨by decide +kernel, by rw [nil_cps, tx_cps]; intro c hc; simp at hc⟩, by decide +kernel⟩
  · exact ⟨⟨by decide +kernel, by rw [sp_cps', tx_cps]; intro c hc; simp at hc; omega⟩, by decide +kernel⟩
  · exact ⟨trivial, by decide +kernel⟩
  · exact ⟨⟨by simp, by simp⟩, by decide +kernel⟩
theorem law_true (Z : Ad) (ns : List Int) (hns : ns.length ≤ 63) : ∃ μ, fn_law Z [.fl (ns.map .int)] [] = .ok (.bl true) μ := by
  obtain ⟨bg, q, b1, b2, e1b, e2b⟩ := big_ex
  suffices hs : WF (fn_law Z [.fl (ns.map .int)] []) fun v _ => v = .bl true by
    obtain ⟨v, μ, e, rfl⟩ := hs.run
    exact ⟨μ, e⟩
  unfold fn_law m_law
  rw [WF_ar (n := 1) rfl, WF_run]
  show W _ ⟨[.val (.fl (ns.map .int)), .emp, .emp, .emp, .emp, .emp, .emp, .emp, .emp], []⟩ _
  rw [W_seq]
  refine law_s1 Z ns hns _ bg q b1 b2 e1b (fun _ => rfl) e2b _ fun e1 e3 e4 e5 μ => ?_
  unfold m_law_r1 m_law_s2
  have ek : ([.tup [.fl [.tup [.str "text", .str ""]], .str "text "], .tup [.fl [.tup [.str "line", .str " "]], .str "line  "], .tup [.fl [.tup [.str "hard"]], .str "hard"], .tup [.fl [.tup [.str "cat", .fl []]], .str "cat"]] : List IV) = knownR.map kV := rfl
  simp (config := { failIfUnchanged := false, decide := false }) only [W_bind, W_pure, W_no, W_opt, W_nox, W_op, W_un, W_C, W_varM, W_tst, W_boolM, W_ifB, W_notT, W_andT, W_orT, W_ifE, W_andV, W_orV, W_notV, W_chain, W_nil, W_cons, W_ap, W_apL, W_fl, W_nx, W_brk, W_cnt, W_seq, W_set, W_own, W_ret, W_retN, W_drop, W_if, W_call, W_make, W_fld, W_ix, W_part, W_noPart, W_sl, W_itL, W_itT, W_itS, W_for, W_forNil, W_while, W_gset, W_gcons, W_gnil, W_par2, W_fzM, W_rf, W_ownA, W_setIx, WF_run, WF_ok, WF_arM, eq_self, setE_mk, List.map_cons, List.map_nil, List.length_cons, List.length_nil, List.replicate, List.cons_append, List.nil_append, List.append_nil, List.set_cons_zero, List.set_cons_succ, List.getElem?_cons_zero, List.getElem?_cons_succ, Nat.reduceAdd, Nat.reduceSub, Nat.sub_zero, if_true, if_false, Bool.false_eq_true, and_self, and_true, true_and, Int.reduceLT, Int.reduceLE, Nat.reduceLeDiff, Nat.reduceLT, decide_true, decide_false, Bool.not_true, Bool.not_false, addV_int, subV_int, negV_int, ltV_int, leV_int, gtV_int, geV_int, eqV_int, neV_int, eqV_str, neV_str, intV_int, intV_bl, lenV_fl, lenV_tup, listV_fl, tupleV_fl, ixS_fl, ixS_tup, enm_fl, tupV, lstV, szL, szl, addV_fl, W_ownIxM, W_appM, W_parVN, W_parNV, W_parNN, W_parVVN, minV_int, maxV_int, scI, W_selfM, WI_run, WI_end, WI_ok, Int.cast_ofNat_Int, Int.reduceBEq, Int.reduceBNe, beq_self_eq_true, Bool.not_eq_true, Bool.and_true, Bool.true_and, W_gtupM, W_opL, W_ownSet, W_meth, W_eqM, W_setFld, W_makeR, W_join, W_split, W_ifL, W_extM, W_itK, W_menu, ite_true, ite_false, List.set_set, ek]
  unfold m_law_r2 m_law_s3
  simp (config := { failIfUnchanged := false, decide := false }) only [W_bind, W_pure, W_no, W_opt, W_nox, W_op, W_un, W_C, W_varM, W_tst, W_boolM, W_ifB, W_notT, W_andT, W_orT, W_ifE, W_andV, W_orV, W_notV, W_chain, W_nil, W_cons, W_ap, W_apL, W_fl, W_nx, W_brk, W_cnt, W_seq, W_set, W_own, W_ret, W_retN, W_drop, W_if, W_call, W_make, W_fld, W_ix, W_part, W_noPart, W_sl, W_itL, W_itT, W_itS, W_for, W_forNil, W_while, W_gset, W_gcons, W_gnil, W_par2, W_fzM, W_rf, W_ownA, W_setIx, WF_run, WF_ok, WF_arM, eq_self, setE_mk, List.map_cons, List.map_nil, List.length_cons, List.length_nil, List.replicate, List.cons_append, List.nil_append, List.append_nil, List.set_cons_zero, List.set_cons_succ, List.getElem?_cons_zero, List.getElem?_cons_succ, Nat.reduceAdd, Nat.reduceSub, Nat.sub_zero, if_true, if_false, Bool.false_eq_true, and_self, and_true, true_and, Int.reduceLT, Int.reduceLE, Nat.reduceLeDiff, Nat.reduceLT, decide_true, decide_false, Bool.not_true, Bool.not_false, addV_int, subV_int, negV_int, ltV_int, leV_int, gtV_int, geV_int, eqV_int, neV_int, eqV_str, neV_str, intV_int, intV_bl, lenV_fl, lenV_tup, listV_fl, tupleV_fl, ixS_fl, ixS_tup, enm_fl, tupV, lstV, szL, szl, addV_fl, W_ownIxM, W_appM, W_parVN, W_parNV, W_parNN, W_parVVN, minV_int, maxV_int, scI, W_selfM, WI_run, WI_end, WI_ok, Int.cast_ofNat_Int, Int.reduceBEq, Int.reduceBNe, beq_self_eq_true, Bool.not_eq_true, Bool.and_true, Bool.true_and, W_gtupM, W_opL, W_ownSet, W_meth, W_eqM, W_setFld, W_makeR, W_join, W_split, W_ifL, W_extM, W_itK, W_menu, ite_true, ite_false, List.set_set]
  refine W_compN (fun s => ∃ a b, s = ⟨[.val (.fl (ns.map .int)), e1, .val (.fl (knownR.map kV)), e3, e4, e5, a, b, .emp], μ⟩) ?_
  simp (config := { failIfUnchanged := false, decide := false }) only [W_bind, W_pure, W_no, W_opt, W_nox, W_op, W_un, W_C, W_varM, W_tst, W_boolM, W_ifB, W_notT, W_andT, W_orT, W_ifE, W_andV, W_orV, W_notV, W_chain, W_nil, W_cons, W_ap, W_apL, W_fl, W_nx, W_brk, W_cnt, W_seq, W_set, W_own, W_ret, W_retN, W_drop, W_if, W_call, W_make, W_fld, W_ix, W_part, W_noPart, W_sl, W_itL, W_itT, W_itS, W_for, W_forNil, W_while, W_gset, W_gcons, W_gnil, W_par2, W_fzM, W_rf, W_ownA, W_setIx, WF_run, WF_ok, WF_arM, eq_self, setE_mk, List.map_cons, List.map_nil, List.length_cons, List.length_nil, List.replicate, List.cons_append, List.nil_append, List.append_nil, List.set_cons_zero, List.set_cons_succ, List.getElem?_cons_zero, List.getElem?_cons_succ, Nat.reduceAdd, Nat.reduceSub, Nat.sub_zero, if_true, if_false, Bool.false_eq_true, and_self, and_true, true_and, Int.reduceLT, Int.reduceLE, Nat.reduceLeDiff, Nat.reduceLT, decide_true, decide_false, Bool.not_true, Bool.not_false, addV_int, subV_int, negV_int, ltV_int, leV_int, gtV_int, geV_int, eqV_int, neV_int, eqV_str, neV_str, intV_int, intV_bl, lenV_fl, lenV_tup, listV_fl, tupleV_fl, ixS_fl, ixS_tup, enm_fl, tupV, lstV, szL, szl, addV_fl, W_ownIxM, W_appM, W_parVN, W_parNV, W_parNN, W_parVVN, minV_int, maxV_int, scI, W_selfM, WI_run, WI_end, WI_ok, Int.cast_ofNat_Int, Int.reduceBEq, Int.reduceBNe, beq_self_eq_true, Bool.not_eq_true, Bool.and_true, Bool.true_and, W_gtupM, W_opL, W_ownSet, W_meth, W_eqM, W_setFld, W_makeR, W_join, W_split, W_ifL, W_extM, W_itK, W_menu, ite_true, ite_false, List.set_set]
  refine ⟨⟨_, _, rfl⟩, ?_, ?_⟩
  · rintro x hx s ⟨a, b, rfl⟩
    obtain ⟨p, hp, rfl⟩ := List.mem_map.mp hx
    obtain ⟨h1, h2⟩ := known_all p hp
    have hok : RowsOk [p.1] := fun k q e => by cases k with | zero => cases e; exact h1 | succ k => simp at e
    have hd := doc_text_ok Z [p.1] hok (by simp) μ
    have ht : textR [p.1] = lineR p.1 := rfl
    rw [ht, h2] at hd
    unfold kV
    simp (config := { failIfUnchanged := false, decide := false }) only [W_bind, W_pure, W_no, W_opt, W_nox, W_op, W_un, W_C, W_varM, W_tst, W_boolM, W_ifB, W_notT, W_andT, W_orT, W_ifE, W_andV, W_orV, W_notV, W_chain, W_nil, W_cons, W_ap, W_apL, W_fl, W_nx, W_brk, W_cnt, W_seq, W_set, W_own, W_ret, W_retN, W_drop, W_if, W_call, W_make, W_fld, W_ix, W_part, W_noPart, W_sl, W_itL, W_itT, W_itS, W_for, W_forNil, W_while, W_gset, W_gcons, W_gnil, W_par2, W_fzM, W_rf, W_ownA, W_setIx, WF_run, WF_ok, WF_arM, eq_self, setE_mk, List.map_cons, List.map_nil, List.length_cons, List.length_nil, List.replicate, List.cons_append, List.nil_append, List.append_nil, List.set_cons_zero, List.set_cons_succ, List.getElem?_cons_zero, List.getElem?_cons_succ, Nat.reduceAdd, Nat.reduceSub, Nat.sub_zero, if_true, if_false, Bool.false_eq_true, and_self, and_true, true_and, Int.reduceLT, Int.reduceLE, Nat.reduceLeDiff, Nat.reduceLT, decide_true, decide_false, Bool.not_true, Bool.not_false, addV_int, subV_int, negV_int, ltV_int, leV_int, gtV_int, geV_int, eqV_int, neV_int, eqV_str, neV_str, intV_int, intV_bl, lenV_fl, lenV_tup, listV_fl, tupleV_fl, ixS_fl, ixS_tup, enm_fl, tupV, lstV, szL, szl, addV_fl, W_ownIxM, W_appM, W_parVN, W_parNV, W_parNN, W_parVVN, minV_int, maxV_int, scI, W_selfM, WI_run, WI_end, WI_ok, Int.cast_ofNat_Int, Int.reduceBEq, Int.reduceBNe, beq_self_eq_true, Bool.not_eq_true, Bool.and_true, Bool.true_and, W_gtupM, W_opL, W_ownSet, W_meth, W_eqM, W_setFld, W_makeR, W_join, W_split, W_ifL, W_extM, W_itK, W_menu, ite_true, ite_false, List.set_set, doc_ok Z [p.1] (by simp) (by simp) hok, hd, neV_str]
    exact ⟨_, _, rfl⟩
  · rintro s ⟨a, b, rfl⟩
    have n0 : Mi.eqV (.fl []) (.fl []) = some (.bl true) := by kernel_rfl
    simp (config := { failIfUnchanged := false, decide := false }) only [W_bind, W_pure, W_no, W_opt, W_nox, W_op, W_un, W_C, W_varM, W_tst, W_boolM, W_ifB, W_notT, W_andT, W_orT, W_ifE, W_andV, W_orV, W_notV, W_chain, W_nil, W_cons, W_ap, W_apL, W_fl, W_nx, W_brk, W_cnt, W_seq, W_set, W_own, W_ret, W_retN, W_drop, W_if, W_call, W_make, W_fld, W_ix, W_part, W_noPart, W_sl, W_itL, W_itT, W_itS, W_for, W_forNil, W_while, W_gset, W_gcons, W_gnil, W_par2, W_fzM, W_rf, W_ownA, W_setIx, WF_run, WF_ok, WF_arM, eq_self, setE_mk, List.map_cons, List.map_nil, List.length_cons, List.length_nil, List.replicate, List.cons_append, List.nil_append, List.append_nil, List.set_cons_zero, List.set_cons_succ, List.getElem?_cons_zero, List.getElem?_cons_succ, Nat.reduceAdd, Nat.reduceSub, Nat.sub_zero, if_true, if_false, Bool.false_eq_true, and_self, and_true, true_and, Int.reduceLT, Int.reduceLE, Nat.reduceLeDiff, Nat.reduceLT, decide_true, decide_false, Bool.not_true, Bool.not_false, addV_int, subV_int, negV_int, ltV_int, leV_int, gtV_int, geV_int, eqV_int, neV_int, eqV_str, neV_str, intV_int, intV_bl, lenV_fl, lenV_tup, listV_fl, tupleV_fl, ixS_fl, ixS_tup, enm_fl, tupV, lstV, szL, szl, addV_fl, W_ownIxM, W_appM, W_parVN, W_parNV, W_parNN, W_parVVN, minV_int, maxV_int, scI, W_selfM, WI_run, WI_end, WI_ok, Int.cast_ofNat_Int, Int.reduceBEq, Int.reduceBNe, beq_self_eq_true, Bool.not_eq_true, Bool.and_true, Bool.true_and, W_gtupM, W_opL, W_ownSet, W_meth, W_eqM, W_setFld, W_makeR, W_join, W_split, W_ifL, W_extM, W_itK, W_menu, ite_true, ite_false, List.set_set, n0]
end Lw
set_option Elab.async false
set_option linter.all false
set_option maxRecDepth 100000
set_option maxHeartbeats 4000000
open PySem L2 Mi PyProof.Rows
namespace Lw
theorem all_mk {l : PySem.W.OpenLaw} {w : World} {K : PySem.W.Frag} {h : Heap} {mg : Str → Option Value} {fa : Addr} (X : K.In h) (G : h.Ns mainGlobals mg) (hfa : mg "law" = some (.ref fa)) {a_Doc a_LineReader a_MOST_SIGNS a_SIZES a_WORDS : Addr} {es_WORDS : Array Value} {en_WORDS : Nat} {od_WORDS : Option Addr} {sl_WORDS : Array (Option Value)} {o_Doc : Obj} {o_LineReader : Obj} {es_MOST_SIGNS : Array DictEntry} {en_MOST_SIGNS : Nat} {es_SIZES : Array DictEntry} {en_SIZES : Nat} {t_MOST_NEST : Tok} {t_MOST_PARTS : Tok} {t_MOST_ROWS : Tok} {f__law_cell_at f_Doc___eq__ f_copied_row f_Doc_row_list f__law_line f_check_doc f_line_of f_doc_text f_LineReader_rest f_is_number f_LineReader_integer f_LineReader_integers f_LineReader_string f_LineReader_word f_LineReader_row f_is_integer f_is_between f_is_signs f_is_row f_Doc___init__ f_LineReader___init__ f_read_doc f__law_right f__law_next f__law_one f__law_signs f__law_row f__law_rows f__law_source_of f_law : Addr} {oc__law_cell_at kV__law_cell_at dc__law_cell_at pm__law_cell_at cd__law_cell_at ct__law_cell_at : Value} {od__law_cell_at an__law_cell_at : Option Addr} {sl__law_cell_at : Array (Option Value)} {oc_Doc___eq__ kV_Doc___eq__ dc_Doc___eq__ pm_Doc___eq__ cd_Doc___eq__ ct_Doc___eq__ : Value} {od_Doc___eq__ an_Doc___eq__ : Option Addr} {sl_Doc___eq__ : Array (Option Value)} {oc_copied_row kV_copied_row dc_copied_row pm_copied_row cd_copied_row ct_copied_row : Value} {od_copied_row an_copied_row : Option Addr} {sl_copied_row : Array (Option Value)} {oc_Doc_row_list kV_Doc_row_list dc_Doc_row_list pm_Doc_row_list cd_Doc_row_list ct_Doc_row_list : Value} {od_Doc_row_list an_Doc_row_list : Option Addr} {sl_Doc_row_list : Array (Option Value)} {oc__law_line kV__law_line dc__law_line pm__law_line cd__law_line ct__law_line : Value} {od__law_line an__law_line : Option Addr} {sl__law_line : Array (Option Value)} {oc_check_doc kV_check_doc dc_check_doc pm_check_doc cd_check_doc ct_check_doc : Value} {od_check_doc an_check_doc : Option Addr} {sl_check_doc : Array (Option Value)} {oc_line_of kV_line_of dc_line_of pm_line_of cd_line_of ct_line_of : Value} {od_line_of an_line_of : Option Addr} {sl_line_of : Array (Option Value)} {oc_doc_text kV_doc_text dc_doc_text pm_doc_text cd_doc_text ct_doc_text : Value} {od_doc_text an_doc_text : Option Addr} {sl_doc_text : Array (Option Value)} {oc_LineReader_rest kV_LineReader_rest dc_LineReader_rest pm_LineReader_rest cd_LineReader_rest ct_LineReader_rest : Value} {od_LineReader_rest an_LineReader_rest : Option Addr} {sl_LineReader_rest : Array (Option Value)} {oc_is_number kV_is_number dc_is_number pm_is_number cd_is_number ct_is_number : Value} {od_is_number an_is_number : Option Addr} {sl_is_number : Array (Option Value)} {oc_LineReader_integer kV_LineReader_integer dc_LineReader_integer pm_LineReader_integer cd_LineReader_integer ct_LineReader_integer : Value} {od_LineReader_integer an_LineReader_integer : Option Addr} {sl_LineReader_integer : Array (Option Value)} {oc_LineReader_integers kV_LineReader_integers dc_LineReader_integers pm_LineReader_integers cd_LineReader_integers ct_LineReader_integers : Value} {od_LineReader_integers an_LineReader_integers : Option Addr} {sl_LineReader_integers : Array (Option Value)} {oc_LineReader_string kV_LineReader_string dc_LineReader_string pm_LineReader_string cd_LineReader_string ct_LineReader_string : Value} {od_LineReader_string an_LineReader_string : Option Addr} {sl_LineReader_string : Array (Option Value)} {oc_LineReader_word kV_LineReader_word dc_LineReader_word pm_LineReader_word cd_LineReader_word ct_LineReader_word : Value} {od_LineReader_word an_LineReader_word : Option Addr} {sl_LineReader_word : Array (Option Value)} {oc_LineReader_row kV_LineReader_row dc_LineReader_row pm_LineReader_row cd_LineReader_row ct_LineReader_row : Value} {od_LineReader_row an_LineReader_row : Option Addr} {sl_LineReader_row : Array (Option Value)} {oc_is_integer kV_is_integer dc_is_integer pm_is_integer cd_is_integer ct_is_integer : Value} {od_is_integer an_is_integer : Option Addr} {sl_is_integer : Array (Option Value)} {oc_is_between kV_is_between dc_is_between pm_is_between cd_is_between ct_is_between : Value} {od_is_between an_is_between : Option Addr} {sl_is_between : Array (Option Value)} {oc_is_signs kV_is_signs dc_is_signs pm_is_signs cd_is_signs ct_is_signs : Value} {od_is_signs an_is_signs : Option Addr} {sl_is_signs : Array (Option Value)} {oc_is_row kV_is_row dc_is_row pm_is_row cd_is_row ct_is_row : Value} {od_is_row an_is_row : Option Addr} {sl_is_row : Array (Option Value)} {oc_Doc___init__ kV_Doc___init__ dc_Doc___init__ pm_Doc___init__ cd_Doc___init__ ct_Doc___init__ : Value} {od_Doc___init__ an_Doc___init__ : Option Addr} {sl_Doc___init__ : Array (Option Value)} {oc_LineReader___init__ kV_LineReader___init__ dc_LineReader___init__ pm_LineReader___init__ cd_LineReader___init__ ct_LineReader___init__ : Value} {od_LineReader___init__ an_LineReader___init__ : Option Addr} {sl_LineReader___init__ : Array (Option Value)} {oc_read_doc kV_read_doc dc_read_doc pm_read_doc cd_read_doc ct_read_doc : Value} {od_read_doc an_read_doc : Option Addr} {sl_read_doc : Array (Option Value)} {oc__law_right kV__law_right dc__law_right pm__law_right cd__law_right ct__law_right : Value} {od__law_right an__law_right : Option Addr} {sl__law_right : Array (Option Value)} {oc__law_next kV__law_next dc__law_next pm__law_next cd__law_next ct__law_next : Value} {od__law_next an__law_next : Option Addr} {sl__law_next : Array (Option Value)} {oc__law_one kV__law_one dc__law_one pm__law_one cd__law_one ct__law_one : Value} {od__law_one an__law_one : Option Addr} {sl__law_one : Array (Option Value)} {oc__law_signs kV__law_signs dc__law_signs pm__law_signs cd__law_signs ct__law_signs : Value} {od__law_signs an__law_signs : Option Addr} {sl__law_signs : Array (Option Value)} {oc__law_row kV__law_row dc__law_row pm__law_row cd__law_row ct__law_row : Value} {od__law_row an__law_row : Option Addr} {sl__law_row : Array (Option Value)} {oc__law_rows kV__law_rows dc__law_rows pm__law_rows cd__law_rows ct__law_rows : Value} {od__law_rows an__law_rows : Option Addr} {sl__law_rows : Array (Option Value)} {oc__law_source_of kV__law_source_of dc__law_source_of pm__law_source_of cd__law_source_of ct__law_source_of : Value} {od__law_source_of an__law_source_of : Option Addr} {sl__law_source_of : Array (Option Value)} {oc_law kV_law dc_law pm_law cd_law ct_law : Value} {od_law an_law : Option Addr} {sl_law : Array (Option Value)} 
    (aC_Doc : PySem.W.nsIn K mainGlobals "Doc" = some (some (.ref a_Doc)))
    (lC_Doc : K.lookup a_Doc = some o_Doc)
    (pg_Doc : PySem.W.plainGet K a_Doc Str.empty = true)
    (hd_Doc : PySem.W.hasDictIn K a_Doc = true)
    (po_Doc : PySem.W.plainOver K a_Doc = true)
    (sa_Doc : PySem.W.findIn K (.ref a_Doc) "__setattr__" = some (some (.builtin "object.__setattr__")))
    (aC_LineReader : PySem.W.nsIn K mainGlobals "LineReader" = some (some (.ref a_LineReader)))
    (lC_LineReader : K.lookup a_LineReader = some o_LineReader)
    (pg_LineReader : PySem.W.plainGet K a_LineReader Str.empty = true)
    (hd_LineReader : PySem.W.hasDictIn K a_LineReader = true)
    (po_LineReader : PySem.W.plainOver K a_LineReader = true)
    (sa_LineReader : PySem.W.findIn K (.ref a_LineReader) "__setattr__" = some (some (.builtin "object.__setattr__")))
    (nA_Doc_layouts : PySem.W.findIn K (.ref a_Doc) "layouts" = some none)
    (nA_Doc_rows : PySem.W.findIn K (.ref a_Doc) "rows" = some none)
    (nA_LineReader_line : PySem.W.findIn K (.ref a_LineReader) "line" = some none)
    (nA_LineReader_number : PySem.W.findIn K (.ref a_LineReader) "number" = some none)
    (nA_LineReader_place : PySem.W.findIn K (.ref a_LineReader) "place" = some none)
    (kt_Doc_NoneType : PySem.W.kitOne K (.type "NoneType") (.ref a_Doc) = some false)
    (kt_Doc_bool : PySem.W.kitOne K (.type "bool") (.ref a_Doc) = some false)
    (kt_Doc_int : PySem.W.kitOne K (.type "int") (.ref a_Doc) = some false)
    (kt_Doc_str : PySem.W.kitOne K (.type "str") (.ref a_Doc) = some false)
    (kt_Doc_tuple : PySem.W.kitOne K (.type "tuple") (.ref a_Doc) = some false)
    (kt_Doc_list : PySem.W.kitOne K (.type "list") (.ref a_Doc) = some false)
    (cc_Doc : PySem.W.findIn K (.ref a_Doc) "__class__" = some (some (.builtin "object.__class__")))
    (mr_Doc : PySem.W.mroIn K a_Doc (.type "object") = some true)
    (kk_Doc : PySem.W.kitOne K (.ref a_Doc) (.ref a_Doc) = some true)
    (ccg : PySem.W.specialIn K (.builtin "object.__class__") "__get__" = some (some (.builtin "getset_descriptor.__get__")))
    (cct : PySem.W.takesIn K (.builtin "object.__class__") = some true)
    (aT_MOST_SIGNS : PySem.W.nsIn K mainGlobals "MOST_SIGNS" = some (some (.ref a_MOST_SIGNS)))
    (lT_MOST_SIGNS : K.lookup a_MOST_SIGNS = some ⟨.type "dict", none, .dict es_MOST_SIGNS en_MOST_SIGNS, #[]⟩)
    (eT_MOST_SIGNS : TabE w.params tab_MOST_SIGNS es_MOST_SIGNS.toList)
    (zT_MOST_SIGNS : (a_MOST_SIGNS == sysModules) = false)
    (aT_SIZES : PySem.W.nsIn K mainGlobals "SIZES" = some (some (.ref a_SIZES)))
    (lT_SIZES : K.lookup a_SIZES = some ⟨.type "dict", none, .dict es_SIZES en_SIZES, #[]⟩)
    (eT_SIZES : TabE w.params tab_SIZES es_SIZES.toList)
    (zT_SIZES : (a_SIZES == sysModules) = false)
    (aT_WORDS : PySem.W.nsIn K mainGlobals "WORDS" = some (some (.ref a_WORDS)))
    (lT_WORDS : K.lookup a_WORDS = some ⟨.type "tuple", od_WORDS, .seq es_WORDS en_WORDS, sl_WORDS⟩)
    (eT_WORDS : es_WORDS.size ≤ 1000 ∧ Vals [.str "text", .str "line", .str "hard", .str "cat", .str "nest", .str "align", .str "group"] es_WORDS.toList)
    (z_all : PySem.W.nsIn K mainGlobals "all" = some none)
    (z_bool : PySem.W.nsIn K mainGlobals "bool" = some none)
    (z_enumerate : PySem.W.nsIn K mainGlobals "enumerate" = some none)
    (z_int : PySem.W.nsIn K mainGlobals "int" = some none)
    (z_isinstance : PySem.W.nsIn K mainGlobals "isinstance" = some none)
    (z_len : PySem.W.nsIn K mainGlobals "len" = some none)
    (z_list : PySem.W.nsIn K mainGlobals "list" = some none)
    (z_max : PySem.W.nsIn K mainGlobals "max" = some none)
    (z_range : PySem.W.nsIn K mainGlobals "range" = some none)
    (z_str : PySem.W.nsIn K mainGlobals "str" = some none)
    (z_tuple : PySem.W.nsIn K mainGlobals "tuple" = some none)
    (v_MOST_NEST : PySem.W.nsIn K mainGlobals "MOST_NEST" = some (some (.int 8 t_MOST_NEST)))
    (v_MOST_PARTS : PySem.W.nsIn K mainGlobals "MOST_PARTS" = some (some (.int 8 t_MOST_PARTS)))
    (v_MOST_ROWS : PySem.W.nsIn K mainGlobals "MOST_ROWS" = some (some (.int 200 t_MOST_ROWS)))
    (a_f__law_cell_at : PySem.W.nsIn K mainGlobals "_law_cell_at" = some (some (.ref f__law_cell_at)))
    (l__law_cell_at : K.lookup f__law_cell_at = some ⟨oc__law_cell_at, od__law_cell_at, .func (PySem.W.fnOf "_law_cell_at" "_law_cell_at" (defArgs s__law_cell_at) (defBody s__law_cell_at) (defScope s__law_cell_at) .none kV__law_cell_at dc__law_cell_at pm__law_cell_at an__law_cell_at cd__law_cell_at ct__law_cell_at), sl__law_cell_at⟩)
    (c__law_cell_at : PySem.W.codeIn K cd__law_cell_at "_law_cell_at" = true)
    (k__law_cell_at : PySem.W.keepIn K (.ref f__law_cell_at) = true)
    (a_f_Doc___eq__ : PySem.W.findIn K (.ref a_Doc) "__eq__" = some (some (.ref f_Doc___eq__)))
    (i_Doc___eq__ : PySem.W.isFn K (.ref f_Doc___eq__) = true)
    (l_Doc___eq__ : K.lookup f_Doc___eq__ = some ⟨oc_Doc___eq__, od_Doc___eq__, .func (PySem.W.fnOf "__eq__" "Doc.__eq__" (defArgs s_Doc___eq__) (defBody s_Doc___eq__) (defScope s_Doc___eq__) .none kV_Doc___eq__ dc_Doc___eq__ pm_Doc___eq__ an_Doc___eq__ cd_Doc___eq__ ct_Doc___eq__), sl_Doc___eq__⟩)
    (c_Doc___eq__ : PySem.W.codeIn K cd_Doc___eq__ "Doc.__eq__" = true)
    (k_Doc___eq__ : PySem.W.keepIn K (.ref f_Doc___eq__) = true)
    (a_f_copied_row : PySem.W.nsIn K mainGlobals "copied_row" = some (some (.ref f_copied_row)))
    (l_copied_row : K.lookup f_copied_row = some ⟨oc_copied_row, od_copied_row, .func (PySem.W.fnOf "copied_row" "copied_row" (defArgs s_copied_row) (defBody s_copied_row) (defScope s_copied_row) .none kV_copied_row dc_copied_row pm_copied_row an_copied_row cd_copied_row ct_copied_row), sl_copied_row⟩)
    (c_copied_row : PySem.W.codeIn K cd_copied_row "copied_row" = true)
    (k_copied_row : PySem.W.keepIn K (.ref f_copied_row) = true)
    (a_f_Doc_row_list : PySem.W.findIn K (.ref a_Doc) "row_list" = some (some (.ref f_Doc_row_list)))
    (i_Doc_row_list : PySem.W.isFn K (.ref f_Doc_row_list) = true)
    (l_Doc_row_list : K.lookup f_Doc_row_list = some ⟨oc_Doc_row_list, od_Doc_row_list, .func (PySem.W.fnOf "row_list" "Doc.row_list" (defArgs s_Doc_row_list) (defBody s_Doc_row_list) (defScope s_Doc_row_list) .none kV_Doc_row_list dc_Doc_row_list pm_Doc_row_list an_Doc_row_list cd_Doc_row_list ct_Doc_row_list), sl_Doc_row_list⟩)
    (c_Doc_row_list : PySem.W.codeIn K cd_Doc_row_list "Doc.row_list" = true)
    (k_Doc_row_list : PySem.W.keepIn K (.ref f_Doc_row_list) = true)
    (a_f__law_line : PySem.W.nsIn K mainGlobals "_law_line" = some (some (.ref f__law_line)))
    (l__law_line : K.lookup f__law_line = some ⟨oc__law_line, od__law_line, .func (PySem.W.fnOf "_law_line" "_law_line" (defArgs s__law_line) (defBody s__law_line) (defScope s__law_line) .none kV__law_line dc__law_line pm__law_line an__law_line cd__law_line ct__law_line), sl__law_line⟩)
    (c__law_line : PySem.W.codeIn K cd__law_line "_law_line" = true)
    (k__law_line : PySem.W.keepIn K (.ref f__law_line) = true)
    (a_f_check_doc : PySem.W.nsIn K mainGlobals "check_doc" = some (some (.ref f_check_doc)))
    (l_check_doc : K.lookup f_check_doc = some ⟨oc_check_doc, od_check_doc, .func (PySem.W.fnOf "check_doc" "check_doc" (defArgs s_check_doc) (defBody s_check_doc) (defScope s_check_doc) .none kV_check_doc dc_check_doc pm_check_doc an_check_doc cd_check_doc ct_check_doc), sl_check_doc⟩)
    (c_check_doc : PySem.W.codeIn K cd_check_doc "check_doc" = true)
    (k_check_doc : PySem.W.keepIn K (.ref f_check_doc) = true)
    (a_f_line_of : PySem.W.nsIn K mainGlobals "line_of" = some (some (.ref f_line_of)))
    (l_line_of : K.lookup f_line_of = some ⟨oc_line_of, od_line_of, .func (PySem.W.fnOf "line_of" "line_of" (defArgs s_line_of) (defBody s_line_of) (defScope s_line_of) .none kV_line_of dc_line_of pm_line_of an_line_of cd_line_of ct_line_of), sl_line_of⟩)
    (c_line_of : PySem.W.codeIn K cd_line_of "line_of" = true)
    (k_line_of : PySem.W.keepIn K (.ref f_line_of) = true)
    (a_f_doc_text : PySem.W.nsIn K mainGlobals "doc_text" = some (some (.ref f_doc_text)))
    (l_doc_text : K.lookup f_doc_text = some ⟨oc_doc_text, od_doc_text, .func (PySem.W.fnOf "doc_text" "doc_text" (defArgs s_doc_text) (defBody s_doc_text) (defScope s_doc_text) .none kV_doc_text dc_doc_text pm_doc_text an_doc_text cd_doc_text ct_doc_text), sl_doc_text⟩)
    (c_doc_text : PySem.W.codeIn K cd_doc_text "doc_text" = true)
    (k_doc_text : PySem.W.keepIn K (.ref f_doc_text) = true)
    (a_f_LineReader_rest : PySem.W.findIn K (.ref a_LineReader) "rest" = some (some (.ref f_LineReader_rest)))
    (i_LineReader_rest : PySem.W.isFn K (.ref f_LineReader_rest) = true)
    (l_LineReader_rest : K.lookup f_LineReader_rest = some ⟨oc_LineReader_rest, od_LineReader_rest, .func (PySem.W.fnOf "rest" "LineReader.rest" (defArgs s_LineReader_rest) (defBody s_LineReader_rest) (defScope s_LineReader_rest) .none kV_LineReader_rest dc_LineReader_rest pm_LineReader_rest an_LineReader_rest cd_LineReader_rest ct_LineReader_rest), sl_LineReader_rest⟩)
    (c_LineReader_rest : PySem.W.codeIn K cd_LineReader_rest "LineReader.rest" = true)
    (k_LineReader_rest : PySem.W.keepIn K (.ref f_LineReader_rest) = true)
    (a_f_is_number : PySem.W.nsIn K mainGlobals "is_number" = some (some (.ref f_is_number)))
    (l_is_number : K.lookup f_is_number = some ⟨oc_is_number, od_is_number, .func (PySem.W.fnOf "is_number" "is_number" (defArgs s_is_number) (defBody s_is_number) (defScope s_is_number) .none kV_is_number dc_is_number pm_is_number an_is_number cd_is_number ct_is_number), sl_is_number⟩)
    (c_is_number : PySem.W.codeIn K cd_is_number "is_number" = true)
    (k_is_number : PySem.W.keepIn K (.ref f_is_number) = true)
    (a_f_LineReader_integer : PySem.W.findIn K (.ref a_LineReader) "integer" = some (some (.ref f_LineReader_integer)))
    (i_LineReader_integer : PySem.W.isFn K (.ref f_LineReader_integer) = true)
    (l_LineReader_integer : K.lookup f_LineReader_integer = some ⟨oc_LineReader_integer, od_LineReader_integer, .func (PySem.W.fnOf "integer" "LineReader.integer" (defArgs s_LineReader_integer) (defBody s_LineReader_integer) (defScope s_LineReader_integer) .none kV_LineReader_integer dc_LineReader_integer pm_LineReader_integer an_LineReader_integer cd_LineReader_integer ct_LineReader_integer), sl_LineReader_integer⟩)
    (c_LineReader_integer : PySem.W.codeIn K cd_LineReader_integer "LineReader.integer" = true)
    (k_LineReader_integer : PySem.W.keepIn K (.ref f_LineReader_integer) = true)
    (a_f_LineReader_integers : PySem.W.findIn K (.ref a_LineReader) "integers" = some (some (.ref f_LineReader_integers)))
    (i_LineReader_integers : PySem.W.isFn K (.ref f_LineReader_integers) = true)
    (l_LineReader_integers : K.lookup f_LineReader_integers = some ⟨oc_LineReader_integers, od_LineReader_integers, .func (PySem.W.fnOf "integers" "LineReader.integers" (defArgs s_LineReader_integers) (defBody s_LineReader_integers) (defScope s_LineReader_integers) .none kV_LineReader_integers dc_LineReader_integers pm_LineReader_integers an_LineReader_integers cd_LineReader_integers ct_LineReader_integers), sl_LineReader_integers⟩)
    (c_LineReader_integers : PySem.W.codeIn K cd_LineReader_integers "LineReader.integers" = true)
    (k_LineReader_integers : PySem.W.keepIn K (.ref f_LineReader_integers) = true)
    (a_f_LineReader_string : PySem.W.findIn K (.ref a_LineReader) "string" = some (some (.ref f_LineReader_string)))
    (i_LineReader_string : PySem.W.isFn K (.ref f_LineReader_string) = true)
    (l_LineReader_string : K.lookup f_LineReader_string = some ⟨oc_LineReader_string, od_LineReader_string, .func (PySem.W.fnOf "string" "LineReader.string" (defArgs s_LineReader_string) (defBody s_LineReader_string) (defScope s_LineReader_string) .none kV_LineReader_string dc_LineReader_string pm_LineReader_string an_LineReader_string cd_LineReader_string ct_LineReader_string), sl_LineReader_string⟩)
    (c_LineReader_string : PySem.W.codeIn K cd_LineReader_string "LineReader.string" = true)
    (k_LineReader_string : PySem.W.keepIn K (.ref f_LineReader_string) = true)
    (a_f_LineReader_word : PySem.W.findIn K (.ref a_LineReader) "word" = some (some (.ref f_LineReader_word)))
    (i_LineReader_word : PySem.W.isFn K (.ref f_LineReader_word) = true)
    (l_LineReader_word : K.lookup f_LineReader_word = some ⟨oc_LineReader_word, od_LineReader_word, .func (PySem.W.fnOf "word" "LineReader.word" (defArgs s_LineReader_word) (defBody s_LineReader_word) (defScope s_LineReader_word) .none kV_LineReader_word dc_LineReader_word pm_LineReader_word an_LineReader_word cd_LineReader_word ct_LineReader_word), sl_LineReader_word⟩)
    (c_LineReader_word : PySem.W.codeIn K cd_LineReader_word "LineReader.word" = true)
    (k_LineReader_word : PySem.W.keepIn K (.ref f_LineReader_word) = true)
    (a_f_LineReader_row : PySem.W.findIn K (.ref a_LineReader) "row" = some (some (.ref f_LineReader_row)))
    (i_LineReader_row : PySem.W.isFn K (.ref f_LineReader_row) = true)
    (l_LineReader_row : K.lookup f_LineReader_row = some ⟨oc_LineReader_row, od_LineReader_row, .func (PySem.W.fnOf "row" "LineReader.row" (defArgs s_LineReader_row) (defBody s_LineReader_row) (defScope s_LineReader_row) .none kV_LineReader_row dc_LineReader_row pm_LineReader_row an_LineReader_row cd_LineReader_row ct_LineReader_row), sl_LineReader_row⟩)
    (c_LineReader_row : PySem.W.codeIn K cd_LineReader_row "LineReader.row" = true)
    (k_LineReader_row : PySem.W.keepIn K (.ref f_LineReader_row) = true)
    (a_f_is_integer : PySem.W.nsIn K mainGlobals "is_integer" = some (some (.ref f_is_integer)))
    (l_is_integer : K.lookup f_is_integer = some ⟨oc_is_integer, od_is_integer, .func (PySem.W.fnOf "is_integer" "is_integer" (defArgs s_is_integer) (defBody s_is_integer) (defScope s_is_integer) .none kV_is_integer dc_is_integer pm_is_integer an_is_integer cd_is_integer ct_is_integer), sl_is_integer⟩)
    (c_is_integer : PySem.W.codeIn K cd_is_integer "is_integer" = true)
    (k_is_integer : PySem.W.keepIn K (.ref f_is_integer) = true)
    (a_f_is_between : PySem.W.nsIn K mainGlobals "is_between" = some (some (.ref f_is_between)))
    (l_is_between : K.lookup f_is_between = some ⟨oc_is_between, od_is_between, .func (PySem.W.fnOf "is_between" "is_between" (defArgs s_is_between) (defBody s_is_between) (defScope s_is_between) .none kV_is_between dc_is_between pm_is_between an_is_between cd_is_between ct_is_between), sl_is_between⟩)
    (c_is_between : PySem.W.codeIn K cd_is_between "is_between" = true)
    (k_is_between : PySem.W.keepIn K (.ref f_is_between) = true)
    (a_f_is_signs : PySem.W.nsIn K mainGlobals "is_signs" = some (some (.ref f_is_signs)))
    (l_is_signs : K.lookup f_is_signs = some ⟨oc_is_signs, od_is_signs, .func (PySem.W.fnOf "is_signs" "is_signs" (defArgs s_is_signs) (defBody s_is_signs) (defScope s_is_signs) .none kV_is_signs dc_is_signs pm_is_signs an_is_signs cd_is_signs ct_is_signs), sl_is_signs⟩)
    (c_is_signs : PySem.W.codeIn K cd_is_signs "is_signs" = true)
    (k_is_signs : PySem.W.keepIn K (.ref f_is_signs) = true)
    (a_f_is_row : PySem.W.nsIn K mainGlobals "is_row" = some (some (.ref f_is_row)))
    (l_is_row : K.lookup f_is_row = some ⟨oc_is_row, od_is_row, .func (PySem.W.fnOf "is_row" "is_row" (defArgs s_is_row) (defBody s_is_row) (defScope s_is_row) .none kV_is_row dc_is_row pm_is_row an_is_row cd_is_row ct_is_row), sl_is_row⟩)
    (c_is_row : PySem.W.codeIn K cd_is_row "is_row" = true)
    (k_is_row : PySem.W.keepIn K (.ref f_is_row) = true)
    (a_f_Doc___init__ : PySem.W.findIn K (.ref a_Doc) "__init__" = some (some (.ref f_Doc___init__)))
    (i_Doc___init__ : PySem.W.isFn K (.ref f_Doc___init__) = true)
    (mk_Doc___init__ : PySem.W.makesIn K a_Doc = true)
    (kc_Doc___init__ : PySem.W.keepIn K (.ref a_Doc) = true)
    (l_Doc___init__ : K.lookup f_Doc___init__ = some ⟨oc_Doc___init__, od_Doc___init__, .func (PySem.W.fnOf "__init__" "Doc.__init__" (defArgs s_Doc___init__) (defBody s_Doc___init__) (defScope s_Doc___init__) .none kV_Doc___init__ dc_Doc___init__ pm_Doc___init__ an_Doc___init__ cd_Doc___init__ ct_Doc___init__), sl_Doc___init__⟩)
    (c_Doc___init__ : PySem.W.codeIn K cd_Doc___init__ "Doc.__init__" = true)
    (k_Doc___init__ : PySem.W.keepIn K (.ref f_Doc___init__) = true)
    (a_f_LineReader___init__ : PySem.W.findIn K (.ref a_LineReader) "__init__" = some (some (.ref f_LineReader___init__)))
    (i_LineReader___init__ : PySem.W.isFn K (.ref f_LineReader___init__) = true)
    (mk_LineReader___init__ : PySem.W.makesIn K a_LineReader = true)
    (kc_LineReader___init__ : PySem.W.keepIn K (.ref a_LineReader) = true)
    (l_LineReader___init__ : K.lookup f_LineReader___init__ = some ⟨oc_LineReader___init__, od_LineReader___init__, .func (PySem.W.fnOf "__init__" "LineReader.__init__" (defArgs s_LineReader___init__) (defBody s_LineReader___init__) (defScope s_LineReader___init__) .none kV_LineReader___init__ dc_LineReader___init__ pm_LineReader___init__ an_LineReader___init__ cd_LineReader___init__ ct_LineReader___init__), sl_LineReader___init__⟩)
    (c_LineReader___init__ : PySem.W.codeIn K cd_LineReader___init__ "LineReader.__init__" = true)
    (k_LineReader___init__ : PySem.W.keepIn K (.ref f_LineReader___init__) = true)
    (a_f_read_doc : PySem.W.nsIn K mainGlobals "read_doc" = some (some (.ref f_read_doc)))
    (l_read_doc : K.lookup f_read_doc = some ⟨oc_read_doc, od_read_doc, .func (PySem.W.fnOf "read_doc" "read_doc" (defArgs s_read_doc) (defBody s_read_doc) (defScope s_read_doc) .none kV_read_doc dc_read_doc pm_read_doc an_read_doc cd_read_doc ct_read_doc), sl_read_doc⟩)
    (c_read_doc : PySem.W.codeIn K cd_read_doc "read_doc" = true)
    (k_read_doc : PySem.W.keepIn K (.ref f_read_doc) = true)
    (a_f__law_right : PySem.W.nsIn K mainGlobals "_law_right" = some (some (.ref f__law_right)))
    (l__law_right : K.lookup f__law_right = some ⟨oc__law_right, od__law_right, .func (PySem.W.fnOf "_law_right" "_law_right" (defArgs s__law_right) (defBody s__law_right) (defScope s__law_right) .none kV__law_right dc__law_right pm__law_right an__law_right cd__law_right ct__law_right), sl__law_right⟩)
    (c__law_right : PySem.W.codeIn K cd__law_right "_law_right" = true)
    (k__law_right : PySem.W.keepIn K (.ref f__law_right) = true)
    (a_f__law_next : PySem.W.nsIn K mainGlobals "_law_next" = some (some (.ref f__law_next)))
    (l__law_next : K.lookup f__law_next = some ⟨oc__law_next, od__law_next, .func (PySem.W.fnOf "_law_next" "_law_next" (defArgs s__law_next) (defBody s__law_next) (defScope s__law_next) .none kV__law_next dc__law_next pm__law_next an__law_next cd__law_next ct__law_next), sl__law_next⟩)
    (c__law_next : PySem.W.codeIn K cd__law_next "_law_next" = true)
    (k__law_next : PySem.W.keepIn K (.ref f__law_next) = true)
    (a_f__law_one : PySem.W.nsIn K mainGlobals "_law_one" = some (some (.ref f__law_one)))
    (l__law_one : K.lookup f__law_one = some ⟨oc__law_one, od__law_one, .func (PySem.W.fnOf "_law_one" "_law_one" (defArgs s__law_one) (defBody s__law_one) (defScope s__law_one) .none kV__law_one dc__law_one pm__law_one an__law_one cd__law_one ct__law_one), sl__law_one⟩)
    (c__law_one : PySem.W.codeIn K cd__law_one "_law_one" = true)
    (k__law_one : PySem.W.keepIn K (.ref f__law_one) = true)
    (a_f__law_signs : PySem.W.nsIn K mainGlobals "_law_signs" = some (some (.ref f__law_signs)))
    (l__law_signs : K.lookup f__law_signs = some ⟨oc__law_signs, od__law_signs, .func (PySem.W.fnOf "_law_signs" "_law_signs" (defArgs s__law_signs) (defBody s__law_signs) (defScope s__law_signs) .none kV__law_signs dc__law_signs pm__law_signs an__law_signs cd__law_signs ct__law_signs), sl__law_signs⟩)
    (c__law_signs : PySem.W.codeIn K cd__law_signs "_law_signs" = true)
    (k__law_signs : PySem.W.keepIn K (.ref f__law_signs) = true)
    (a_f__law_row : PySem.W.nsIn K mainGlobals "_law_row" = some (some (.ref f__law_row)))
    (l__law_row : K.lookup f__law_row = some ⟨oc__law_row, od__law_row, .func (PySem.W.fnOf "_law_row" "_law_row" (defArgs s__law_row) (defBody s__law_row) (defScope s__law_row) .none kV__law_row dc__law_row pm__law_row an__law_row cd__law_row ct__law_row), sl__law_row⟩)
    (c__law_row : PySem.W.codeIn K cd__law_row "_law_row" = true)
    (k__law_row : PySem.W.keepIn K (.ref f__law_row) = true)
    (a_f__law_rows : PySem.W.nsIn K mainGlobals "_law_rows" = some (some (.ref f__law_rows)))
    (l__law_rows : K.lookup f__law_rows = some ⟨oc__law_rows, od__law_rows, .func (PySem.W.fnOf "_law_rows" "_law_rows" (defArgs s__law_rows) (defBody s__law_rows) (defScope s__law_rows) .none kV__law_rows dc__law_rows pm__law_rows an__law_rows cd__law_rows ct__law_rows), sl__law_rows⟩)
    (c__law_rows : PySem.W.codeIn K cd__law_rows "_law_rows" = true)
    (k__law_rows : PySem.W.keepIn K (.ref f__law_rows) = true)
    (a_f__law_source_of : PySem.W.nsIn K mainGlobals "_law_source_of" = some (some (.ref f__law_source_of)))
    (l__law_source_of : K.lookup f__law_source_of = some ⟨oc__law_source_of, od__law_source_of, .func (PySem.W.fnOf "_law_source_of" "_law_source_of" (defArgs s__law_source_of) (defBody s__law_source_of) (defScope s__law_source_of) .none kV__law_source_of dc__law_source_of pm__law_source_of an__law_source_of cd__law_source_of ct__law_source_of), sl__law_source_of⟩)
    (c__law_source_of : PySem.W.codeIn K cd__law_source_of "_law_source_of" = true)
    (k__law_source_of : PySem.W.keepIn K (.ref f__law_source_of) = true)
    (a_f_law : PySem.W.nsIn K mainGlobals "law" = some (some (.ref f_law)))
    (l_law : K.lookup f_law = some ⟨oc_law, od_law, .func (PySem.W.fnOf "law" "law" (defArgs s_law) (defBody s_law) (defScope s_law) .none kV_law dc_law pm_law an_law cd_law ct_law), sl_law⟩)
    (c_law : PySem.W.codeIn K cd_law "law" = true)
    (k_law : PySem.W.keepIn K (.ref f_law) = true)
    (lt : ∀ (Z : Ad) (ns : List Int), ns.length ≤ 63 → ∃ μ, fn_law Z [.fl (ns.map .int)] [] = .ok (.bl true) μ) :
    ∃ fd : FuncData, (∀ (s : Shared) (v : Value), BindsTo s fd ⟨[v], []⟩ [("_law_script", v)]) ∧ ∀ base : Heap, K.In base → base.Ns mainGlobals mg → FnOk l.prog w K mg base CX0 8 fa fd ["_law_script"] (spLaw K) := by
  have e := hfa.symm.trans (PySem.W.mg_of X G a_f_law)
  cases e
  have T : Txt K w mg ⟨a_Doc, a_LineReader, a_MOST_SIGNS, a_SIZES, a_WORDS⟩ := { n_all := PySem.W.mg_none_of X G z_all, n_bool := PySem.W.mg_none_of X G z_bool, n_enumerate := PySem.W.mg_none_of X G z_enumerate, n_int := PySem.W.mg_none_of X G z_int, n_isinstance := PySem.W.mg_none_of X G z_isinstance, n_len := PySem.W.mg_none_of X G z_len, n_list := PySem.W.mg_none_of X G z_list, n_max := PySem.W.mg_none_of X G z_max, n_range := PySem.W.mg_none_of X G z_range, n_str := PySem.W.mg_none_of X G z_str, n_tuple := PySem.W.mg_none_of X G z_tuple, c_MOST_NEST := ⟨_, PySem.W.mg_of X G v_MOST_NEST⟩, c_MOST_PARTS := ⟨_, PySem.W.mg_of X G v_MOST_PARTS⟩, c_MOST_ROWS := ⟨_, PySem.W.mg_of X G v_MOST_ROWS⟩, g_Doc := PySem.W.mg_of X G aC_Doc, o_Doc := ⟨_, lC_Doc⟩, cl_Doc := ⟨pg_Doc, hd_Doc, po_Doc, sa_Doc⟩, g_LineReader := PySem.W.mg_of X G aC_LineReader, o_LineReader := ⟨_, lC_LineReader⟩, cl_LineReader := ⟨pg_LineReader, hd_LineReader, po_LineReader, sa_LineReader⟩, na_Doc_layouts := nA_Doc_layouts, na_Doc_rows := nA_Doc_rows, na_LineReader_line := nA_LineReader_line, na_LineReader_number := nA_LineReader_number, na_LineReader_place := nA_LineReader_place, is_Doc := ⟨fun T hT => by simp only [List.mem_cons, List.not_mem_nil, or_false] at hT; rcases hT with h | h | h | h | h | h <;> subst h <;> assumption, fun c hc => by simp only [List.mem_cons, List.not_mem_nil, or_false] at hc; subst hc; exact ⟨⟨pg_Doc, hd_Doc, po_Doc, sa_Doc⟩, cc_Doc, mr_Doc, by rw [kk_Doc]; simp⟩, ccg, cct⟩, g_MOST_SIGNS := PySem.W.mg_of X G aT_MOST_SIGNS, t_MOST_SIGNS := ktab_of lT_MOST_SIGNS eT_MOST_SIGNS zT_MOST_SIGNS, g_SIZES := PySem.W.mg_of X G aT_SIZES, t_SIZES := ktab_of lT_SIZES eT_SIZES zT_SIZES, g_WORDS := PySem.W.mg_of X G aT_WORDS, t_WORDS := ktup_of lT_WORDS eT_WORDS.1 eT_WORDS.2 (fun w => .cons (.str _) (.cons (.str _) (.cons (.str _) (.cons (.str _) (.cons (.str _) (.cons (.str _) (.cons (.str _) (.nil)))))))) }
  have F__law_cell_at := fun_mk (st := s__law_cell_at) l__law_cell_at c__law_cell_at k__law_cell_at
  have b__law_cell_at := F__law_cell_at.binds (ps := ["_law_script", "_law_k"]) fun _ _ _ _ _ _ us hl => match us, hl with | [_, _], _ => rfl
  have F_Doc___eq__ := fun_mk (st := s_Doc___eq__) l_Doc___eq__ c_Doc___eq__ k_Doc___eq__
  have b_Doc___eq__ := F_Doc___eq__.binds (ps := ["self", "other"]) fun _ _ _ _ _ _ us hl => match us, hl with | [_, _], _ => rfl
  have F_copied_row := fun_mk (st := s_copied_row) l_copied_row c_copied_row k_copied_row
  have b_copied_row := F_copied_row.binds (ps := ["row"]) fun _ _ _ _ _ _ us hl => match us, hl with | [_], _ => rfl
  have F_Doc_row_list := fun_mk (st := s_Doc_row_list) l_Doc_row_list c_Doc_row_list k_Doc_row_list
  have b_Doc_row_list := F_Doc_row_list.binds (ps := ["self"]) fun _ _ _ _ _ _ us hl => match us, hl with | [_], _ => rfl
  have F__law_line := fun_mk (st := s__law_line) l__law_line c__law_line k__law_line
  have b__law_line := F__law_line.binds (ps := ["_law_row_here"]) fun _ _ _ _ _ _ us hl => match us, hl with | [_], _ => rfl
  have F_check_doc := fun_mk (st := s_check_doc) l_check_doc c_check_doc k_check_doc
  have b_check_doc := F_check_doc.binds (ps := ["doc"]) fun _ _ _ _ _ _ us hl => match us, hl with | [_], _ => rfl
  have F_line_of := fun_mk (st := s_line_of) l_line_of c_line_of k_line_of
  have b_line_of := F_line_of.binds (ps := ["row"]) fun _ _ _ _ _ _ us hl => match us, hl with | [_], _ => rfl
  have F_doc_text := fun_mk (st := s_doc_text) l_doc_text c_doc_text k_doc_text
  have b_doc_text := F_doc_text.binds (ps := ["doc"]) fun _ _ _ _ _ _ us hl => match us, hl with | [_], _ => rfl
  have F_LineReader_rest := fun_mk (st := s_LineReader_rest) l_LineReader_rest c_LineReader_rest k_LineReader_rest
  have b_LineReader_rest := F_LineReader_rest.binds (ps := ["self"]) fun _ _ _ _ _ _ us hl => match us, hl with | [_], _ => rfl
  have F_is_number := fun_mk (st := s_is_number) l_is_number c_is_number k_is_number
  have b_is_number := F_is_number.binds (ps := ["word", "high"]) fun _ _ _ _ _ _ us hl => match us, hl with | [_, _], _ => rfl
  have F_LineReader_integer := fun_mk (st := s_LineReader_integer) l_LineReader_integer c_LineReader_integer k_LineReader_integer
  have b_LineReader_integer := F_LineReader_integer.binds (ps := ["self", "high"]) fun _ _ _ _ _ _ us hl => match us, hl with | [_, _], _ => rfl
  have F_LineReader_integers := fun_mk (st := s_LineReader_integers) l_LineReader_integers c_LineReader_integers k_LineReader_integers
  have b_LineReader_integers := F_LineReader_integers.binds (ps := ["self", "highs", "least"]) fun _ _ _ _ _ _ us hl => match us, hl with | [_, _, _], _ => rfl
  have F_LineReader_string := fun_mk (st := s_LineReader_string) l_LineReader_string c_LineReader_string k_LineReader_string
  have b_LineReader_string := F_LineReader_string.binds (ps := ["self", "most"]) fun _ _ _ _ _ _ us hl => match us, hl with | [_, _], _ => rfl
  have F_LineReader_word := fun_mk (st := s_LineReader_word) l_LineReader_word c_LineReader_word k_LineReader_word
  have b_LineReader_word := F_LineReader_word.binds (ps := ["self"]) fun _ _ _ _ _ _ us hl => match us, hl with | [_], _ => rfl
  have F_LineReader_row := fun_mk (st := s_LineReader_row) l_LineReader_row c_LineReader_row k_LineReader_row
  have b_LineReader_row := F_LineReader_row.binds (ps := ["self"]) fun _ _ _ _ _ _ us hl => match us, hl with | [_], _ => rfl
  have F_is_integer := fun_mk (st := s_is_integer) l_is_integer c_is_integer k_is_integer
  have b_is_integer := F_is_integer.binds (ps := ["value"]) fun _ _ _ _ _ _ us hl => match us, hl with | [_], _ => rfl
  have F_is_between := fun_mk (st := s_is_between) l_is_between c_is_between k_is_between
  have b_is_between := F_is_between.binds (ps := ["value", "low", "high"]) fun _ _ _ _ _ _ us hl => match us, hl with | [_, _, _], _ => rfl
  have F_is_signs := fun_mk (st := s_is_signs) l_is_signs c_is_signs k_is_signs
  have b_is_signs := F_is_signs.binds (ps := ["value", "most"]) fun _ _ _ _ _ _ us hl => match us, hl with | [_, _], _ => rfl
  have F_is_row := fun_mk (st := s_is_row) l_is_row c_is_row k_is_row
  have b_is_row := F_is_row.binds (ps := ["value", "number"]) fun _ _ _ _ _ _ us hl => match us, hl with | [_, _], _ => rfl
  have F_Doc___init__ := fun_mk (st := s_Doc___init__) l_Doc___init__ c_Doc___init__ k_Doc___init__
  have b_Doc___init__ := F_Doc___init__.binds (ps := ["self", "rows"]) fun _ _ _ _ _ _ us hl => match us, hl with | [_, _], _ => rfl
  have F_LineReader___init__ := fun_mk (st := s_LineReader___init__) l_LineReader___init__ c_LineReader___init__ k_LineReader___init__
  have b_LineReader___init__ := F_LineReader___init__.binds (ps := ["self", "line", "number"]) fun _ _ _ _ _ _ us hl => match us, hl with | [_, _, _], _ => rfl
  have F_read_doc := fun_mk (st := s_read_doc) l_read_doc c_read_doc k_read_doc
  have b_read_doc := F_read_doc.binds (ps := ["text"]) fun _ _ _ _ _ _ us hl => match us, hl with | [_], _ => rfl
  have F__law_right := fun_mk (st := s__law_right) l__law_right c__law_right k__law_right
  have b__law_right := F__law_right.binds (ps := ["_law_rows_here"]) fun _ _ _ _ _ _ us hl => match us, hl with | [_], _ => rfl
  have F__law_next := fun_mk (st := s__law_next) l__law_next c__law_next k__law_next
  have b__law_next := F__law_next.binds (ps := ["_law_source", "_law_many"]) fun _ _ _ _ _ _ us hl => match us, hl with | [_, _], _ => rfl
  have F__law_one := fun_mk (st := s__law_one) l__law_one c__law_one k__law_one
  have b__law_one := F__law_one.binds (ps := ["_law_source", "_law_some"]) fun _ _ _ _ _ _ us hl => match us, hl with | [_, _], _ => rfl
  have F__law_signs := fun_mk (st := s__law_signs) l__law_signs c__law_signs k__law_signs
  have b__law_signs := F__law_signs.binds (ps := ["_law_source", "_law_most"]) fun _ _ _ _ _ _ us hl => match us, hl with | [_, _], _ => rfl
  have F__law_row := fun_mk (st := s__law_row) l__law_row c__law_row k__law_row
  have b__law_row := F__law_row.binds (ps := ["_law_source", "_law_number"]) fun _ _ _ _ _ _ us hl => match us, hl with | [_, _], _ => rfl
  have F__law_rows := fun_mk (st := s__law_rows) l__law_rows c__law_rows k__law_rows
  have b__law_rows := F__law_rows.binds (ps := ["_law_source", "_law_many"]) fun _ _ _ _ _ _ us hl => match us, hl with | [_, _], _ => rfl
  have F__law_source_of := fun_mk (st := s__law_source_of) l__law_source_of c__law_source_of k__law_source_of
  have b__law_source_of := F__law_source_of.binds (ps := ["_law_cell"]) fun _ _ _ _ _ _ us hl => match us, hl with | [_], _ => rfl
  have F_law := fun_mk (st := s_law) l_law c_law k_law
  refine ⟨PySem.W.fnOf "law" "law" (defArgs s_law) (defBody s_law) (defScope s_law) .none kV_law dc_law pm_law an_law cd_law ct_law, fun s v => .of_eq rfl, fun base _ _ => ?_⟩
  have B__law_cell_at : FnB K mg "_law_cell_at" s__law_cell_at ["_law_script", "_law_k"] f__law_cell_at _ := ⟨PySem.W.mg_of X G a_f__law_cell_at, F__law_cell_at, b__law_cell_at⟩
  have G__law_cell_at := ok__law_cell_at (P := l.prog) (w := w) (base := base) (Z := ⟨a_Doc, a_LineReader, a_MOST_SIGNS, a_SIZES, a_WORDS⟩) F__law_cell_at T
  have B_Doc___eq__ : MtB K "__eq__" s_Doc___eq__ "Doc.__eq__" ["self", "other"] a_Doc f_Doc___eq__ _ := ⟨⟨a_f_Doc___eq__, i_Doc___eq__, k_Doc___eq__⟩, F_Doc___eq__, b_Doc___eq__⟩
  have G_Doc___eq__ := ok_Doc___eq__ (P := l.prog) (w := w) (base := base) (Z := ⟨a_Doc, a_LineReader, a_MOST_SIGNS, a_SIZES, a_WORDS⟩) F_Doc___eq__ T
  have B_copied_row : FnB K mg "copied_row" s_copied_row ["row"] f_copied_row _ := ⟨PySem.W.mg_of X G a_f_copied_row, F_copied_row, b_copied_row⟩
  have G_copied_row := ok_copied_row (P := l.prog) (w := w) (base := base) (Z := ⟨a_Doc, a_LineReader, a_MOST_SIGNS, a_SIZES, a_WORDS⟩) F_copied_row T
  have B_Doc_row_list : MtB K "row_list" s_Doc_row_list "Doc.row_list" ["self"] a_Doc f_Doc_row_list _ := ⟨⟨a_f_Doc_row_list, i_Doc_row_list, k_Doc_row_list⟩, F_Doc_row_list, b_Doc_row_list⟩
  have G_Doc_row_list := ok_Doc_row_list (P := l.prog) (w := w) (base := base) (Z := ⟨a_Doc, a_LineReader, a_MOST_SIGNS, a_SIZES, a_WORDS⟩) F_Doc_row_list T B_copied_row G_copied_row
  have B__law_line : FnB K mg "_law_line" s__law_line ["_law_row_here"] f__law_line _ := ⟨PySem.W.mg_of X G a_f__law_line, F__law_line, b__law_line⟩
  have G__law_line := ok__law_line (P := l.prog) (w := w) (base := base) (Z := ⟨a_Doc, a_LineReader, a_MOST_SIGNS, a_SIZES, a_WORDS⟩) F__law_line T
  have B_check_doc : FnB K mg "check_doc" s_check_doc ["doc"] f_check_doc _ := ⟨PySem.W.mg_of X G a_f_check_doc, F_check_doc, b_check_doc⟩
  have G_check_doc := ok_check_doc (P := l.prog) (w := w) (base := base) (Z := ⟨a_Doc, a_LineReader, a_MOST_SIGNS, a_SIZES, a_WORDS⟩) F_check_doc T
  have B_line_of : FnB K mg "line_of" s_line_of ["row"] f_line_of _ := ⟨PySem.W.mg_of X G a_f_line_of, F_line_of, b_line_of⟩
  have G_line_of := ok_line_of (P := l.prog) (w := w) (base := base) (Z := ⟨a_Doc, a_LineReader, a_MOST_SIGNS, a_SIZES, a_WORDS⟩) F_line_of T
  have B_doc_text : FnB K mg "doc_text" s_doc_text ["doc"] f_doc_text _ := ⟨PySem.W.mg_of X G a_f_doc_text, F_doc_text, b_doc_text⟩
  have G_doc_text := ok_doc_text (P := l.prog) (w := w) (base := base) (Z := ⟨a_Doc, a_LineReader, a_MOST_SIGNS, a_SIZES, a_WORDS⟩) F_doc_text T B_check_doc G_check_doc B_line_of G_line_of
  have B_LineReader_rest : MtB K "rest" s_LineReader_rest "LineReader.rest" ["self"] a_LineReader f_LineReader_rest _ := ⟨⟨a_f_LineReader_rest, i_LineReader_rest, k_LineReader_rest⟩, F_LineReader_rest, b_LineReader_rest⟩
  have G_LineReader_rest := ok_LineReader_rest (P := l.prog) (w := w) (base := base) (Z := ⟨a_Doc, a_LineReader, a_MOST_SIGNS, a_SIZES, a_WORDS⟩) F_LineReader_rest T
  have B_is_number : FnB K mg "is_number" s_is_number ["word", "high"] f_is_number _ := ⟨PySem.W.mg_of X G a_f_is_number, F_is_number, b_is_number⟩
  have G_is_number := ok_is_number (P := l.prog) (w := w) (base := base) (Z := ⟨a_Doc, a_LineReader, a_MOST_SIGNS, a_SIZES, a_WORDS⟩) F_is_number T
  have B_LineReader_integer : MtB K "integer" s_LineReader_integer "LineReader.integer" ["self", "high"] a_LineReader f_LineReader_integer _ := ⟨⟨a_f_LineReader_integer, i_LineReader_integer, k_LineReader_integer⟩, F_LineReader_integer, b_LineReader_integer⟩
  have G_LineReader_integer := ok_LineReader_integer (P := l.prog) (w := w) (base := base) (Z := ⟨a_Doc, a_LineReader, a_MOST_SIGNS, a_SIZES, a_WORDS⟩) F_LineReader_integer T B_LineReader_rest G_LineReader_rest B_is_number G_is_number
  have B_LineReader_integers : MtB K "integers" s_LineReader_integers "LineReader.integers" ["self", "highs", "least"] a_LineReader f_LineReader_integers _ := ⟨⟨a_f_LineReader_integers, i_LineReader_integers, k_LineReader_integers⟩, F_LineReader_integers, b_LineReader_integers⟩
  have G_LineReader_integers := ok_LineReader_integers (P := l.prog) (w := w) (base := base) (Z := ⟨a_Doc, a_LineReader, a_MOST_SIGNS, a_SIZES, a_WORDS⟩) F_LineReader_integers T B_LineReader_integer G_LineReader_integer B_LineReader_rest G_LineReader_rest
  have B_LineReader_string : MtB K "string" s_LineReader_string "LineReader.string" ["self", "most"] a_LineReader f_LineReader_string _ := ⟨⟨a_f_LineReader_string, i_LineReader_string, k_LineReader_string⟩, F_LineReader_string, b_LineReader_string⟩
  have G_LineReader_string := ok_LineReader_string (P := l.prog) (w := w) (base := base) (Z := ⟨a_Doc, a_LineReader, a_MOST_SIGNS, a_SIZES, a_WORDS⟩) F_LineReader_string T B_LineReader_rest G_LineReader_rest
  have B_LineReader_word : MtB K "word" s_LineReader_word "LineReader.word" ["self"] a_LineReader f_LineReader_word _ := ⟨⟨a_f_LineReader_word, i_LineReader_word, k_LineReader_word⟩, F_LineReader_word, b_LineReader_word⟩
  have G_LineReader_word := ok_LineReader_word (P := l.prog) (w := w) (base := base) (Z := ⟨a_Doc, a_LineReader, a_MOST_SIGNS, a_SIZES, a_WORDS⟩) F_LineReader_word T B_LineReader_rest G_LineReader_rest
  have B_LineReader_row : MtB K "row" s_LineReader_row "LineReader.row" ["self"] a_LineReader f_LineReader_row _ := ⟨⟨a_f_LineReader_row, i_LineReader_row, k_LineReader_row⟩, F_LineReader_row, b_LineReader_row⟩
  have G_LineReader_row := ok_LineReader_row (P := l.prog) (w := w) (base := base) (Z := ⟨a_Doc, a_LineReader, a_MOST_SIGNS, a_SIZES, a_WORDS⟩) F_LineReader_row T B_LineReader_integers G_LineReader_integers B_LineReader_rest G_LineReader_rest B_LineReader_string G_LineReader_string B_LineReader_word G_LineReader_word
  have B_is_integer : FnB K mg "is_integer" s_is_integer ["value"] f_is_integer _ := ⟨PySem.W.mg_of X G a_f_is_integer, F_is_integer, b_is_integer⟩
  have G_is_integer := ok_is_integer (P := l.prog) (w := w) (base := base) (Z := ⟨a_Doc, a_LineReader, a_MOST_SIGNS, a_SIZES, a_WORDS⟩) F_is_integer T
  have B_is_between : FnB K mg "is_between" s_is_between ["value", "low", "high"] f_is_between _ := ⟨PySem.W.mg_of X G a_f_is_between, F_is_between, b_is_between⟩
  have G_is_between := ok_is_between (P := l.prog) (w := w) (base := base) (Z := ⟨a_Doc, a_LineReader, a_MOST_SIGNS, a_SIZES, a_WORDS⟩) F_is_between T B_is_integer G_is_integer
  have B_is_signs : FnB K mg "is_signs" s_is_signs ["value", "most"] f_is_signs _ := ⟨PySem.W.mg_of X G a_f_is_signs, F_is_signs, b_is_signs⟩
  have G_is_signs := ok_is_signs (P := l.prog) (w := w) (base := base) (Z := ⟨a_Doc, a_LineReader, a_MOST_SIGNS, a_SIZES, a_WORDS⟩) F_is_signs T
  have B_is_row : FnB K mg "is_row" s_is_row ["value", "number"] f_is_row _ := ⟨PySem.W.mg_of X G a_f_is_row, F_is_row, b_is_row⟩
  have G_is_row := ok_is_row (P := l.prog) (w := w) (base := base) (Z := ⟨a_Doc, a_LineReader, a_MOST_SIGNS, a_SIZES, a_WORDS⟩) F_is_row T B_is_between G_is_between B_is_signs G_is_signs
  have B_Doc : InB K mg "Doc" s_Doc___init__ "Doc.__init__" ["self", "rows"] a_Doc f_Doc___init__ _ := ⟨PySem.W.mg_of X G aC_Doc, ⟨mk_Doc___init__, a_f_Doc___init__, i_Doc___init__, kc_Doc___init__⟩, F_Doc___init__, b_Doc___init__⟩
  have G_Doc___init__ := ok_Doc___init__ (P := l.prog) (w := w) (base := base) (Z := ⟨a_Doc, a_LineReader, a_MOST_SIGNS, a_SIZES, a_WORDS⟩) F_Doc___init__ T B_copied_row G_copied_row B_is_row G_is_row
  have B_LineReader : InB K mg "LineReader" s_LineReader___init__ "LineReader.__init__" ["self", "line", "number"] a_LineReader f_LineReader___init__ _ := ⟨PySem.W.mg_of X G aC_LineReader, ⟨mk_LineReader___init__, a_f_LineReader___init__, i_LineReader___init__, kc_LineReader___init__⟩, F_LineReader___init__, b_LineReader___init__⟩
  have G_LineReader___init__ := ok_LineReader___init__ (P := l.prog) (w := w) (base := base) (Z := ⟨a_Doc, a_LineReader, a_MOST_SIGNS, a_SIZES, a_WORDS⟩) F_LineReader___init__ T
  have B_read_doc : FnB K mg "read_doc" s_read_doc ["text"] f_read_doc _ := ⟨PySem.W.mg_of X G a_f_read_doc, F_read_doc, b_read_doc⟩
  have G_read_doc := ok_read_doc (P := l.prog) (w := w) (base := base) (Z := ⟨a_Doc, a_LineReader, a_MOST_SIGNS, a_SIZES, a_WORDS⟩) F_read_doc T B_LineReader_row G_LineReader_row B_Doc G_Doc___init__ B_LineReader G_LineReader___init__
  have B__law_right : FnB K mg "_law_right" s__law_right ["_law_rows_here"] f__law_right _ := ⟨PySem.W.mg_of X G a_f__law_right, F__law_right, b__law_right⟩
  have G__law_right := ok__law_right (P := l.prog) (w := w) (base := base) (Z := ⟨a_Doc, a_LineReader, a_MOST_SIGNS, a_SIZES, a_WORDS⟩) F__law_right T B_Doc___eq__ G_Doc___eq__ B_Doc_row_list G_Doc_row_list B__law_line G__law_line B_doc_text G_doc_text B_read_doc G_read_doc B_Doc G_Doc___init__
  have B__law_next : FnB K mg "_law_next" s__law_next ["_law_source", "_law_many"] f__law_next _ := ⟨PySem.W.mg_of X G a_f__law_next, F__law_next, b__law_next⟩
  have G__law_next := ok__law_next (P := l.prog) (w := w) (base := base) (Z := ⟨a_Doc, a_LineReader, a_MOST_SIGNS, a_SIZES, a_WORDS⟩) F__law_next T
  have B__law_one : FnB K mg "_law_one" s__law_one ["_law_source", "_law_some"] f__law_one _ := ⟨PySem.W.mg_of X G a_f__law_one, F__law_one, b__law_one⟩
  have G__law_one := ok__law_one (P := l.prog) (w := w) (base := base) (Z := ⟨a_Doc, a_LineReader, a_MOST_SIGNS, a_SIZES, a_WORDS⟩) F__law_one T B__law_next G__law_next
  have B__law_signs : FnB K mg "_law_signs" s__law_signs ["_law_source", "_law_most"] f__law_signs _ := ⟨PySem.W.mg_of X G a_f__law_signs, F__law_signs, b__law_signs⟩
  have G__law_signs := ok__law_signs (P := l.prog) (w := w) (base := base) (Z := ⟨a_Doc, a_LineReader, a_MOST_SIGNS, a_SIZES, a_WORDS⟩) F__law_signs T B__law_next G__law_next B__law_one G__law_one
  have B__law_row : FnB K mg "_law_row" s__law_row ["_law_source", "_law_number"] f__law_row _ := ⟨PySem.W.mg_of X G a_f__law_row, F__law_row, b__law_row⟩
  have G__law_row := ok__law_row (P := l.prog) (w := w) (base := base) (Z := ⟨a_Doc, a_LineReader, a_MOST_SIGNS, a_SIZES, a_WORDS⟩) F__law_row T B__law_next G__law_next B__law_one G__law_one B__law_signs G__law_signs
  have B__law_rows : FnB K mg "_law_rows" s__law_rows ["_law_source", "_law_many"] f__law_rows _ := ⟨PySem.W.mg_of X G a_f__law_rows, F__law_rows, b__law_rows⟩
  have G__law_rows := ok__law_rows (P := l.prog) (w := w) (base := base) (Z := ⟨a_Doc, a_LineReader, a_MOST_SIGNS, a_SIZES, a_WORDS⟩) F__law_rows T B__law_next G__law_next B__law_row G__law_row
  have B__law_source_of : FnB K mg "_law_source_of" s__law_source_of ["_law_cell"] f__law_source_of _ := ⟨PySem.W.mg_of X G a_f__law_source_of, F__law_source_of, b__law_source_of⟩
  have G__law_source_of := ok__law_source_of (P := l.prog) (w := w) (base := base) (Z := ⟨a_Doc, a_LineReader, a_MOST_SIGNS, a_SIZES, a_WORDS⟩) F__law_source_of T
  exact (ok_law F_law T B__law_cell_at G__law_cell_at B__law_right G__law_right B__law_row G__law_row B__law_rows G__law_rows B__law_source_of G__law_source_of B_doc_text G_doc_text B_Doc G_Doc___init__).imp (law_in (lt _))
end Lw
set_option Elab.async false
set_option maxRecDepth 100000
open PySem PySem.W PyProof.Rows in
set_option maxRecDepth 100000 in
set_option maxHeartbeats 0 in
theorem PySem.Challenge.cw_farlayout_k03_texts_of_documents_holds : PySem.Challenge.rw_farlayout_k03_texts_of_documents.Holds := by
  w_on; o_law; k_head; (case hw => w_witness2)
  k_fill
  refine Mi.walkM (l := PySem.Challenge.rw_farlayout_k03_texts_of_documents) (k := 8) (x := "_law_script") rfl rfl ⟨rfl, by decide, by decide⟩ (fun w h Y => PySem.W.kIn_of Y) ?F
  case F =>
    intro w mg fa h KX G hmg
    refine' Lw.all_mk KX G hmg ?aC_Doc ?lC_Doc ?pg_Doc ?hd_Doc ?po_Doc ?sa_Doc ?aC_LineReader ?lC_LineReader ?pg_LineReader ?hd_LineReader ?po_LineReader ?sa_LineReader ?nA_Doc_layouts ?nA_Doc_rows ?nA_LineReader_line ?nA_LineReader_number ?nA_LineReader_place ?kt_Doc_NoneType ?kt_Doc_bool ?kt_Doc_int ?kt_Doc_str ?kt_Doc_tuple ?kt_Doc_list ?cc_Doc ?mr_Doc ?kk_Doc ?ccg ?cct ?aT_MOST_SIGNS ?lT_MOST_SIGNS ?eT_MOST_SIGNS ?zT_MOST_SIGNS ?aT_SIZES ?lT_SIZES ?eT_SIZES ?zT_SIZES ?aT_WORDS ?lT_WORDS ?eT_WORDS ?z_all ?z_bool ?z_enumerate ?z_int ?z_isinstance ?z_len ?z_list ?z_max ?z_range ?z_str ?z_tuple ?v_MOST_NEST ?v_MOST_PARTS ?v_MOST_ROWS ?a_f__law_cell_at ?l__law_cell_at ?c__law_cell_at ?k__law_cell_at ?a_f_Doc___eq__ ?i_Doc___eq__ ?l_Doc___eq__ ?c_Doc___eq__ ?k_Doc___eq__ ?a_f_copied_row ?l_copied_row ?c_copied_row ?k_copied_row ?a_f_Doc_row_list ?i_Doc_row_list ?l_Doc_row_list ?c_Doc_row_list ?k_Doc_row_list ?a_f__law_line ?l__law_line ?c__law_line ?k__law_line ?a_f_check_doc ?l_check_doc ?c_check_doc ?k_check_doc ?a_f_line_of ?l_line_of ?c_line_of ?k_line_of ?a_f_doc_text ?l_doc_text ?c_doc_text ?k_doc_text ?a_f_LineReader_rest ?i_LineReader_rest ?l_LineReader_rest ?c_LineReader_rest ?k_LineReader_rest ?a_f_is_number ?l_is_number ?c_is_number ?k_is_number ?a_f_LineReader_integer ?i_LineReader_integer ?l_LineReader_integer ?c_LineReader_integer ?k_LineReader_integer ?a_f_LineReader_integers ?i_LineReader_integers ?l_LineReader_integers ?c_LineReader_integers ?k_LineReader_integers ?a_f_LineReader_string ?i_LineReader_string ?l_LineReader_string ?c_LineReader_string ?k_LineReader_string ?a_f_LineReader_word ?i_LineReader_word ?l_LineReader_word ?c_LineReader_word ?k_LineReader_word ?a_f_LineReader_row ?i_LineReader_row ?l_LineReader_row ?c_LineReader_row ?k_LineReader_row ?a_f_is_integer ?l_is_integer ?c_is_integer ?k_is_integer ?a_f_is_between ?l_is_between ?c_is_between ?k_is_between ?a_f_is_signs ?l_is_signs ?c_is_signs ?k_is_signs ?a_f_is_row ?l_is_row ?c_is_row ?k_is_row ?a_f_Doc___init__ ?i_Doc___init__ ?mk_Doc___init__ ?kc_Doc___init__ ?l_Doc___init__ ?c_Doc___init__ ?k_Doc___init__ ?a_f_LineReader___init__ ?i_LineReader___init__ ?mk_LineReader___init__ ?kc_LineReader___init__ ?l_LineReader___init__ ?c_LineReader___init__ ?k_LineReader___init__ ?a_f_read_doc ?l_read_doc ?c_read_doc ?k_read_doc ?a_f__law_right ?l__law_right ?c__law_right ?k__law_right ?a_f__law_next ?l__law_next ?c__law_next ?k__law_next ?a_f__law_one ?l__law_one ?c__law_one ?k__law_one ?a_f__law_signs ?l__law_signs ?c__law_signs ?k__law_signs ?a_f__law_row ?l__law_row ?c__law_row ?k__law_row ?a_f__law_rows ?l__law_rows ?c__law_rows ?k__law_rows ?a_f__law_source_of ?l__law_source_of ?c__law_source_of ?k__law_source_of ?a_f_law ?l_law ?c_law ?k_law Lw.law_true
    (case aC_Doc => k_is)
    (case lC_Doc => k_is)
    (case pg_Doc => k_is)
    (case hd_Doc => k_is)
    (case po_Doc => k_is)
    (case sa_Doc => k_is)
    (case aC_LineReader => k_is)
    (case lC_LineReader => k_is)
    (case pg_LineReader => k_is)
    (case hd_LineReader => k_is)
    (case po_LineReader => k_is)
    (case sa_LineReader => k_is)
    (case nA_Doc_layouts => k_is)
    (case nA_Doc_rows => k_is)
    (case nA_LineReader_line => k_is)
    (case nA_LineReader_number => k_is)
    (case nA_LineReader_place => k_is)
    (case kt_Doc_NoneType => kit_is)
    (case kt_Doc_bool => kit_is)
    (case kt_Doc_int => kit_is)
    (case kt_Doc_str => kit_is)
    (case kt_Doc_tuple => kit_is)
    (case kt_Doc_list => kit_is)
    (case cc_Doc => k_is)
    (case mr_Doc => k_is)
    (case kk_Doc => kit_is)
    (case ccg => k_is)
    (case cct => k_is)
    (case aT_MOST_SIGNS => k_is)
    (case lT_MOST_SIGNS => k_is)
    (case eT_MOST_SIGNS => exact ⟨⟨_, rfl⟩, rfl, ⟨_, rfl⟩, ⟨_, rfl⟩, rfl, ⟨_, rfl⟩, trivial⟩)
    (case zT_MOST_SIGNS => first | rfl | decide)
    (case aT_SIZES => k_is)
    (case lT_SIZES => k_is)
    (case eT_SIZES => exact ⟨⟨_, rfl⟩, rfl, ⟨_, rfl⟩, ⟨_, rfl⟩, rfl, ⟨_, rfl⟩, ⟨_, rfl⟩, rfl, ⟨_, rfl⟩, ⟨_, rfl⟩, rfl, ⟨_, rfl⟩, ⟨_, rfl⟩, rfl, ⟨_, rfl⟩, ⟨_, rfl⟩, rfl, ⟨_, rfl⟩, ⟨_, rfl⟩, rfl, ⟨_, rfl⟩, trivial⟩)
    (case zT_SIZES => first | rfl | decide)
    (case aT_WORDS => k_is)
    (case lT_WORDS => k_is)
    (case eT_WORDS => exact ⟨(by show 7 ≤ 1000; decide), .cons ⟨_, rfl⟩ (.cons ⟨_, rfl⟩ (.cons ⟨_, rfl⟩ (.cons ⟨_, rfl⟩ (.cons ⟨_, rfl⟩ (.cons ⟨_, rfl⟩ (.cons ⟨_, rfl⟩ (.nil)))))))⟩)
    (case z_all => k_is)
    (case z_bool => k_is)
    (case z_enumerate => k_is)
    (case z_int => k_is)
    (case z_isinstance => k_is)
    (case z_len => k_is)
    (case z_list => k_is)
    (case z_max => k_is)
    (case z_range => k_is)
    (case z_str => k_is)
    (case z_tuple => k_is)
    (case v_MOST_NEST => k_is)
    (case v_MOST_PARTS => k_is)
    (case v_MOST_ROWS => k_is)
    (case a_f__law_cell_at => k_is)
    (case l__law_cell_at => k_is)
    (case c__law_cell_at => k_is)
    (case k__law_cell_at => k_is)
    (case a_f_Doc___eq__ => k_is)
    (case i_Doc___eq__ => k_is)
    (case l_Doc___eq__ => k_is)
    (case c_Doc___eq__ => k_is)
    (case k_Doc___eq__ => k_is)
    (case a_f_copied_row => k_is)
    (case l_copied_row => k_is)
    (case c_copied_row => k_is)
    (case k_copied_row => k_is)
    (case a_f_Doc_row_list => k_is)
    (case i_Doc_row_list => k_is)
    (case l_Doc_row_list => k_is)
    (case c_Doc_row_list => k_is)
    (case k_Doc_row_list => k_is)
    (case a_f__law_line => k_is)
    (case l__law_line => k_is)
    (case c__law_line => k_is)
    (case k__law_line => k_is)
    (case a_f_check_doc => k_is)
    (case l_check_doc => k_is)
    (case c_check_doc => k_is)
    (case k_check_doc => k_is)
    (case a_f_line_of => k_is)
    (case l_line_of => k_is)
    (case c_line_of => k_is)
    (case k_line_of => k_is)
    (case a_f_doc_text => k_is)
    (case l_doc_text => k_is)
    (case c_doc_text => k_is)
    (case k_doc_text => k_is)
    (case a_f_LineReader_rest => k_is)
    (case i_LineReader_rest => k_is)
    (case l_LineReader_rest => k_is)
    (case c_LineReader_rest => k_is)
    (case k_LineReader_rest => k_is)
    (case a_f_is_number => k_is)
    (case l_is_number => k_is)
    (case c_is_number => k_is)
    (case k_is_number => k_is)
    (case a_f_LineReader_integer => k_is)
    (case i_LineReader_integer => k_is)
    (case l_LineReader_integer => k_is)
    (case c_LineReader_integer => k_is)
    (case k_LineReader_integer => k_is)
    (case a_f_LineReader_integers => k_is)
    (case i_LineReader_integers => k_is)
    (case l_LineReader_integers => k_is)
    (case c_LineReader_integers => k_is)
    (case k_LineReader_integers => k_is)
    (case a_f_LineReader_string => k_is)
    (case i_LineReader_string => k_is)
    (case l_LineReader_string => k_is)
    (case c_LineReader_string => k_is)
    (case k_LineReader_string => k_is)
    (case a_f_LineReader_word => k_is)
    (case i_LineReader_word => k_is)
    (case l_LineReader_word => k_is)
    (case c_LineReader_word => k_is)
    (case k_LineReader_word => k_is)
    (case a_f_LineReader_row => k_is)
    (case i_LineReader_row => k_is)
    (case l_LineReader_row => k_is)
    (case c_LineReader_row => k_is)
    (case k_LineReader_row => k_is)
    (case a_f_is_integer => k_is)
    (case l_is_integer => k_is)
    (case c_is_integer => k_is)
    (case k_is_integer => k_is)
    (case a_f_is_between => k_is)
    (case l_is_between => k_is)
    (case c_is_between => k_is)
    (case k_is_between => k_is)
    (case a_f_is_signs => k_is)
    (case l_is_signs => k_is)
    (case c_is_signs => k_is)
    (case k_is_signs => k_is)
    (case a_f_is_row => k_is)
    (case l_is_row => k_is)
    (case c_is_row => k_is)
    (case k_is_row => k_is)
    (case a_f_Doc___init__ => k_is)
    (case i_Doc___init__ => k_is)
    (case mk_Doc___init__ => k_is)
    (case kc_Doc___init__ => k_is)
    (case l_Doc___init__ => k_is)
    (case c_Doc___init__ => k_is)
    (case k_Doc___init__ => k_is)
    (case a_f_LineReader___init__ => k_is)
    (case i_LineReader___init__ => k_is)
    (case mk_LineReader___init__ => k_is)
    (case kc_LineReader___init__ => k_is)
    (case l_LineReader___init__ => k_is)
    (case c_LineReader___init__ => k_is)
    (case k_LineReader___init__ => k_is)
    (case a_f_read_doc => k_is)
    (case l_read_doc => k_is)
    (case c_read_doc => k_is)
    (case k_read_doc => k_is)
    (case a_f__law_right => k_is)
    (case l__law_right => k_is)
    (case c__law_right => k_is)
    (case k__law_right => k_is)
    (case a_f__law_next => k_is)
    (case l__law_next => k_is)
    (case c__law_next => k_is)
    (case k__law_next => k_is)
    (case a_f__law_one => k_is)
    (case l__law_one => k_is)
    (case c__law_one => k_is)
    (case k__law_one => k_is)
    (case a_f__law_signs => k_is)
    (case l__law_signs => k_is)
    (case c__law_signs => k_is)
    (case k__law_signs => k_is)
    (case a_f__law_row => k_is)
    (case l__law_row => k_is)
    (case c__law_row => k_is)
    (case k__law_row => k_is)
    (case a_f__law_rows => k_is)
    (case l__law_rows => k_is)
    (case c__law_rows => k_is)
    (case k__law_rows => k_is)
    (case a_f__law_source_of => k_is)
    (case l__law_source_of => k_is)
    (case c__law_source_of => k_is)
    (case k__law_source_of => k_is)
    (case a_f_law => k_is)
    (case l_law => k_is)
    (case c_law => k_is)
    (case k_law => k_is)
#print axioms PySem.Challenge.cw_farlayout_k03_texts_of_documents_holds
