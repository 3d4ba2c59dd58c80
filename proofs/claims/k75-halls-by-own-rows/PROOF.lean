import PyProof.Rows.All
import Wide.All
import OpenK.AllK
import Wide.FinOn
import HandS.ForMost
import HandS.ForExc
import HandS.CallSlots
import HandS.TryMany
import HandS.IsInst
import HandS.TupAny
import HandS.Property
import HandS.MakeKw
import HandS.MakeKwOnly
import HandS.More
import HandS.HeadHook3
import HandS.StrMore
import KE.KDictCopyH
import PyProof.InstNe
import PyProof.Rows.InDataRows
import HandS.Sort
import PySem.Challenge.RW_pairsayings_k75_whole_halls_by_own_rows
import HandS.Codes
import PyProof.P3Eq
set_option Elab.async false
set_option linter.all false
set_option maxRecDepth 100000
set_option maxHeartbeats 4000000
/-! Mi: a mirror of Python runs as plain Lean functions over trees. -/
namespace Mi
open PySem L2

/-- data as trees; a thing that changes and is shared is a number of the store -/
inductive D where
  | non | bl (b : Bool) | int (i : Int) | str (x : Str)
  | tup (xs : List D) | lst (xs : List D) | lck (xs : List D) | dic (kvs : List (Key × D)) | dit (kvs : List (List Key × D))
  | obj (c : Nat) (fs : List (Str × D)) | ptr (n : Nat)
inductive Slot where
  | no | val (d : D) | own (d : D)
structure S where
  e : List Slot
  t : List D
structure Xn where
  c : Nat
  pay : Option (List (Str × D))
inductive Res (α : Type) where
  | ok (a : α) (s : S) | exc (x : Xn) (s : S) | stuck
abbrev M (α : Type) := S → Res α
def Res.bind {α β : Type} (r : Res α) (f : α → M β) : Res β := match r with
  | .ok a s => f a s
  | .exc x s => .exc x s
  | .stuck => .stuck
def bnd {α β : Type} (m : M α) (f : α → M β) : M β := fun s => (m s).bind f
def ret {α : Type} (a : α) : M α := fun s => .ok a s
def stk {α : Type} : M α := fun _ => .stuck
/-- a value, or the mutable thing that a slot of the frame holds -/
inductive Loc where
  | val (d : D) | own (i : Nat)

structure Gc where
  K : PySem.W.Frag
  ca : Nat → Addr

def Kt (K : PySem.W.Frag) (a : Addr) (xs : List V) : Prop :=
  ∃ (o : Obj) (its : Array Value) (n : Nat), K.lookup a = some o ∧ o.cls = .type "tuple" ∧ o.data = .seq its n ∧ its.size ≤ sizeLine ∧ Vals xs its.toList

/-- a list of the written part -/
def Kl (K : PySem.W.Frag) (a : Addr) (xs : List V) : Prop :=
  ∃ (o : Obj) (its : Array Value) (n : Nat), K.lookup a = some o ∧ o.cls = .type "list" ∧ o.dict = none ∧ o.data = .seq its n ∧ its.size ≤ sizeLine ∧ Vals xs its.toList

mutual
inductive Rep (G : Gc) (W : Addr → Prop) (ρ : List Addr) (H : Hp) : V → D → Prop
  | non : Rep G W ρ H .non .non
  | bl {b : Bool} : Rep G W ρ H (.bl b) (.bl b)
  | int {i : Int} : Rep G W ρ H (.int i) (.int i)
  | str {x : Str} : Rep G W ρ H (.str x) (.str x)
  | tup {a : Addr} {vs : List V} {ds : List D} : Rd H a (.tup vs) → ¬ W a → Reps G W ρ H vs ds → Rep G W ρ H (.ref a) (.tup ds)
  | tupK {a : Addr} {vs : List V} {ds : List D} : Kt G.K a vs → Reps G W ρ H vs ds → Rep G W ρ H (.ref a) (.tup ds)
  | lst {a : Addr} {vs : List V} {ds : List D} : H a = some (.lst vs) → ¬ W a → Reps G W ρ H vs ds → Rep G W ρ H (.ref a) (.lst ds)
  | lck {a : Addr} {vs : List V} {ds : List D} : Rd H a (.lst vs) → ¬ W a → Reps G W ρ H vs ds → Rep G W ρ H (.ref a) (.lck ds)
  | lckK {a : Addr} {vs : List V} {ds : List D} : Kl G.K a vs → Reps G W ρ H vs ds → Rep G W ρ H (.ref a) (.lck ds)
  | dic {a : Addr} {vs : List (Key × V)} {ds : List (Key × D)} : Rd H a (.dK vs) → ¬ W a → vs.map (·.1) = ds.map (·.1) → Reps G W ρ H (vs.map (·.2)) (ds.map (·.2)) → Rep G W ρ H (.ref a) (.dic ds)
  | dit {a : Addr} {vs : List (List Key × V)} {ds : List (List Key × D)} : H a = some (.dT vs) → ¬ W a → vs.map (·.1) = ds.map (·.1) → Reps G W ρ H (vs.map (·.2)) (ds.map (·.2)) → Rep G W ρ H (.ref a) (.dit ds)
  | obj {a dx : Addr} {c : Nat} {vs : List (Str × V)} {ds : List (Str × D)} : H a = some (.ins (G.ca c) dx vs) → ¬ W a → vs.map (·.1) = ds.map (·.1) → Reps G W ρ H (vs.map (·.2)) (ds.map (·.2)) → Rep G W ρ H (.ref a) (.obj c ds)
  | ptr {a : Addr} {n : Nat} : ρ[n]? = some a → Rep G W ρ H (.ref a) (.ptr n)
inductive Reps (G : Gc) (W : Addr → Prop) (ρ : List Addr) (H : Hp) : List V → List D → Prop
  | nil : Reps G W ρ H [] []
  | cons {v : V} {d : D} {vs : List V} {ds : List D} : Rep G W ρ H v d → Reps G W ρ H vs ds → Reps G W ρ H (v :: vs) (d :: ds)
end

/-- what a step keeps: all that is not in W, and what is in S0 -/
structure Kp (S0 W : Addr → Prop) (H : Hp) (W' : Addr → Prop) (H' : Hp) : Prop where
  keep : ∀ b o, ¬ W b → H b = some o → H' b = some o
  wn : ∀ b o, ¬ W b → H b = some o → ¬ W' b
  s0 : ∀ b o, S0 b → H b = some o → H' b = some o

section
variable {G : Gc} {S0 W W' W2 : Addr → Prop} {ρ ρ' : List Addr} {H H' H2 : Hp}
theorem Kp.refl : Kp S0 W H W H := ⟨fun _ _ _ h => h, fun _ _ h _ => h, fun _ _ _ h => h⟩
theorem Kp.trans (a : Kp S0 W H W' H') (b : Kp S0 W' H' W2 H2) : Kp S0 W H W2 H2 :=
  ⟨fun x o n h => b.keep x o (a.wn x o n h) (a.keep x o n h), fun x o n h => b.wn x o (a.wn x o n h) (a.keep x o n h), fun x o n h => b.s0 x o n (a.s0 x o n h)⟩
theorem rd_keep {a : Addr} {u : HO} (k : ∀ b o, ¬ W b → H b = some o → H' b = some o) (hw : ¬ W a) (h : Rd H a u) : Rd H' a u := by
  rcases h with h | ⟨o, h⟩
  · exact .inl (k a _ hw h)
  · exact .inr ⟨o, k a _ hw h⟩
theorem rd_some {a : Addr} {u : HO} (h : Rd H a u) : ∃ o, H a = some o := by
  rcases h with h | ⟨o, h⟩
  · exact ⟨_, h⟩
  · exact ⟨_, h⟩
theorem pre_get {ρ ρ' : List Addr} (p : ρ <+: ρ') {n : Nat} {a : Addr} (h : ρ[n]? = some a) : ρ'[n]? = some a := by
  obtain ⟨t, rfl⟩ := p
  rw [List.getElem?_append_left (List.getElem?_eq_some_iff.mp h).1]
  exact h
mutual
theorem Rep.mono (k : Kp S0 W H W' H') (p : ρ <+: ρ') : ∀ {v : V} {d : D}, Rep G W ρ H v d → Rep G W' ρ' H' v d
  | _, _, .non => .non
  | _, _, .bl => .bl
  | _, _, .int => .int
  | _, _, .str => .str
  | _, _, .tup h n r => .tup (rd_keep k.keep n h) (let ⟨o, e⟩ := rd_some h; k.wn _ o n e) (Reps.mono k p r)
  | _, _, .tupK h r => .tupK h (Reps.mono k p r)
  | _, _, .lst h n r => .lst (k.keep _ _ n h) (k.wn _ _ n h) (Reps.mono k p r)
  | _, _, .lck h n r => .lck (rd_keep k.keep n h) (let ⟨o, e⟩ := rd_some h; k.wn _ o n e) (Reps.mono k p r)
  | _, _, .lckK h r => .lckK h (Reps.mono k p r)
  | _, _, .dic h n e r => .dic (rd_keep k.keep n h) (let ⟨o, e⟩ := rd_some h; k.wn _ o n e) e (Reps.mono k p r)
  | _, _, .dit h n e r => .dit (k.keep _ _ n h) (k.wn _ _ n h) e (Reps.mono k p r)
  | _, _, .obj h n e r => .obj (k.keep _ _ n h) (k.wn _ _ n h) e (Reps.mono k p r)
  | _, _, .ptr h => .ptr (pre_get p h)
theorem Reps.mono (k : Kp S0 W H W' H') (p : ρ <+: ρ') : ∀ {vs : List V} {ds : List D}, Reps G W ρ H vs ds → Reps G W' ρ' H' vs ds
  | _, _, .nil => .nil
  | _, _, .cons h r => .cons (Rep.mono k p h) (Reps.mono k p r)
end
theorem Reps.length : ∀ {vs : List V} {ds : List D}, Reps G W ρ H vs ds → vs.length = ds.length
  | _, _, .nil => rfl
  | _, _, .cons _ r => congrArg (· + 1) (Reps.length r)
theorem Reps.get : ∀ {vs : List V} {ds : List D}, Reps G W ρ H vs ds → ∀ {i : Nat} {d : D}, ds[i]? = some d → ∃ v, vs[i]? = some v ∧ Rep G W ρ H v d
  | _, _, .nil, i, d, h => by simp at h
  | _, _, .cons (v := v) r _, 0, d, h => by simp at h; subst h; exact ⟨v, rfl, r⟩
  | _, _, .cons _ t, i + 1, d, h => by
    obtain ⟨v, e, r⟩ := Reps.get t (i := i) (d := d) (by simpa using h)
    exact ⟨v, by simpa using e, r⟩
theorem Reps.getV : ∀ {vs : List V} {ds : List D}, Reps G W ρ H vs ds → ∀ {i : Nat} {v : V}, vs[i]? = some v → ∃ d, ds[i]? = some d ∧ Rep G W ρ H v d
  | _, _, .nil, i, d, h => by simp at h
  | _, _, .cons (d := d) r _, 0, v, h => by simp at h; subst h; exact ⟨d, rfl, r⟩
  | _, _, .cons _ t, i + 1, v, h => by
    obtain ⟨d, e, r⟩ := Reps.getV t (i := i) (v := v) (by simpa using h)
    exact ⟨d, by simpa using e, r⟩
theorem Reps.append : ∀ {vs us : List V} {ds es : List D}, Reps G W ρ H vs ds → Reps G W ρ H us es → Reps G W ρ H (vs ++ us) (ds ++ es)
  | _, _, _, _, .nil, q => q
  | _, _, _, _, .cons r t, q => .cons r (Reps.append t q)
theorem Reps.take : ∀ (n : Nat) {vs : List V} {ds : List D}, Reps G W ρ H vs ds → Reps G W ρ H (vs.take n) (ds.take n)
  | 0, _, _, _ => .nil
  | _ + 1, _, _, .nil => .nil
  | n + 1, _, _, .cons r t => .cons r (Reps.take n t)
theorem Reps.drop : ∀ (n : Nat) {vs : List V} {ds : List D}, Reps G W ρ H vs ds → Reps G W ρ H (vs.drop n) (ds.drop n)
  | 0, _, _, r => r
  | _ + 1, _, _, .nil => .nil
  | n + 1, _, _, .cons _ t => Reps.drop n t
theorem Reps.set {v : V} {d : D} (h : Rep G W ρ H v d) : ∀ (i : Nat) {vs : List V} {ds : List D}, Reps G W ρ H vs ds → Reps G W ρ H (vs.set i v) (ds.set i d)
  | _, _, _, .nil => .nil
  | 0, _, _, .cons _ t => .cons h t
  | i + 1, _, _, .cons q t => .cons q (Reps.set h i t)
theorem Reps.erase : ∀ (i : Nat) {vs : List V} {ds : List D}, Reps G W ρ H vs ds → Reps G W ρ H (vs.eraseIdx i) (ds.eraseIdx i)
  | _, _, _, .nil => .nil
  | 0, _, _, .cons _ t => t
  | i + 1, _, _, .cons q t => .cons q (Reps.erase i t)
theorem Reps.rev : ∀ {vs : List V} {ds : List D}, Reps G W ρ H vs ds → Reps G W ρ H vs.reverse ds.reverse
  | _, _, .nil => .nil
  | _, _, .cons r t => by simpa using (Reps.rev t).append (.cons r .nil)
theorem Reps.replicate {v : V} {d : D} (h : Rep G W ρ H v d) : ∀ n, Reps G W ρ H (List.replicate n v) (List.replicate n d)
  | 0 => .nil
  | n + 1 => .cons h (Reps.replicate h n)
end

/-- a thing that changes -/
inductive ORep (G : Gc) (W : Addr → Prop) (ρ : List Addr) (H : Hp) (a : Addr) : D → Prop
  | lst {vs : List V} {ds : List D} : H a = some (.lst vs) → Reps G W ρ H vs ds → ORep G W ρ H a (.lst ds)
  | dic {vs : List (Key × V)} {ds : List (Key × D)} : H a = some (.dK vs) → vs.map (·.1) = ds.map (·.1) → Reps G W ρ H (vs.map (·.2)) (ds.map (·.2)) → ORep G W ρ H a (.dic ds)
  | dit {vs : List (List Key × V)} {ds : List (List Key × D)} : H a = some (.dT vs) → vs.map (·.1) = ds.map (·.1) → Reps G W ρ H (vs.map (·.2)) (ds.map (·.2)) → ORep G W ρ H a (.dit ds)
  | obj {dx : Addr} {c : Nat} {vs : List (Str × V)} {ds : List (Str × D)} : H a = some (.ins (G.ca c) dx vs) → vs.map (·.1) = ds.map (·.1) → Reps G W ρ H (vs.map (·.2)) (ds.map (·.2)) → ORep G W ρ H a (.obj c ds)

section
variable {G : Gc} {S0 W W' W2 : Addr → Prop} {ρ ρ' : List Addr} {H H' H2 : Hp} {a : Addr} {d : D}
theorem ORep.some (h : ORep G W ρ H a d) : ∃ o, H a = some o := by
  cases h with
  | lst h _ => exact ⟨_, h⟩
  | dic h _ _ => exact ⟨_, h⟩
  | dit h _ _ => exact ⟨_, h⟩
  | obj h _ _ => exact ⟨_, h⟩
theorem ORep.mono (k : Kp S0 W H W' H') (p : ρ <+: ρ') (e : H' a = H a) (h : ORep G W ρ H a d) : ORep G W' ρ' H' a d := by
  cases h with
  | lst h r => exact .lst (e.trans h) (r.mono k p)
  | dic h q r => exact .dic (e.trans h) q (r.mono k p)
  | dit h q r => exact .dit (e.trans h) q (r.mono k p)
  | obj h q r => exact .obj (e.trans h) q (r.mono k p)
theorem ORep.rep (h : ORep G W ρ H a d) (n : ¬ W a) : Rep G W ρ H (.ref a) d := by
  cases h with
  | lst h r => exact .lst h n r
  | dic h q r => exact .dic (.inl h) n q r
  | dit h q r => exact .dit h n q r
  | obj h q r => exact .obj h n q r
end

/-- what only its holder may change: the callers' things, the store's, the frame's own -/
def Wa (S0 : Addr → Prop) (ρ : List Addr) (e : List Slot) (σ : L2.St) (a : Addr) : Prop :=
  S0 a ∨ a ∈ ρ ∨ ∃ (i : Nat) (d : D), e[i]? = some (.own d) ∧ σ[i]? = some (some (.ref a))

structure Sat (G : Gc) (S0 : Addr → Prop) (ρ : List Addr) (s : S) (σ : L2.St) (H : Hp) : Prop where
  len : s.e.length = σ.length
  val : ∀ (i : Nat) (d : D), s.e[i]? = some (.val d) → ∃ v, σ[i]? = some (some v) ∧ Rep G (Wa S0 ρ s.e σ) ρ H v d
  own : ∀ (i : Nat) (d : D), s.e[i]? = some (.own d) → ∃ a, σ[i]? = some (some (.ref a)) ∧ ORep G (Wa S0 ρ s.e σ) ρ H a d ∧ a ∉ ρ ∧ ¬ S0 a
  inj : ∀ (i j : Nat) (a : Addr) (d d' : D), s.e[i]? = some (.own d) → s.e[j]? = some (.own d') → σ[i]? = some (some (.ref a)) → σ[j]? = some (some (.ref a)) → i = j
  -- ', s.e[i]? = some (.own d) → s.e[j]? = some (.own d') → σ[i]? = some (some (.ref a)) → σ[j]? = some (some (.ref a)) → i = j
  rlen : ρ.length = s.t.length
  sto : ∀ (n : Nat) (a : Addr) (d : D), ρ[n]? = some a → s.t[n]? = some d → ORep G (Wa S0 ρ s.e σ) ρ H a d
  nd : ρ.Nodup
  rs : ∀ a, a ∈ ρ → ¬ S0 a
  s0 : ∀ a, S0 a → ∃ o, H a = some o

section
variable {G : Gc} {S0 W W' W2 : Addr → Prop} {ρ ρ' : List Addr} {s s' : S} {σ σ' : L2.St} {H H' H2 : Hp} {a : Addr} {d : D} {v : V}
theorem Sat.there (h : Sat G S0 ρ s σ H) (w : Wa S0 ρ s.e σ a) : ∃ o, H a = some o := by
  rcases w with w | w | ⟨i, d, e1, e2⟩
  · exact h.s0 a w
  · obtain ⟨n, hn⟩ := List.mem_iff_getElem?.mp w
    have hl : n < s.t.length := by rw [← h.rlen]; exact (List.getElem?_eq_some_iff.mp hn).1
    exact (h.sto n a _ hn (List.getElem?_eq_getElem hl)).some
  · obtain ⟨b, e3, r, _⟩ := h.own i d e1
    rw [e2] at e3; cases e3
    exact r.some
theorem Sat.free (h : Sat G S0 ρ s σ H) (n : H a = none) : ¬ Wa S0 ρ s.e σ a := fun w => by
  obtain ⟨o, e⟩ := h.there w
  rw [n] at e; cases e
/-- nothing that W knows has changed, all else stands -/
theorem Sat.grow (h : Sat G S0 ρ s σ H) (k : ∀ b o, H b = some o → H' b = some o) : Sat G S0 ρ s σ H' ∧ Kp S0 (Wa S0 ρ s.e σ) H (Wa S0 ρ s.e σ) H' := by
  have kp : Kp S0 (Wa S0 ρ s.e σ) H (Wa S0 ρ s.e σ) H' := ⟨fun b o _ e => k b o e, fun _ _ n _ => n, fun b o _ e => k b o e⟩
  refine ⟨⟨h.len, fun i d e => ?_, fun i d e => ?_, h.inj, h.rlen, fun n a d e1 e2 => ?_, h.nd, h.rs, fun a w => ?_⟩, kp⟩
  · obtain ⟨v, e1, r⟩ := h.val i d e
    exact ⟨v, e1, r.mono kp (List.prefix_refl _)⟩
  · obtain ⟨a, e1, r, n⟩ := h.own i d e
    obtain ⟨o, q⟩ := r.some
    exact ⟨a, e1, r.mono kp (List.prefix_refl _) ((k a o q).trans q.symm), n⟩
  · have r := h.sto n a d e1 e2
    obtain ⟨o, q⟩ := r.some
    exact r.mono kp (List.prefix_refl _) ((k a o q).trans q.symm)
  · obtain ⟨o, q⟩ := h.s0 a w
    exact ⟨o, k a o q⟩
end

/-- results' relations -/
abbrev RelT (β α : Type) := (Addr → Prop) → List Addr → Hp → L2.St → β → α → Prop
def LRep (G : Gc) : RelT V Loc := fun W ρ H σ v l => match l with
  | .val d => Rep G W ρ H v d
  | .own i => σ[i]? = some (some v)
def DRep (G : Gc) : RelT V D := fun W ρ H _ v d => Rep G W ρ H v d
def DReps (G : Gc) : RelT (List V) (List D) := fun W ρ H _ v d => Reps G W ρ H v d
def BRel : RelT Bool Bool := fun _ _ _ _ a b => a = b
def Stab {β α : Type} (R : RelT β α) : Prop := ∀ {S0 W W' : Addr → Prop} {ρ ρ' : List Addr} {H H' : Hp} {σ : L2.St} {b : β} {a : α}, R W ρ H σ b a → Kp S0 W H W' H' → ρ <+: ρ' → R W' ρ' H' σ b a
theorem stab_L {G : Gc} : Stab (LRep G) := fun {_ _ _ _ _ _ _ _ _ a} r k p => by
  cases a with
  | val d => exact Rep.mono k p r
  | own i => exact r
theorem stab_D {G : Gc} : Stab (DRep G) := fun r k p => Rep.mono k p r
theorem stab_Ds {G : Gc} : Stab (DReps G) := fun r k p => Reps.mono k p r
theorem stab_B : Stab BRel := fun r _ _ => r

/-- an exception: its class, its own dict -/
def XRep (G : Gc) (W : Addr → Prop) (ρ : List Addr) (H : Hp) (c : Value) (dx : Option Addr) (x : Xn) : Prop :=
  c = .ref (G.ca x.c) ∧ ∀ fs, x.pay = some fs → ∃ a vs, dx = some a ∧ H a = some (.xd vs) ∧ ¬ W a ∧ vs.map (·.1) = fs.map (·.1) ∧ Reps G W ρ H (vs.map (·.2)) (fs.map (·.2))

structure Nx (S0 : Addr → Prop) (ρ : List Addr) (e : List Slot) (σ : L2.St) (H : Hp) (ρ' : List Addr) (e' : List Slot) (σ' : L2.St) (H' : Hp) : Prop where
  k : Kp S0 (Wa S0 ρ e σ) H (Wa S0 ρ' e' σ') H'
  p : ρ <+: ρ'
theorem Nx.refl {S0 : Addr → Prop} {ρ : List Addr} {e : List Slot} {σ : L2.St} {H : Hp} : Nx S0 ρ e σ H ρ e σ H := ⟨.refl, List.prefix_refl _⟩
theorem Nx.trans {S0 : Addr → Prop} {ρ ρ1 ρ2 : List Addr} {e e1 e2 : List Slot} {σ σ1 σ2 : L2.St} {H H1 H2 : Hp} (a : Nx S0 ρ e σ H ρ1 e1 σ1 H1) (b : Nx S0 ρ1 e1 σ1 H1 ρ2 e2 σ2 H2) : Nx S0 ρ e σ H ρ2 e2 σ2 H2 :=
  ⟨a.k.trans b.k, a.p.trans b.p⟩

def Post {β α : Type} (G : Gc) (X : WX) (R : RelT β α) (S0 : Addr → Prop) (ρ : List Addr) (s : S) (σ : L2.St) (H : Hp) (r : Res α) (Q : β → Hp → Prop) : Prop := match r with
  | .ok a s' => ∀ b H' ρ', Sat G S0 ρ' s' σ H' → Nx S0 ρ s.e σ H ρ' s'.e σ H' → R (Wa S0 ρ' s'.e σ) ρ' H' σ b a → Q b H'
  | .exc x s' => ∀ c dx H' ρ', Sat G S0 ρ' s' σ H' → Nx S0 ρ s.e σ H ρ' s'.e σ H' → XRep G (Wa S0 ρ' s'.e σ) ρ' H' c dx x → X c dx σ H'
  | .stuck => False
/-- the reading t computes m -/
def Ev {β α : Type} (G : Gc) (X : WX) (R : RelT β α) (t : L2.St → Hp → (β → Hp → Prop) → Prop) (m : M α) : Prop :=
  ∀ S0 ρ s σ H Q, Sat G S0 ρ s σ H → Post G X R S0 ρ s σ H (m s) Q → t σ H Q

section
variable {G : Gc} {X : WX} {S0 : Addr → Prop} {ρ ρ1 : List Addr} {s s1 : S} {σ : L2.St} {H H1 : Hp}
theorem Post.from {β α : Type} {R : RelT β α} {r : Res α} {Q : β → Hp → Prop} (h : Post G X R S0 ρ s σ H r Q) (n : Nx S0 ρ s.e σ H ρ1 s1.e σ H1) : Post G X R S0 ρ1 s1 σ H1 r Q := by
  cases r with
  | ok a s' => exact fun b H' ρ' t n' q => h b H' ρ' t (n.trans n') q
  | exc x s' => exact fun c dx H' ρ' t n' q => h c dx H' ρ' t (n.trans n') q
  | stuck => exact h
theorem post_bind {β α β2 α2 : Type} {R1 : RelT β α} {R2 : RelT β2 α2} {m : Res α} {f : α → M α2} {Q1 : β → Hp → Prop} {Q2 : β2 → Hp → Prop} (hp : Post G X R2 S0 ρ s σ H (m.bind f) Q2)
    (k : ∀ a s1, m = .ok a s1 → ∀ b H1 ρ1, Sat G S0 ρ1 s1 σ H1 → Nx S0 ρ s.e σ H ρ1 s1.e σ H1 → R1 (Wa S0 ρ1 s1.e σ) ρ1 H1 σ b a → Post G X R2 S0 ρ1 s1 σ H1 (f a s1) Q2 → Q1 b H1) : Post G X R1 S0 ρ s σ H m Q1 := by
  cases m with
  | ok a s1 => exact fun b H1 ρ1 t n q => k a s1 rfl b H1 ρ1 t n q (Post.from hp n)
  | exc x s1 => exact hp
  | stuck => exact hp
theorem Post.ret {β α : Type} {R : RelT β α} {a : α} {b : β} {Q : β → Hp → Prop} (h : Post G X R S0 ρ s σ H (.ok a s) Q) (t : Sat G S0 ρ s σ H) (r : R (Wa S0 ρ s.e σ) ρ H σ b a) : Q b H := h b H ρ t .refl r
end

/-! ### places and values -/
/-- what a place holds now -/
def cont : Loc → M D
  | .val (.ptr n), s => match s.t[n]? with | some d => .ok d s | none => .stuck
  | .val d, s => .ok d s
  | .own i, s => match s.e[i]? with | some (.own d) => .ok d s | _ => .stuck
/-- a place given away: what a slot held alone is frozen -/
def toVal : Loc → M D
  | .val d, s => .ok d s
  | .own i, s => match s.e[i]? with | some (.own d) => .ok d ⟨s.e.set i (.val d), s.t⟩ | some (.val d) => .ok d s | _ => .stuck
section
variable {G : Gc} {X : WX} {S0 : Addr → Prop} {ρ ρ1 : List Addr} {s s1 : S} {σ : L2.St} {H H1 : Hp} {i : Nat} {d : D}
theorem getset {α : Type} {l : List α} {i j : Nat} {x y : α} (h : (l.set i x)[j]? = some y) : (j = i ∧ x = y) ∨ (j ≠ i ∧ l[j]? = some y) := by
  by_cases e : j = i
  · subst e
    have hl : j < l.length := by have := (List.getElem?_eq_some_iff.mp h).1; simpa using this
    rw [List.getElem?_set_self hl] at h
    exact .inl ⟨rfl, Option.some.inj h⟩
  · rw [List.getElem?_set_ne (Ne.symm e)] at h
    exact .inr ⟨e, h⟩
/-- a slot's own thing frozen -/
theorem Sat.freeze (t : Sat G S0 ρ s σ H) (h : s.e[i]? = some (.own d)) : Sat G S0 ρ ⟨s.e.set i (.val d), s.t⟩ σ H ∧ Nx S0 ρ s.e σ H ρ (s.e.set i (.val d)) σ H := by
  have sub : ∀ a, Wa S0 ρ (s.e.set i (.val d)) σ a → Wa S0 ρ s.e σ a := fun a w => by
    rcases w with w | w | ⟨j, d', e1, e2⟩
    · exact .inl w
    · exact .inr (.inl w)
    · rcases getset e1 with ⟨rfl, z⟩ | ⟨_, e1⟩
      · cases z
      · exact .inr (.inr ⟨j, d', e1, e2⟩)
  have kp : Kp S0 (Wa S0 ρ s.e σ) H (Wa S0 ρ (s.e.set i (.val d)) σ) H := ⟨fun _ _ _ e => e, fun b _ n _ w => n (sub b w), fun _ _ _ e => e⟩
  refine ⟨⟨by simpa using t.len, fun j d' e => ?_, fun j d' e => ?_, fun j k a d1 d2 e1 e2 e3 e4 => ?_, t.rlen, fun n a d' e1 e2 => ?_, t.nd, t.rs, t.s0⟩, kp, List.prefix_refl _⟩
  · rcases getset e with ⟨rfl, z⟩ | ⟨_, e⟩
    · cases z
      obtain ⟨a, e1, r, n1, n2⟩ := t.own j d h
      refine ⟨_, e1, (r.mono kp (List.prefix_refl _) rfl).rep fun w => ?_⟩
      rcases w with w | w | ⟨k, d2, e3, e4⟩
      · exact n2 w
      · exact n1 w
      · rcases getset e3 with ⟨_, z⟩ | ⟨ne, e3⟩
        · cases z
        · exact ne (t.inj k j a _ _ e3 h e4 e1)
    · obtain ⟨v, e1, r⟩ := t.val j d' e
      exact ⟨v, e1, r.mono kp (List.prefix_refl _)⟩
  · rcases getset e with ⟨rfl, z⟩ | ⟨_, e⟩
    · cases z
    · obtain ⟨a, e1, r, n⟩ := t.own j d' e
      exact ⟨a, e1, r.mono kp (List.prefix_refl _) rfl, n⟩
  · rcases getset e1 with ⟨rfl, z⟩ | ⟨_, e1⟩
    · cases z
    · rcases getset e2 with ⟨rfl, z⟩ | ⟨_, e2⟩
      · cases z
      · exact t.inj j k a d1 d2 e1 e2 e3 e4
  · exact (t.sto n a d' e1 e2).mono kp (List.prefix_refl _) rfl
/-- giving a place away -/
theorem post_toVal {β α : Type} {R : RelT β α} {l : Loc} {f : D → M α} {v : V} {Q2 : β → Hp → Prop} {P : Prop} (t : Sat G S0 ρ s σ H) (r : LRep G (Wa S0 ρ s.e σ) ρ H σ v l) (hp : Post G X R S0 ρ s σ H ((toVal l s).bind f) Q2)
    (k : ∀ d s1, Sat G S0 ρ s1 σ H → Nx S0 ρ s.e σ H ρ s1.e σ H → Rep G (Wa S0 ρ s1.e σ) ρ H v d → Post G X R S0 ρ s1 σ H (f d s1) Q2 → P) : P := by
  cases l with
  | val d => exact k d s t .refl r hp
  | own i =>
    have r' : σ[i]? = some (some v) := r
    unfold toVal at hp
    cases e : s.e[i]? with
    | none => simp only [e] at hp; exact hp.elim
    | some sl =>
      cases sl with
      | no => simp only [e] at hp; exact hp.elim
      | val d =>
        simp only [e] at hp
        obtain ⟨v', e1, q⟩ := t.val i d e
        rw [r'] at e1; cases e1
        exact k d s t .refl q hp
      | own d =>
        simp only [e] at hp
        obtain ⟨t1, n1⟩ := t.freeze e
        obtain ⟨v', e1, q⟩ := t1.val i d (by
          have hl : i < s.e.length := (List.getElem?_eq_some_iff.mp e).1
          exact List.getElem?_set_self hl)
        rw [r'] at e1; cases e1
        exact k d _ t1 n1 q (hp.from n1)
/-- what stands at a place: the value itself, or a thing in the store or of a slot -/
theorem post_cont {β α : Type} {R : RelT β α} {l : Loc} {f : D → M α} {v : V} {Q2 : β → Hp → Prop} {P : Prop} (t : Sat G S0 ρ s σ H) (r : LRep G (Wa S0 ρ s.e σ) ρ H σ v l) (hp : Post G X R S0 ρ s σ H ((cont l s).bind f) Q2)
    (k : ∀ d, (Rep G (Wa S0 ρ s.e σ) ρ H v d ∨ ∃ a, v = .ref a ∧ ORep G (Wa S0 ρ s.e σ) ρ H a d) → Post G X R S0 ρ s σ H (f d s) Q2 → P) : P := by
  cases l with
  | val d =>
    cases d with
    | ptr n =>
      unfold cont at hp
      cases e : s.t[n]? with
      | none => simp only [e] at hp; exact hp.elim
      | some d =>
        simp only [e] at hp
        have r' : Rep G (Wa S0 ρ s.e σ) ρ H v (.ptr n) := r
        cases r' with
        | ptr h => exact k d (.inr ⟨_, rfl, t.sto n _ d h e⟩) hp
    | _ => exact k _ (.inl r) hp
  | own i =>
    have r' : σ[i]? = some (some v) := r
    unfold cont at hp
    cases e : s.e[i]? with
    | none => simp only [e] at hp; exact hp.elim
    | some sl =>
      cases sl with
      | no => simp only [e] at hp; exact hp.elim
      | val d => simp only [e] at hp; exact hp.elim
      | own d =>
        simp only [e] at hp
        obtain ⟨a, e1, q, _⟩ := t.own i d e
        rw [r'] at e1; cases e1
        exact k d (.inr ⟨a, rfl, q⟩) hp
end
end Mi

namespace Mi
open PySem L2

abbrev lim : Nat := 1000000
theorem lim_line {n : Nat} (h : n ≤ lim) : n ≤ sizeLine := by rw [sizeLine_eq]; show n ≤ 16777216; have : n ≤ 1000000 := h; omega
theorem lim_lt {n : Nat} (h : n < lim) : n < sizeLine := by rw [sizeLine_eq]; show n < 16777216; have : n < 1000000 := h; omega

/-- judgements: an expression, a test, arguments, with their readings and what they compute -/
structure JE (X : Cx) (ca : Nat → Addr) (W : WX) (e : Expr) (te : TE) (m : M Loc) : Prop where
  pe : PE X e te
  ev : Ev ⟨X.K, ca⟩ W (LRep ⟨X.K, ca⟩) te m
structure JT (X : Cx) (ca : Nat → Addr) (W : WX) (e : Expr) (tt : TT) (m : M Bool) : Prop where
  pt : PT X e tt
  ev : Ev ⟨X.K, ca⟩ W BRel tt m
structure JW (X : Cx) (ca : Nat → Addr) (W : WX) (e : Expr) (tt : TT) (m : M Bool) : Prop where
  pw : PW X e tt
  ev : Ev ⟨X.K, ca⟩ W BRel tt m
def LReps (G : Gc) : RelT (List V) (List Loc) := fun W ρ H σ vs ls => Paired (fun v l => LRep G W ρ H σ v l) vs ls
structure JA (X : Cx) (ca : Nat → Addr) (W : WX) (es : List Expr) (ta : TA) (m : M (List Loc)) : Prop where
  pa : PA X es ta
  ev : Ev ⟨X.K, ca⟩ W (LReps ⟨X.K, ca⟩) ta m
  len : ∀ s ls s', m s = .ok ls s' → ls.length = es.length

/-- what an operand is: data, or the present state of a mutable thing -/
def BR (G : Gc) (W : Addr → Prop) (ρ : List Addr) (H : Hp) (v : V) (d : D) : Prop := Rep G W ρ H v d ∨ ∃ a, v = .ref a ∧ ORep G W ρ H a d
section
variable {G : Gc} {W : Addr → Prop} {ρ : List Addr} {H : Hp} {v : V}
theorem br_non (h : BR G W ρ H v .non) : v = .non := by
  rcases h with h | ⟨a, _, h⟩ <;> cases h; rfl
theorem br_bl {b : Bool} (h : BR G W ρ H v (.bl b)) : v = .bl b := by
  rcases h with h | ⟨a, _, h⟩ <;> cases h; rfl
theorem br_int {b : Int} (h : BR G W ρ H v (.int b)) : v = .int b := by
  rcases h with h | ⟨a, _, h⟩ <;> cases h; rfl
theorem br_str {b : Str} (h : BR G W ρ H v (.str b)) : v = .str b := by
  rcases h with h | ⟨a, _, h⟩ <;> cases h; rfl
theorem br_lst {ds : List D} (h : BR G W ρ H v (.lst ds)) : ∃ a vs, v = .ref a ∧ H a = some (.lst vs) ∧ Reps G W ρ H vs ds := by
  rcases h with h | ⟨a, rfl, h⟩
  · cases h with | lst h _ r => exact ⟨_, _, rfl, h, r⟩
  · cases h with | lst h r => exact ⟨_, _, rfl, h, r⟩
theorem br_lck {ds : List D} (h : BR G W ρ H v (.lck ds)) : ∃ a vs, v = .ref a ∧ SqL G.K H a vs ∧ Reps G W ρ H vs ds := by
  rcases h with h | ⟨a, rfl, h⟩
  · cases h with
    | lck h _ r => exact ⟨_, _, rfl, .inl h, r⟩
    | lckK h r => exact ⟨_, _, rfl, .inr h, r⟩
  · cases h
theorem br_tup {ds : List D} (h : BR G W ρ H v (.tup ds)) : ∃ a vs, v = .ref a ∧ SqT G.K H a vs ∧ Reps G W ρ H vs ds ∧ Rep G W ρ H v (.tup ds) := by
  rcases h with h | ⟨a, rfl, h⟩
  · cases h with
    | tup h n r => exact ⟨_, _, rfl, .inl h, r, .tup h n r⟩
    | tupK h r => exact ⟨_, _, rfl, .inr h, r, .tupK h r⟩
  · cases h
theorem br_dic {ds : List (Key × D)} (h : BR G W ρ H v (.dic ds)) : ∃ a vs, v = .ref a ∧ Rd H a (.dK vs) ∧ vs.map (·.1) = ds.map (·.1) ∧ Reps G W ρ H (vs.map (·.2)) (ds.map (·.2)) := by
  rcases h with h | ⟨a, rfl, h⟩
  · cases h with | dic h _ e r => exact ⟨_, _, rfl, h, e, r⟩
  · cases h with | dic h e r => exact ⟨_, _, rfl, .inl h, e, r⟩
theorem br_dit {ds : List (List Key × D)} (h : BR G W ρ H v (.dit ds)) : ∃ a vs, v = .ref a ∧ H a = some (.dT vs) ∧ vs.map (·.1) = ds.map (·.1) ∧ Reps G W ρ H (vs.map (·.2)) (ds.map (·.2)) := by
  rcases h with h | ⟨a, rfl, h⟩
  · cases h with | dit h _ e r => exact ⟨_, _, rfl, h, e, r⟩
  · cases h with | dit h e r => exact ⟨_, _, rfl, h, e, r⟩
theorem br_obj {c : Nat} {ds : List (Str × D)} (h : BR G W ρ H v (.obj c ds)) : ∃ a dx vs, v = .ref a ∧ H a = some (.ins (G.ca c) dx vs) ∧ vs.map (·.1) = ds.map (·.1) ∧ Reps G W ρ H (vs.map (·.2)) (ds.map (·.2)) := by
  rcases h with h | ⟨a, rfl, h⟩
  · cases h with | obj h _ e r => exact ⟨_, _, _, rfl, h, e, r⟩
  · cases h with | obj h e r => exact ⟨_, _, _, rfl, h, e, r⟩
end

/-- what the rules ask of the addresses W: all are taken -/
def Tk (W : Addr → Prop) (H : Hp) : Prop := ∀ a, W a → ∃ o, H a = some o
def Ext (H H' : Hp) : Prop := ∀ b o, H b = some o → H' b = some o
theorem Ext.refl {H : Hp} : Ext H H := fun _ _ h => h
theorem Ext.new {H : Hp} {p : Addr} {o : HO} (h : H p = none) : Ext H (upd H p o) := fun b u e => by rw [upd_ne (ne_of_none e h)]; exact e
theorem Tk.no {W : Addr → Prop} {H : Hp} {p : Addr} (t : Tk W H) (h : H p = none) : ¬ W p := fun w => by
  obtain ⟨o, e⟩ := t p w
  rw [h] at e; cases e
theorem Ext.kp {S0 W : Addr → Prop} {H H' : Hp} (e : Ext H H') : Kp S0 W H W H' := ⟨fun b o _ h => e b o h, fun _ _ n _ => n, fun b o _ h => e b o h⟩
theorem Rep.ext {G : Gc} {W : Addr → Prop} {ρ : List Addr} {H H' : Hp} {v : V} {d : D} (h : Rep G W ρ H v d) (e : Ext H H') : Rep G W ρ H' v d := Rep.mono (S0 := fun _ => False) e.kp (List.prefix_refl _) h
theorem Reps.ext {G : Gc} {W : Addr → Prop} {ρ : List Addr} {H H' : Hp} {v : List V} {d : List D} (h : Reps G W ρ H v d) (e : Ext H H') : Reps G W ρ H' v d := Reps.mono (S0 := fun _ => False) e.kp (List.prefix_refl _) h
theorem Sat.tk {G : Gc} {S0 : Addr → Prop} {ρ : List Addr} {s : S} {σ : L2.St} {H : Hp} (t : Sat G S0 ρ s σ H) : Tk (Wa S0 ρ s.e σ) H := fun _ w => t.there w

/-- operations on values whose result is data -/
def Sp2 (G : Gc) (r : R2) (f : D → D → Option D) : Prop := ∀ (W : Addr → Prop) (ρ : List Addr) (H : Hp) (x y : V) (dx dy d : D) (Q : VK), Tk W H → BR G W ρ H x dx → BR G W ρ H y dy → f dx dy = some d →
  (∀ v H', Ext H H' → Rep G W ρ H' v d → Q v H') → r x y H Q
def Sp1 (G : Gc) (r : V → Hp → VK → Prop) (f : D → Option D) : Prop := ∀ (W : Addr → Prop) (ρ : List Addr) (H : Hp) (x : V) (dx d : D) (Q : VK), Tk W H → BR G W ρ H x dx → f dx = some d →
  (∀ v H', Ext H H' → Rep G W ρ H' v d → Q v H') → r x H Q
def BRs (G : Gc) (W : Addr → Prop) (ρ : List Addr) (H : Hp) (vs : List V) (ds : List D) : Prop := Paired (fun v d => BR G W ρ H v d) vs ds
def SpC (G : Gc) (r : List V → Hp → VK → Prop) (f : List D → Option D) : Prop := ∀ (W : Addr → Prop) (ρ : List Addr) (H : Hp) (xs : List V) (ds : List D) (d : D) (Q : VK), Tk W H → BRs G W ρ H xs ds → f ds = some d →
  (∀ v H', Ext H H' → Rep G W ρ H' v d → Q v H') → r xs H Q
def SpM (G : Gc) (r : V → List V → Hp → VK → Prop) (f : D → List D → Option D) : Prop := ∀ (W : Addr → Prop) (ρ : List Addr) (H : Hp) (x : V) (xs : List V) (dx : D) (ds : List D) (d : D) (Q : VK), Tk W H → BR G W ρ H x dx → BRs G W ρ H xs ds → f dx ds = some d →
  (∀ v H', Ext H H' → Rep G W ρ H' v d → Q v H') → r x xs H Q

def opt (o : Option D) : M Loc := fun s => match o with | some d => .ok (.val d) s | none => .stuck
def op2 (f : D → D → Option D) (ma mb : M Loc) : M Loc := bnd ma fun x => bnd mb fun y => bnd (cont x) fun dx => bnd (cont y) fun dy => opt (f dx dy)
def op1 (f : D → Option D) (ma : M Loc) : M Loc := bnd ma fun x => bnd (cont x) fun dx => opt (f dx)
def conts : List Loc → M (List D)
  | [] => ret []
  | l :: ls => bnd (cont l) fun d => bnd (conts ls) fun ds => ret (d :: ds)
def vals : List Loc → M (List D)
  | [] => ret []
  | l :: ls => bnd (toVal l) fun d => bnd (vals ls) fun ds => ret (d :: ds)
def opC (f : List D → Option D) (ma : M (List Loc)) : M Loc := bnd ma fun xs => bnd (conts xs) fun ds => opt (f ds)
def opM (f : D → List D → Option D) (mo : M Loc) (ma : M (List Loc)) : M Loc := bnd mo fun x => bnd ma fun xs => bnd (cont x) fun d => bnd (conts xs) fun ds => opt (f d ds)

section
variable {G : Gc} {X : WX} {S0 : Addr → Prop} {ρ ρ1 : List Addr} {s s1 : S} {σ : L2.St} {H H1 : Hp}
theorem post_opt {o : Option D} {Q : VK} {P : Prop} (t : Sat G S0 ρ s σ H) (hp : Post G X (LRep G) S0 ρ s σ H (opt o s) Q)
    (k : ∀ d, o = some d → (∀ v H', Ext H H' → Rep G (Wa S0 ρ s.e σ) ρ H' v d → Q v H') → P) : P := by
  cases o with
  | none => exact hp.elim
  | some d => exact k d rfl fun v H' e r => hp v H' ρ (t.grow e).1 ⟨(t.grow e).2, List.prefix_refl _⟩ r
theorem post_conts {β α : Type} {R : RelT β α} : ∀ {ls : List Loc} {vs : List V} {f : List D → M α} {Q2 : β → Hp → Prop} {P : Prop}, Sat G S0 ρ s σ H → LReps G (Wa S0 ρ s.e σ) ρ H σ vs ls → Post G X R S0 ρ s σ H ((conts ls s).bind f) Q2 →
    (∀ ds, BRs G (Wa S0 ρ s.e σ) ρ H vs ds → Post G X R S0 ρ s σ H (f ds s) Q2 → P) → P
  | [], _, f, Q2, P, t, .nil, hp, k => k [] .nil hp
  | l :: ls, v :: vs, f, Q2, P, t, .cons r rr, hp, k => by
    have hp' : Post G X R S0 ρ s σ H ((cont l s).bind fun d => fun s => (conts ls s).bind fun ds => f (d :: ds)) Q2 := by
      have hp : Post G X R S0 ρ s σ H (((cont l s).bind fun d => bnd (conts ls) fun ds => ret (d :: ds)).bind f) Q2 := hp
      cases e : cont l s with
      | ok d s1 =>
        rw [e] at hp
        show Post G X R S0 ρ s σ H ((conts ls s1).bind fun ds => f (d :: ds)) Q2
        have hp2 : Post G X R S0 ρ s σ H (((conts ls s1).bind fun ds => ret (d :: ds)).bind f) Q2 := hp
        cases e2 : conts ls s1 with
        | ok ds s2 => rw [e2] at hp2; exact hp2
        | exc x s2 => rw [e2] at hp2; exact hp2
        | stuck => rw [e2] at hp2; exact hp2
      | exc x s1 => rw [e] at hp; exact hp
      | stuck => rw [e] at hp; exact hp
    exact post_cont t r hp' fun d b hp2 => post_conts (f := fun ds => f (d :: ds)) t rr hp2 fun ds bs hp3 => k (d :: ds) (.cons b bs) hp3
theorem ev_op2 {r : R2} {f : D → D → Option D} {ta tb : TE} {ma mb : M Loc} (sp : Sp2 G r f) (ha : Ev G X (LRep G) ta ma) (hb : Ev G X (LRep G) tb mb) : Ev G X (LRep G) (tOp r ta tb) (op2 f ma mb) := by
  intro S0 ρ s σ H Q t hp
  refine ha _ _ _ _ _ _ t (post_bind hp fun x s1 _ v H1 ρ1 t1 n1 r1 hp1 => ?_)
  refine hb _ _ _ _ _ _ t1 (post_bind hp1 fun y s2 _ u H2 ρ2 t2 n2 r2 hp2 => ?_)
  have r1' := stab_L r1 n2.k n2.p
  refine post_cont t2 r1' hp2 fun dx bx hp3 => post_cont t2 r2 hp3 fun dy b2 hp4 => post_opt t2 hp4 fun d e q => ?_
  exact sp _ _ _ _ _ _ _ _ _ t2.tk bx b2 e q
theorem ev_op1 {r : V → Hp → VK → Prop} {f : D → Option D} {ta : TE} {ma : M Loc} (sp : Sp1 G r f) (ha : Ev G X (LRep G) ta ma) : Ev G X (LRep G) (tUn r ta) (op1 f ma) := by
  intro S0 ρ s σ H Q t hp
  refine ha _ _ _ _ _ _ t (post_bind hp fun x s1 _ v H1 ρ1 t1 n1 r1 hp1 => ?_)
  refine post_cont t1 r1 hp1 fun dx bx hp3 => post_opt t1 hp3 fun d e q => ?_
  exact sp _ _ _ _ _ _ _ t1.tk bx e q
theorem ev_opC {r : List V → Hp → VK → Prop} {f : List D → Option D} {ta : TA} {ma : M (List Loc)} (sp : SpC G r f) (ha : Ev G X (LReps G) ta ma) : Ev G X (LRep G) (tCB r ta) (opC f ma) := by
  intro S0 ρ s σ H Q t hp
  refine ha _ _ _ _ _ _ t (post_bind hp fun x s1 _ v H1 ρ1 t1 n1 r1 hp1 => ?_)
  refine post_conts t1 r1 hp1 fun dx bx hp3 => post_opt t1 hp3 fun d e q => ?_
  exact sp _ _ _ _ _ _ _ t1.tk bx e q
end

/-! ### names, constants -/
def vr (i : Nat) : M Loc := fun s => match s.e[i]? with | some (.val d) => .ok (.val d) s | some (.own _) => .ok (.own i) s | _ => .stuck
def kk (d : D) : M Loc := ret (.val d)
section
variable {X : Cx} {ca : Nat → Addr} {W : WX} {e a b c : Expr} {es : List Expr} {te ta tb tc : TE} {tA : TA} {m ma mb mc : M Loc} {mA : M (List Loc)} {pos p : Pos}
theorem ev_vr {G : Gc} {i : Nat} : Ev G W (LRep G) (tVar i) (vr i) := by
  intro S0 ρ s σ H Q t hp
  unfold vr at hp
  cases e : s.e[i]? with
  | none => simp only [e] at hp; exact hp.elim
  | some sl =>
    cases sl with
    | no => simp only [e] at hp; exact hp.elim
    | val d =>
      simp only [e] at hp
      obtain ⟨v, e1, r⟩ := t.val i d e
      exact ⟨v, e1, Post.ret hp t r⟩
    | own d =>
      simp only [e] at hp
      obtain ⟨a, e1, r⟩ := t.own i d e
      exact ⟨_, e1, Post.ret hp t e1⟩
theorem ev_c {G : Gc} {v : V} {d : D} (r : ∀ W ρ H, Rep G W ρ H v d) : Ev G W (LRep G) (tC v) (kk d) := fun S0 ρ s σ H Q t hp => Post.ret (R := LRep G) hp t (r _ _ _)
theorem je_var {i : Nat} {x : Str} (hN : X.N[i]? = some x) (hv : Vis X.env.scope x) (hd : (x == ("__debug__" : Str)) = false := by decide) (hcd : (x == ("__classdict__" : Str)) = false := by decide) :
    JE X ca W (.Name x pos) (tVar i) (vr i) := ⟨pe_var hN hv hd hcd, ev_vr⟩
theorem je_int {i : Int} {j} : JE X ca W (.Constant (.int i) j pos) (tC (.int i)) (kk (.int i)) := ⟨pe_int, ev_c fun _ _ _ => .int⟩
theorem je_bl {i : Bool} {j} : JE X ca W (.Constant (.bool i) j pos) (tC (.bl i)) (kk (.bl i)) := ⟨pe_bl, ev_c fun _ _ _ => .bl⟩
theorem je_non {j} : JE X ca W (.Constant .none j pos) (tC .non) (kk .non) := ⟨pe_non, ev_c fun _ _ _ => .non⟩
theorem je_str {i : Str} {j} : JE X ca W (.Constant (.str i) j pos) (tC (.str i)) (kk (.str i)) := ⟨pe_str, ev_c fun _ _ _ => .str⟩
/-- a constant of the module: an int, a text -/
theorem je_gint {x : Str} {i : Int} {t : Tok} (hg : Gl X x) (hm : X.mg x = some (.int i t)) (hd : (x == ("__debug__" : Str)) = false := by decide) : JE X ca W (.Name x pos) (tC (.int i)) (kk (.int i)) := ⟨pe_glob hg hm ⟨_, rfl⟩ hd, ev_c fun _ _ _ => .int⟩
theorem je_gstr {x : Str} {i : Str} {t : Tok} (hg : Gl X x) (hm : X.mg x = some (.str i t)) (hd : (x == ("__debug__" : Str)) = false := by decide) : JE X ca W (.Name x pos) (tC (.str i)) (kk (.str i)) := ⟨pe_glob hg hm ⟨_, rfl⟩ hd, ev_c fun _ _ _ => .str⟩

/-! ### arguments -/
def aNil : M (List Loc) := ret []
def aCons (m : M Loc) (ms : M (List Loc)) : M (List Loc) := bnd m fun x => bnd ms fun xs => ret (x :: xs)
theorem LReps.mono {G : Gc} {S0 W W' : Addr → Prop} {ρ ρ' : List Addr} {H H' : Hp} {σ : L2.St} {vs : List V} {ls : List Loc} (r : LReps G W ρ H σ vs ls) (k : Kp S0 W H W' H') (p : ρ <+: ρ') : LReps G W' ρ' H' σ vs ls := by
  induction r with
  | nil => exact .nil
  | cons r _ ih => exact .cons (stab_L r k p) ih
theorem ja_nil : JA X ca W [] tNil aNil := ⟨pa_nil, fun S0 ρ s σ H Q t hp => Post.ret (R := LReps ⟨X.K, ca⟩) hp t .nil, fun s ls s' h => by cases h; rfl⟩
theorem ja_cons (ha : JE X ca W e te m) (hr : JA X ca W es tA mA) (hs : starEach (e :: es) X.env = (false, eval e X.env) :: starEach es X.env := by rfl) : JA X ca W (e :: es) (tCons te tA) (aCons m mA) := by
  refine ⟨pa_cons ha.pe hr.pa hs, fun S0 ρ s σ H Q t hp => ?_, fun s ls s' h => ?_⟩
  · refine ha.ev _ _ _ _ _ _ t (post_bind hp fun x s1 _ v H1 ρ1 t1 n1 r1 hp1 => ?_)
    refine hr.ev _ _ _ _ _ _ t1 (post_bind hp1 fun y s2 _ u H2 ρ2 t2 n2 r2 hp2 => ?_)
    exact Post.ret (R := LReps ⟨X.K, ca⟩) hp2 t2 (.cons (stab_L r1 n2.k n2.p) r2)
  · have h : ((m s).bind fun x => bnd mA fun xs => ret (x :: xs)) = .ok ls s' := h
    cases e : m s with
    | ok x s1 =>
      rw [e] at h
      have h : ((mA s1).bind fun xs => ret (x :: xs)) = .ok ls s' := h
      cases e2 : mA s1 with
      | ok xs s2 =>
        rw [e2] at h
        cases h
        rw [List.length_cons, List.length_cons, hr.len _ _ _ e2]
      | exc x s2 => rw [e2] at h; cases h
      | stuck => rw [e2] at h; cases h
    | exc x s1 => rw [e] at h; cases h
    | stuck => rw [e] at h; cases h

/-! ### operators -/
theorem je_op {op : Operator} {r : R2} {f : D → D → Option D} (ho : OpR X (binaryOp op) r) (sp : Sp2 ⟨X.K, ca⟩ r f) (ha : JE X ca W a ta ma) (hb : JE X ca W b tb mb) : JE X ca W (.BinOp a op b pos) (tOp r ta tb) (op2 f ma mb) :=
  ⟨pe_op ho ha.pe hb.pe, ev_op2 sp ha.ev hb.ev⟩
theorem je_cmp {op : CmpOp} {r : R2} {f : D → D → Option D} (ho : OpR X (compareOp op) r) (sp : Sp2 ⟨X.K, ca⟩ r f) (ha : JE X ca W a ta ma) (hb : JE X ca W b tb mb) (hm : behindInMarks op b = false) : JE X ca W (.Compare a [op] [b] pos) (tOp r ta tb) (op2 f ma mb) :=
  ⟨pe_cmpR ho ha.pe hb.pe hm, ev_op2 sp ha.ev hb.ev⟩
theorem je_ix {r : R2} {f : D → D → Option D} (ho : IxR X r) (sp : Sp2 ⟨X.K, ca⟩ r f) (ha : JE X ca W a ta ma) (hb : JE X ca W b tb mb) (hs : PlainIx b := by exact fun _ _ => rfl) : JE X ca W (.Subscript a b pos) (tOp r ta tb) (op2 f ma mb) :=
  ⟨pe_ix ho ha.pe hb.pe hs, ev_op2 sp ha.ev hb.ev⟩
theorem je_un {op : UnaryOp} {r : V → Hp → VK → Prop} {f : D → Option D} (ho : UnR X (unaryOp op) r) (sp : Sp1 ⟨X.K, ca⟩ r f) (ha : JE X ca W a ta ma) : JE X ca W (.UnaryOp op a pos) (tUn r ta) (op1 f ma) :=
  ⟨pe_un ho ha.pe, ev_op1 sp ha.ev⟩
/-- a built-in function, a built-in class called -/
theorem je_callB {x : Str} {id : String} {r : List V → Hp → VK → Prop} {f : List D → Option D} (hc : CallR X (.builtin id) r) (sp : SpC ⟨X.K, ca⟩ r f) (hg : Gl X x) (hm : X.mg x = none) (hv : bootBuiltins x = some (.builtin id)) (ha : JA X ca W (e :: es) tA mA) (hn : x ≠ "__name__" := by decide) (hdb : (x == ("__debug__" : Str)) = false := by decide)
    (he : starEach (e :: es) X.env = (false, eval e X.env) :: starEach es X.env := by rfl) (hpl : (backTo pos (starEach es X.env)).any (·.1) = false := by rfl) : JE X ca W (.Call (.Name x p) (e :: es) [] pos) (tCB r tA) (opC f mA) :=
  ⟨pe_callB hc hg hm hv ha.pa hn hdb he hpl, ev_opC sp ha.ev⟩
theorem je_callTy {x : Str} {T : String} {r : List V → Hp → VK → Prop} {f : List D → Option D} (hc : CallR X (.type T) r) (sp : SpC ⟨X.K, ca⟩ r f) (hg : Gl X x) (hm : X.mg x = none) (hv : bootBuiltins x = some (.type T)) (ha : JA X ca W (e :: es) tA mA) (hn : x ≠ "__name__" := by decide) (hdb : (x == ("__debug__" : Str)) = false := by decide)
    (he : starEach (e :: es) X.env = (false, eval e X.env) :: starEach es X.env := by rfl) (hpl : (backTo pos (starEach es X.env)).any (·.1) = false := by rfl) : JE X ca W (.Call (.Name x p) (e :: es) [] pos) (tCB r tA) (opC f mA) :=
  ⟨pe_callTy hc hg hm hv ha.pa hn hdb he hpl, ev_opC sp ha.ev⟩

/-! ### tests -/
/-- a value's truth -/
def truD : D → Option Bool
  | .non => some false
  | .bl b => some b
  | .int i => some (i != 0)
  | .str x => if x.length ≤ lim then some ((x.length : Int) != 0) else none
  | .lst ds => some !ds.isEmpty
  | .tup ds => some !ds.isEmpty
  | _ => none
def tst (m : M Loc) : M Bool := bnd m fun x => bnd (cont x) fun d => fun s => match truD d with | some b => .ok b s | none => .stuck
theorem isEmpty_reps {G : Gc} {W : Addr → Prop} {ρ : List Addr} {H : Hp} {vs : List V} {ds : List D} (r : Reps G W ρ H vs ds) : (!vs.isEmpty) = !ds.isEmpty := by
  cases r <;> rfl
theorem tru_br {G : Gc} {W : Addr → Prop} {ρ : List Addr} {H : Hp} {v : V} {d : D} {b : Bool} (h : BR G W ρ H v d) (e : truD d = some b) : TruV G.K v H b := by
  cases d with
  | non => obtain rfl := br_non h; cases e; rfl
  | bl b => obtain rfl := br_bl h; cases e; rfl
  | int b => obtain rfl := br_int h; cases e; rfl
  | str x =>
    obtain rfl := br_str h
    by_cases hl : x.length ≤ lim
    · rw [show truD (.str x) = some ((x.length : Int) != 0) from if_pos hl] at e
      cases e
      exact ⟨lim_line hl, rfl⟩
    · rw [show truD (.str x) = none from if_neg hl] at e
      cases e
  | lst ds => obtain ⟨a, vs, rfl, hs, r⟩ := br_lst h; cases e; exact .inl ⟨vs, .inl (.inl hs), (isEmpty_reps r).symm⟩
  | tup ds => obtain ⟨a, vs, rfl, hs, r, _⟩ := br_tup h; cases e; exact .inr (.inl ⟨vs, hs, (isEmpty_reps r).symm⟩)
  | _ => cases e
theorem jt_val (ha : JE X ca W a ta ma) (he : ∀ whole, isTrue a X.env whole = (do let v ← whole; standAt a.pos; holding [v] (truthy v)) := by intro _; rfl) :
    JT X ca W a (fun σ H Q => ta σ H fun x H' => ∃ k, TruV X.K x H' k ∧ Q k H') (tst ma) := by
  refine ⟨pt_truth ha.pe he, fun S0 ρ s σ H Q t hp => ?_⟩
  refine ha.ev _ _ _ _ _ _ t (post_bind hp fun x s1 _ v H1 ρ1 t1 n1 r1 hp1 => ?_)
  refine post_cont t1 r1 hp1 fun d b hp2 => ?_
  cases e : truD d with
  | none => simp only [e] at hp2; exact hp2.elim
  | some k => simp only [e] at hp2; exact ⟨k, tru_br b e, Post.ret hp2 t1 rfl⟩
/-- a comparison as a test -/
def tstB (m : M Loc) : M Bool := bnd m fun x => fun s => match x with | .val (.bl b) => .ok b s | _ => .stuck
theorem ev_tstB {G : Gc} {tt : TE} {m : M Loc} (h : Ev G W (LRep G) tt m) : Ev G W BRel (tTest tt) (tstB m) := by
  intro S0 ρ s σ H Q t hp
  refine h _ _ _ _ _ _ t (post_bind hp fun x s1 _ v H1 ρ1 t1 n1 r1 hp1 => ?_)
  cases x with
  | own i => exact hp1.elim
  | val d =>
    cases d with
    | bl k =>
      have r' : Rep G (Wa S0 ρ1 s1.e σ) ρ1 H1 v (.bl k) := r1
      cases r'
      exact ⟨k, rfl, Post.ret hp1 t1 rfl⟩
    | _ => exact hp1.elim
theorem jt_cmp {op : CmpOp} {r : R2} {f : D → D → Option D} (ho : OpR X (compareOp op) r) (sp : Sp2 ⟨X.K, ca⟩ r f) (ha : JE X ca W a ta ma) (hb : JE X ca W b tb mb) (hm : behindInMarks op b = false) : JT X ca W (.Compare a [op] [b] pos) (tTest (tOp r ta tb)) (tstB (op2 f ma mb)) :=
  ⟨pt_cmpR ho ha.pe hb.pe hm, ev_tstB (ev_op2 sp ha.ev hb.ev)⟩
/-- a op1 b op2 c -/
def chn (f g : D → D → Option D) (ma mb mc : M Loc) : M Loc := bnd ma fun x => bnd mb fun y => bnd (cont x) fun dx => bnd (cont y) fun dy => fun s => match f dx dy with
  | some (.bl true) => op2 g (ret y) mc s
  | some (.bl false) => .ok (.val (.bl false)) s
  | _ => .stuck
theorem ev_chn {G : Gc} {r r' : R2} {f g : D → D → Option D} (sp : Sp2 G r f) (sp' : Sp2 G r' g) (ha : Ev G W (LRep G) ta ma) (hb : Ev G W (LRep G) tb mb) (hc : Ev G W (LRep G) tc mc) : Ev G W (LRep G) (tChain r r' ta tb tc) (chn f g ma mb mc) := by
  intro S0 ρ s σ H Q t hp
  refine ha _ _ _ _ _ _ t (post_bind hp fun x s1 _ v H1 ρ1 t1 n1 r1 hp1 => ?_)
  refine hb _ _ _ _ _ _ t1 (post_bind hp1 fun y s2 _ u H2 ρ2 t2 n2 r2 hp2 => ?_)
  have r1' := stab_L r1 n2.k n2.p
  refine post_cont t2 r1' hp2 fun dx bx hp3 => post_cont t2 r2 hp3 fun dy b2 hp4 => ?_
  cases e : f dx dy with
  | none => simp only [e] at hp4; exact hp4.elim
  | some d =>
    refine sp _ _ _ _ _ _ _ _ _ t2.tk bx b2 e fun z H3 x3 rz => ?_
    cases d with
    | bl k =>
      cases rz
      refine ⟨k, rfl, ?_⟩
      have t3 := (t2.grow x3).1
      have n3 : Nx S0 ρ2 s2.e σ H2 ρ2 s2.e σ H3 := ⟨(t2.grow x3).2, List.prefix_refl _⟩
      cases k with
      | true =>
        simp only [e] at hp4
        rw [if_pos rfl]
        have hp5 : Post G W (LRep G) S0 ρ2 s2 σ H3 ((mc s2).bind fun w => bnd (cont y) fun dx => bnd (cont w) fun dy => opt (g dx dy)) Q := hp4.from n3
        refine hc _ _ _ _ _ _ t3 (post_bind hp5 fun w s4 _ q H4 ρ4 t4 n4 r4 hp6 => ?_)
        refine post_cont t4 (stab_L (stab_L r2 n3.k n3.p) n4.k n4.p) hp6 fun dx' bx' hp7 => post_cont t4 r4 hp7 fun dy' by' hp8 => post_opt t4 hp8 fun d' e' q' => ?_
        exact sp' _ _ _ _ _ _ _ _ _ t4.tk bx' by' e' q'
      | false =>
        simp only [e] at hp4
        rw [if_neg Bool.false_ne_true]
        exact hp4 _ _ _ t3 n3 .bl
    | _ => simp only [e] at hp4; exact hp4.elim
theorem jt_chn {op op' : CmpOp} {r r' : R2} {f g : D → D → Option D} (ho : OpR X (compareOp op) r) (sp : Sp2 ⟨X.K, ca⟩ r f) (ho' : OpR X (compareOp op') r') (sp' : Sp2 ⟨X.K, ca⟩ r' g) (ha : JE X ca W a ta ma) (hb : JE X ca W b tb mb) (hc : JE X ca W c tc mc)
    (hm : lastMarks [op, op'] [b, c] = false := by with_unfolding_all rfl) : JT X ca W (.Compare a [op, op'] [b, c] pos) (tTest (tChain r r' ta tb tc)) (tstB (chn f g ma mb mc)) :=
  ⟨pt_chain ho ho' ha.pe hb.pe hc.pe hm, ev_tstB (ev_chn sp sp' ha.ev hb.ev hc.ev)⟩
theorem je_chn {op op' : CmpOp} {r r' : R2} {f g : D → D → Option D} (ho : OpR X (compareOp op) r) (sp : Sp2 ⟨X.K, ca⟩ r f) (ho' : OpR X (compareOp op') r') (sp' : Sp2 ⟨X.K, ca⟩ r' g) (ha : JE X ca W a ta ma) (hb : JE X ca W b tb mb) (hc : JE X ca W c tc mc)
    (hm : lastMarks [op, op'] [b, c] = false := by with_unfolding_all rfl) : JE X ca W (.Compare a [op, op'] [b, c] pos) (tChain r r' ta tb tc) (chn f g ma mb mc) :=
  ⟨pe_chain ho ho' ha.pe hb.pe hc.pe hm, ev_chn sp sp' ha.ev hb.ev hc.ev⟩
/-! and, or, not as tests -/
variable {tu tv : TT} {mu mv : M Bool} {rest : List Expr}
def mAnd (a b : M Bool) : M Bool := bnd a fun k => if k = true then b else ret false
def mOr (a b : M Bool) : M Bool := bnd a fun k => if k = true then ret true else b
def mNot (a : M Bool) : M Bool := bnd a fun k => ret (!k)
theorem jw_and1 (ha : JT X ca W a tu mu) : JW X ca W (.BoolOp .And [a] pos) tu mu := ⟨pw_and1 ha.pt, ha.ev⟩
theorem jw_or1 (ha : JT X ca W a tu mu) : JW X ca W (.BoolOp .Or [a] pos) tu mu := ⟨pw_or1 ha.pt, ha.ev⟩
theorem jw_and (ha : JT X ca W a tu mu) (hb : JW X ca W (.BoolOp .And (b :: rest) pos) tv mv) : JW X ca W (.BoolOp .And (a :: b :: rest) pos) (tAnd tu tv) (mAnd mu mv) := by
  refine ⟨pw_and ha.pt hb.pw, fun S0 ρ s σ H Q t hp => ?_⟩
  refine ha.ev _ _ _ _ _ _ t (post_bind hp fun x s1 _ v H1 ρ1 t1 n1 r1 hp1 => ?_)
  obtain rfl : x = v := Eq.symm r1
  cases x with
  | true => rw [if_pos rfl]; exact hb.ev _ _ _ _ _ _ t1 hp1
  | false => rw [if_neg Bool.false_ne_true]; exact Post.ret (R := BRel) hp1 t1 rfl
theorem jw_or (ha : JT X ca W a tu mu) (hb : JW X ca W (.BoolOp .Or (b :: rest) pos) tv mv) : JW X ca W (.BoolOp .Or (a :: b :: rest) pos) (tOr tu tv) (mOr mu mv) := by
  refine ⟨pw_or ha.pt hb.pw, fun S0 ρ s σ H Q t hp => ?_⟩
  refine ha.ev _ _ _ _ _ _ t (post_bind hp fun x s1 _ v H1 ρ1 t1 n1 r1 hp1 => ?_)
  obtain rfl : x = v := Eq.symm r1
  cases x with
  | false => rw [if_neg Bool.false_ne_true]; exact hb.ev _ _ _ _ _ _ t1 hp1
  | true => rw [if_pos rfl]; exact Post.ret (R := BRel) hp1 t1 rfl
theorem JW.jt (h : JW X ca W a tu mu) : JT X ca W a tu mu := ⟨h.pw.pt, h.ev⟩
theorem jt_not (ha : JT X ca W a tu mu) : JT X ca W (.UnaryOp .Not a pos) (tNot tu) (mNot mu) := by
  refine ⟨pt_not ha.pt, fun S0 ρ s σ H Q t hp => ?_⟩
  refine ha.ev _ _ _ _ _ _ t (post_bind hp fun x s1 _ v H1 ρ1 t1 n1 r1 hp1 => ?_)
  obtain rfl : x = v := Eq.symm r1
  exact Post.ret (R := BRel) hp1 t1 rfl
/-- .. as values -/
def eAnd (a b : M Loc) : M Loc := bnd a fun x => fun s => match x with | .val (.bl true) => b s | .val (.bl false) => .ok (.val (.bl false)) s | _ => .stuck
def eOr (a b : M Loc) : M Loc := bnd a fun x => fun s => match x with | .val (.bl false) => b s | .val (.bl true) => .ok (.val (.bl true)) s | _ => .stuck
def eNot (a : M Loc) : M Loc := bnd a fun x => fun s => match x with | .val (.bl k) => .ok (.val (.bl (!k))) s | _ => .stuck
theorem je_one {op} (h : JE X ca W a ta ma) : JE X ca W (.BoolOp op [a] pos) ta ma := ⟨pe_one h.pe, h.ev⟩
theorem je_and (ha : JE X ca W a ta ma) (hb : JE X ca W (.BoolOp .And (b :: rest) pos) tb mb) : JE X ca W (.BoolOp .And (a :: b :: rest) pos) (tAndV ta tb) (eAnd ma mb) := by
  refine ⟨pe_and ha.pe hb.pe, fun S0 ρ s σ H Q t hp => ?_⟩
  refine ha.ev _ _ _ _ _ _ t (post_bind hp fun x s1 _ v H1 ρ1 t1 n1 r1 hp1 => ?_)
  cases x with
  | own i => exact hp1.elim
  | val d =>
    cases d with
    | bl k =>
      have r' : Rep ⟨X.K, ca⟩ (Wa S0 ρ1 s1.e σ) ρ1 H1 v (.bl k) := r1
      cases r'
      refine ⟨k, rfl, ?_⟩
      cases k with
      | true => rw [if_pos rfl]; exact hb.ev _ _ _ _ _ _ t1 hp1
      | false => rw [if_neg Bool.false_ne_true]; exact Post.ret (R := LRep ⟨X.K, ca⟩) hp1 t1 .bl
    | _ => exact hp1.elim
theorem je_or (ha : JE X ca W a ta ma) (hb : JE X ca W (.BoolOp .Or (b :: rest) pos) tb mb) : JE X ca W (.BoolOp .Or (a :: b :: rest) pos) (tOrV ta tb) (eOr ma mb) := by
  refine ⟨pe_or ha.pe hb.pe, fun S0 ρ s σ H Q t hp => ?_⟩
  refine ha.ev _ _ _ _ _ _ t (post_bind hp fun x s1 _ v H1 ρ1 t1 n1 r1 hp1 => ?_)
  cases x with
  | own i => exact hp1.elim
  | val d =>
    cases d with
    | bl k =>
      have r' : Rep ⟨X.K, ca⟩ (Wa S0 ρ1 s1.e σ) ρ1 H1 v (.bl k) := r1
      cases r'
      refine ⟨k, rfl, ?_⟩
      cases k with
      | false => rw [if_neg Bool.false_ne_true]; exact hb.ev _ _ _ _ _ _ t1 hp1
      | true => rw [if_pos rfl]; exact Post.ret (R := LRep ⟨X.K, ca⟩) hp1 t1 .bl
    | _ => exact hp1.elim
theorem je_not (ha : JE X ca W a ta ma) : JE X ca W (.UnaryOp .Not a pos) (tNotV ta) (eNot ma) := by
  refine ⟨pe_not ha.pe, fun S0 ρ s σ H Q t hp => ?_⟩
  refine ha.ev _ _ _ _ _ _ t (post_bind hp fun x s1 _ v H1 ρ1 t1 n1 r1 hp1 => ?_)
  cases x with
  | own i => exact hp1.elim
  | val d =>
    cases d with
    | bl k =>
      have r' : Rep ⟨X.K, ca⟩ (Wa S0 ρ1 s1.e σ) ρ1 H1 v (.bl k) := r1
      cases r'
      exact ⟨k, rfl, Post.ret (R := LRep ⟨X.K, ca⟩) hp1 t1 .bl⟩
    | _ => exact hp1.elim
def eIf (c : M Bool) (a b : M Loc) : M Loc := bnd c fun k => if k = true then a else b
theorem je_if {cc : Expr} (hc : JT X ca W cc tu mu) (ha : JE X ca W a ta ma) (hb : JE X ca W b tb mb) : JE X ca W (.IfExp cc a b pos) (tIf tu ta tb) (eIf mu ma mb) := by
  refine ⟨pe_ifExp hc.pt ha.pe hb.pe, fun S0 ρ s σ H Q t hp => ?_⟩
  refine hc.ev _ _ _ _ _ _ t (post_bind hp fun x s1 _ v H1 ρ1 t1 n1 r1 hp1 => ?_)
  obtain rfl : x = v := Eq.symm r1
  cases x with
  | true => rw [if_pos rfl]; exact ha.ev _ _ _ _ _ _ t1 hp1
  | false => rw [if_neg Bool.false_ne_true]; exact hb.ev _ _ _ _ _ _ t1 hp1
end
end Mi

namespace Mi
open PySem L2

/-! ### numbers -/
def addD : D → D → Option D
  | .int i, .int j => some (.int (i + j))
  | .str x, .str y => if x.length + y.length ≤ lim then some (.str (x ++ y)) else none
  | .lst xs, .lst ys => if xs.length + ys.length ≤ lim then some (.lst (xs ++ ys)) else none
  | .tup xs, .tup ys => if xs.length + ys.length ≤ lim then some (.tup (xs ++ ys)) else none
  | _, _ => none
def subD : D → D → Option D
  | .int i, .int j => some (.int (i - j))
  | _, _ => none
def smallI (i : Int) : Bool := decide (-(2 ^ 64) < i) && decide (i < 2 ^ 64)
theorem smallI_of {i : Int} (h : smallI i = true) : -(2 ^ 64) < i ∧ i < 2 ^ 64 := by
  unfold smallI at h
  rw [Bool.and_eq_true] at h
  exact ⟨of_decide_eq_true h.1, of_decide_eq_true h.2⟩
def mulD : D → D → Option D
  | .int i, .int j => if smallI i || smallI j then some (.int (i * j)) else none
  | .lst xs, .int k => if 0 ≤ k ∧ k ≤ 1000 ∧ xs.length ≤ 1000 then some (.lst (List.replicate k.toNat xs).flatten) else none
  | _, _ => none
def modD : D → D → Option D
  | .int i, .int j => if 0 < j then some (.int (i % j)) else none
  | _, _ => none
def fdivD : D → D → Option D
  | .int i, .int j => if 0 < j ∧ j < 1073741824 then some (.int (i / j)) else none
  | _, _ => none
def powD : D → D → Option D
  | .int i, .int j => if 0 ≤ j ∧ j ≤ 1000 ∧ i.natAbs < 2 ^ 64 then some (.int (i ^ j.toNat)) else none
  | _, _ => none
def cmpD (p : Int → Int → Bool) : D → D → Option D
  | .int i, .int j => some (.bl (p i j))
  | _, _ => none
def addI : D → D → Option D
  | .int i, .int j => some (.int (i + j))
  | _, _ => none
def negD : D → Option D
  | .int i => some (.int (-i))
  | _ => none
section
variable {G : Gc} {X : Cx}
theorem sp_I0 {g : Int → Int → V} {f : D → D → Option D} (h : ∀ i j, ∃ d, f (.int i) (.int j) = some d ∧ ∀ W ρ H, Rep G W ρ H (g i j) d) (h2 : ∀ x y, (∃ d, f x y = some d) → ∃ i j, x = .int i ∧ y = .int j) : Sp2 G (rI0 g) f := by
  intro W ρ H x y dx dy d Q tk bx bby e q
  obtain ⟨i, j, rfl, rfl⟩ := h2 dx dy ⟨d, e⟩
  obtain rfl := br_int bx
  obtain rfl := br_int bby
  obtain ⟨d', e', r⟩ := h i j
  rw [e] at e'; cases e'
  exact ⟨i, j, rfl, rfl, q _ _ Ext.refl (r _ _ _)⟩
theorem sp_I {C : Int → Int → Prop} {g : Int → Int → V} {f : D → D → Option D} (h2 : ∀ x y d, f x y = some d → ∃ i j, x = .int i ∧ y = .int j ∧ C i j ∧ ∀ W ρ H, Rep G W ρ H (g i j) d) : Sp2 G (rI C g) f := by
  intro W ρ H x y dx dy d Q tk bx bby e q
  obtain ⟨i, j, rfl, rfl, c, r⟩ := h2 dx dy d e
  obtain rfl := br_int bx
  obtain rfl := br_int bby
  exact ⟨i, j, rfl, rfl, c, q _ _ Ext.refl (r _ _ _)⟩
theorem sp_sub : Sp2 G (rI0 fun i j => .int (i - j)) subD := sp_I0 (fun i j => ⟨_, rfl, fun _ _ _ => .int⟩) fun x y ⟨d, e⟩ => by
  cases x <;> cases y <;> first | exact ⟨_, _, rfl, rfl⟩ | cases e
theorem sp_addI : Sp2 G (rI0 fun i j => .int (i + j)) addI := sp_I0 (fun i j => ⟨_, rfl, fun _ _ _ => .int⟩) fun x y ⟨d, e⟩ => by
  cases x <;> cases y <;> first | exact ⟨_, _, rfl, rfl⟩ | cases e
theorem sp_cmp {p : Int → Int → Bool} : Sp2 G (rI0 fun i j => .bl (p i j)) (cmpD p) := sp_I0 (fun i j => ⟨_, rfl, fun _ _ _ => .bl⟩) fun x y ⟨d, e⟩ => by
  cases x <;> cases y <;> first | exact ⟨_, _, rfl, rfl⟩ | cases e
theorem sp_mod : Sp2 G (rI (fun _ j => 0 < j) fun i j => .int (i % j)) modD := sp_I fun x y d e => by
  cases x <;> cases y <;> first | (cases e; done) | skip
  rename_i i j
  by_cases h : 0 < j
  · rw [show modD (.int i) (.int j) = some (.int (i % j)) from if_pos h] at e
    cases e
    exact ⟨_, _, rfl, rfl, h, fun _ _ _ => .int⟩
  · rw [show modD (.int i) (.int j) = none from if_neg h] at e; cases e
theorem sp_fdiv : Sp2 G (rI CDiv fun i j => .int (i / j)) fdivD := sp_I fun x y d e => by
  cases x <;> cases y <;> first | (cases e; done) | skip
  rename_i i j
  by_cases h : 0 < j ∧ j < 1073741824
  · rw [show fdivD (.int i) (.int j) = some (.int (i / j)) from if_pos h] at e
    cases e
    exact ⟨_, _, rfl, rfl, h, fun _ _ _ => .int⟩
  · rw [show fdivD (.int i) (.int j) = none from if_neg h] at e; cases e
theorem sp_pow : Sp2 G (rI CPow fun i j => .int (i ^ j.toNat)) powD := sp_I fun x y d e => by
  cases x <;> cases y <;> first | (cases e; done) | skip
  rename_i i j
  by_cases h : 0 ≤ j ∧ j ≤ 1000 ∧ i.natAbs < 2 ^ 64
  · rw [show powD (.int i) (.int j) = some (.int (i ^ j.toNat)) from if_pos h] at e
    cases e
    exact ⟨_, _, rfl, rfl, ⟨h.1, by have := h.2.1; omega, h.2.2⟩, fun _ _ _ => .int⟩
  · rw [show powD (.int i) (.int j) = none from if_neg h] at e; cases e
theorem sp_neg : Sp1 G (rU fun i => .int (-i)) negD := by
  intro W ρ H x dx d Q tk bx e q
  cases dx <;> first | (cases e; done) | skip
  rename_i i
  cases e
  obtain rfl := br_int bx
  exact ⟨i, rfl, q _ _ Ext.refl .int⟩
/-- a new thing -/
theorem new_lst {W : Addr → Prop} {ρ : List Addr} {H : Hp} {p : Addr} {vs : List V} {ds : List D} (tk : Tk W H) (n : H p = none) (r : Reps G W ρ H vs ds) : Rep G W ρ (upd H p (.lst vs)) (.ref p) (.lst ds) := .lst upd_same (tk.no n) (r.ext (.new n))
theorem new_tup {W : Addr → Prop} {ρ : List Addr} {H : Hp} {p : Addr} {vs : List V} {ds : List D} (tk : Tk W H) (n : H p = none) (r : Reps G W ρ H vs ds) : Rep G W ρ (upd H p (.tup vs)) (.ref p) (.tup ds) := .tup (.inl upd_same) (tk.no n) (r.ext (.new n))

def rAddU (K : PySem.W.Frag) : R2 := fun x y H Q => ((∃ i j, x = .int i ∧ y = .int j ∧ Q (.int (i + j)) H) ∨ (∃ i j, x = .str i ∧ y = .str j ∧ i.length + j.length ≤ sizeLine ∧ Q (.str (i ++ j)) H)) ∨ rCat x y H Q ∨ rCatA K x y H Q
theorem op_addU : OpR X (binaryOp .Add) (rAddU X.K) := (op_add.or op_add_str).or (op_cat.or op_catA)
theorem sp_addU : Sp2 G (rAddU G.K) addD := by
  intro W ρ H x y dx dy d Q tk bx bby e q
  cases dx <;> cases dy <;> first | (cases e; done) | skip
  · rename_i i j
    cases e
    obtain rfl := br_int bx
    obtain rfl := br_int bby
    exact .inl (.inl ⟨i, j, rfl, rfl, q _ _ Ext.refl .int⟩)
  · rename_i i j
    by_cases h : i.length + j.length ≤ lim
    · rw [show addD (.str i) (.str j) = some (.str (i ++ j)) from if_pos h] at e
      cases e
      obtain rfl := br_str bx
      obtain rfl := br_str bby
      exact .inl (.inr ⟨i, j, rfl, rfl, lim_line h, q _ _ Ext.refl .str⟩)
    · rw [show addD (.str i) (.str j) = none from if_neg h] at e; cases e
  · rename_i i j
    by_cases h : i.length + j.length ≤ lim
    · rw [show addD (.tup i) (.tup j) = some (.tup (i ++ j)) from if_pos h] at e
      cases e
      obtain ⟨a, vs, rfl, h1, r1, z1⟩ := br_tup bx
      obtain ⟨b, us, rfl, h2, r2, z2⟩ := br_tup bby
      refine .inr (.inr ⟨a, b, vs, us, rfl, rfl, h1, h2, lim_line (by rw [r1.length, r2.length]; exact h), fun e1 => ?_, fun e1 e2 => ?_, fun e1 e2 p n => ?_⟩)
      · subst e1; cases r1; exact q _ _ Ext.refl (by simpa using z2)
      · subst e2; cases r2; exact q _ _ Ext.refl (by simpa using z1)
      · exact q _ _ (.new n) (new_tup tk n (r1.append r2))
    · rw [show addD (.tup i) (.tup j) = none from if_neg h] at e; cases e
  · rename_i i j
    by_cases h : i.length + j.length ≤ lim
    · rw [show addD (.lst i) (.lst j) = some (.lst (i ++ j)) from if_pos h] at e
      cases e
      obtain ⟨a, vs, rfl, h1, r1⟩ := br_lst bx
      obtain ⟨b, us, rfl, h2, r2⟩ := br_lst bby
      exact .inr (.inl ⟨a, b, vs, us, rfl, rfl, h1, h2, lim_line (by rw [r1.length, r2.length]; exact h), fun p n => q _ _ (.new n) (new_lst tk n (r1.append r2))⟩)
    · rw [show addD (.lst i) (.lst j) = none from if_neg h] at e; cases e
theorem reps_flat {W : Addr → Prop} {ρ : List Addr} {H : Hp} {vs : List V} {ds : List D} (r : Reps G W ρ H vs ds) : ∀ n, Reps G W ρ H (List.replicate n vs).flatten (List.replicate n ds).flatten
  | 0 => .nil
  | n + 1 => by
    rw [List.replicate_succ, List.replicate_succ, List.flatten_cons, List.flatten_cons]
    exact r.append (reps_flat r n)
def rMulU : R2 := fun x y H Q => (∃ i j, x = .int i ∧ y = .int j ∧ CMul i j ∧ Q (.int (i * j)) H) ∨ rRep x y H Q
theorem op_mulU : OpR X (binaryOp .Mult) rMulU := op_mul.or op_rep
theorem sp_mulU : Sp2 G rMulU mulD := by
  intro W ρ H x y dx dy d Q tk bx bby e q
  cases dx <;> cases dy <;> first | (cases e; done) | skip
  · rename_i i j
    by_cases h : (smallI i || smallI j) = true
    · rw [show mulD (.int i) (.int j) = some (.int (i * j)) from if_pos h] at e
      cases e
      obtain rfl := br_int bx
      obtain rfl := br_int bby
      refine .inl ⟨i, j, rfl, rfl, ?_, q _ _ Ext.refl .int⟩
      rcases Bool.or_eq_true_iff.mp h with h | h
      · exact .inl (smallI_of h)
      · exact .inr (smallI_of h)
    · rw [show mulD (.int i) (.int j) = none from if_neg h] at e; cases e
  · rename_i xs k
    by_cases h : 0 ≤ k ∧ k ≤ 1000 ∧ xs.length ≤ 1000
    · rw [show mulD (.lst xs) (.int k) = some (.lst (List.replicate k.toNat xs).flatten) from if_pos h] at e
      cases e
      obtain ⟨a, vs, rfl, h1, r1⟩ := br_lst bx
      obtain rfl := br_int bby
      obtain ⟨h2, h3, h4⟩ := h
      refine .inr ⟨a, k, vs, rfl, rfl, h1, by omega, by omega, ?_, fun p n => q _ _ (.new n) (new_lst tk n (reps_flat r1 _))⟩
      refine lim_line (Nat.le_trans (Nat.mul_le_mul (show vs.length ≤ 1000 by rw [r1.length]; exact h4) (show k.toNat ≤ 1000 by omega)) (by decide))
    · rw [show mulD (.lst xs) (.int k) = none from if_neg h] at e; cases e

/-! ### length, items, membership -/
def lenD : List D → Option D
  | [.lst ds] => some (.int ds.length)
  | [.lck ds] => some (.int ds.length)
  | [.tup ds] => some (.int ds.length)
  | [.dic ds] => some (.int ds.length)
  | [.str x] => if x.length ≤ lim then some (.int x.length) else none
  | _ => none
def rLenU (K : PySem.W.Frag) : List V → Hp → VK → Prop := fun xs H Q => (∃ x n, xs = [x] ∧ LenV K x H n ∧ Q (.int n) H) ∨ ∃ a kvs, xs = [V.ref a] ∧ Rd H a (.dK kvs) ∧ Q (.int kvs.length) H
theorem call_lenRd : CallR X (.builtin "len") (fun xs H Q => ∃ a kvs, xs = [V.ref a] ∧ Rd H a (.dK kvs) ∧ Q (.int kvs.length) H) := by
  intro pins s σ H xs us Q I r h
  obtain ⟨a, kvs, rfl, ha, q⟩ := h
  obtain ⟨u, rfl, ru⟩ := vals1 r
  cases ru
  exact d_len I ha fun t s' I' => ⟨.int kvs.length, H, I', ⟨t, rfl⟩, q⟩
theorem call_lenU : CallR X (.builtin "len") (rLenU X.K) := call_len.or call_lenRd
theorem brs1 {W : Addr → Prop} {ρ : List Addr} {H : Hp} {xs : List V} {d : D} (h : BRs G W ρ H xs [d]) : ∃ x, xs = [x] ∧ BR G W ρ H x d := by
  cases h with | cons h r => cases r; exact ⟨_, rfl, h⟩
theorem brs2 {W : Addr → Prop} {ρ : List Addr} {H : Hp} {xs : List V} {d e : D} (h : BRs G W ρ H xs [d, e]) : ∃ x y, xs = [x, y] ∧ BR G W ρ H x d ∧ BR G W ρ H y e := by
  cases h with | cons h r => obtain ⟨y, rfl, h2⟩ := brs1 r; exact ⟨_, _, rfl, h, h2⟩
theorem sp_lenU : SpC G (rLenU G.K) lenD := by
  intro W ρ H xs ds d Q tk b e q
  match ds, e with
  | [.lst ds], e =>
    obtain ⟨x, rfl, b1⟩ := brs1 b
    obtain ⟨a, vs, rfl, h, r⟩ := br_lst b1
    cases e
    exact .inl ⟨_, vs.length, rfl, .inl ⟨vs, .inl (.inl h), rfl⟩, by rw [r.length]; exact q _ _ Ext.refl .int⟩
  | [.lck ds], e =>
    obtain ⟨x, rfl, b1⟩ := brs1 b
    obtain ⟨a, vs, rfl, h, r⟩ := br_lck b1
    cases e
    exact .inl ⟨_, vs.length, rfl, .inl ⟨vs, h, rfl⟩, by rw [r.length]; exact q _ _ Ext.refl .int⟩
  | [.tup ds], e =>
    obtain ⟨x, rfl, b1⟩ := brs1 b
    obtain ⟨a, vs, rfl, h, r, _⟩ := br_tup b1
    cases e
    exact .inl ⟨_, vs.length, rfl, .inr ⟨vs, h, rfl⟩, by rw [r.length]; exact q _ _ Ext.refl .int⟩
  | [.dic ds], e =>
    obtain ⟨x, rfl, b1⟩ := brs1 b
    obtain ⟨a, vs, rfl, h, k, r⟩ := br_dic b1
    cases e
    have hl : vs.length = ds.length := by have := congrArg List.length k; simpa using this
    exact .inr ⟨_, vs, rfl, h, by rw [hl]; exact q _ _ Ext.refl .int⟩
  | [.str x], e =>
    obtain ⟨y, rfl, b1⟩ := brs1 b
    obtain rfl := br_str b1
    by_cases h : x.length ≤ lim
    · rw [show lenD [.str x] = some (.int x.length) from if_pos h] at e
      cases e
      exact .inl ⟨_, x.length, rfl, ⟨lim_line h, rfl⟩, q _ _ Ext.refl .int⟩
    · rw [show lenD [.str x] = none from if_neg h] at e; cases e

def atD (ds : List D) (i : Int) : Option D := atI ds i
def ixD : D → D → Option D
  | .lst ds, .int i => atI ds i
  | .lck ds, .int i => atI ds i
  | .tup ds, .int i => atI ds i
  | .str x, .int i => if x.length ≤ lim then (atI x.cps.toList i).map fun c => .str ⟨#[c]⟩ else none
  | _, _ => none
theorem reps_at {W : Addr → Prop} {ρ : List Addr} {H : Hp} {vs : List V} {ds : List D} {i : Int} {d : D} (r : Reps G W ρ H vs ds) (e : atI ds i = some d) : ∃ v, atI vs i = some v ∧ Rep G W ρ H v d := by
  unfold atI at e ⊢
  rw [r.length]
  cases q : ixN ds.length i with
  | none => rw [q] at e; cases e
  | some j =>
    rw [q] at e
    exact r.get e
theorem sp_ix : Sp2 G (rIx G.K) ixD := by
  intro W ρ H x y dx dy d Q tk bx bby e q
  match dx, dy, e with
  | .lst ds, .int i, e =>
    obtain ⟨a, vs, rfl, h, r⟩ := br_lst bx
    obtain rfl := br_int bby
    obtain ⟨v, e1, r1⟩ := reps_at r e
    exact .inl ⟨a, vs, i, v, rfl, rfl, .inl (.inl h), e1, q _ _ Ext.refl r1⟩
  | .lck ds, .int i, e =>
    obtain ⟨a, vs, rfl, h, r⟩ := br_lck bx
    obtain rfl := br_int bby
    obtain ⟨v, e1, r1⟩ := reps_at r e
    exact .inl ⟨a, vs, i, v, rfl, rfl, h, e1, q _ _ Ext.refl r1⟩
  | .tup ds, .int i, e =>
    obtain ⟨a, vs, rfl, h, r, _⟩ := br_tup bx
    obtain rfl := br_int bby
    obtain ⟨v, e1, r1⟩ := reps_at r e
    exact .inr (.inl ⟨a, vs, i, v, rfl, rfl, h, e1, q _ _ Ext.refl r1⟩)
  | .str x, .int i, e =>
    obtain rfl := br_str bx
    obtain rfl := br_int bby
    by_cases h : x.length ≤ lim
    · have e : (atI x.cps.toList i).map (fun c => D.str ⟨#[c]⟩) = some d := (if_pos h).symm.trans e
      cases z : atI x.cps.toList i with
      | none => rw [z] at e; cases e
      | some c => rw [z] at e; cases e; exact .inr (.inr ⟨x, i, c, rfl, rfl, lim_line h, z, q _ _ Ext.refl .str⟩)
    · have e : none = some d := (if_neg h).symm.trans e
      cases e

def toV : D → V
  | .non => .non | .bl b => .bl b | .int i => .int i | .str x => .str x | _ => .ref 0
def flatD : D → Bool
  | .non => true | .bl _ => true | .int _ => true | .str _ => true | _ => false
theorem flat_br {W : Addr → Prop} {ρ : List Addr} {H : Hp} {v : V} {d : D} (h : BR G W ρ H v d) (f : flatD d = true) : v = toV d ∧ flatV v = true := by
  cases d <;> first | (cases f; done) | skip
  · rw [br_non h]; exact ⟨rfl, rfl⟩
  · rw [br_bl h]; exact ⟨rfl, rfl⟩
  · rw [br_int h]; exact ⟨rfl, rfl⟩
  · rw [br_str h]; exact ⟨rfl, rfl⟩
theorem flat_reps {W : Addr → Prop} {ρ : List Addr} {H : Hp} : ∀ {vs : List V} {ds : List D}, Reps G W ρ H vs ds → ds.all flatD = true → vs = ds.map toV ∧ vs.all flatV = true
  | _, _, .nil, _ => ⟨rfl, rfl⟩
  | _, _, .cons r t, f => by
    rw [List.all_cons, Bool.and_eq_true] at f
    obtain ⟨e1, f1⟩ := flat_br (.inl r) f.1
    obtain ⟨e2, f2⟩ := flat_reps t f.2
    rw [List.map_cons, List.all_cons, ← e1, ← e2, f1, f2]
    exact ⟨rfl, rfl⟩
def keyD : D → Option Key
  | .int i => some (.inl i)
  | .str x => some (.inr x)
  | _ => none
theorem key_br {W : Addr → Prop} {ρ : List Addr} {H : Hp} {v : V} {d : D} {k : Key} (h : BR G W ρ H v d) (f : keyD d = some k) : v = kV k := by
  cases d <;> first | (cases f; done) | skip
  · cases f; exact br_int h
  · cases f; exact br_str h
def hasK {κ α : Type} [DecidableEq κ] (kvs : List (κ × α)) (k : κ) : Bool := kvs.any fun p => decide (p.1 = k)
def lookK {κ α : Type} [DecidableEq κ] (kvs : List (κ × α)) (k : κ) : Option α := (kvs.find? fun p => decide (p.1 = k)).map (·.2)
theorem look_reps {κ : Type} [DecidableEq κ] {W : Addr → Prop} {ρ : List Addr} {H : Hp} : ∀ {vs : List (κ × V)} {ds : List (κ × D)} {k : κ}, vs.map (·.1) = ds.map (·.1) → Reps G W ρ H (vs.map (·.2)) (ds.map (·.2)) →
    (valV vs k = none ∧ lookK ds k = none) ∨ ∃ v d, valV vs k = some v ∧ lookK ds k = some d ∧ Rep G W ρ H v d
  | [], [], k, _, _ => .inl ⟨rfl, rfl⟩
  | [], _ :: _, k, e, _ => by cases e
  | _ :: _, [], k, e, _ => by cases e
  | (j, v) :: vs, (j', d) :: ds, k, e, .cons r t => by
    rw [List.map_cons, List.map_cons] at e
    injection e with e1 e2
    have e1 : j = j' := e1
    subst e1
    by_cases h : j = k
    · subst h
      exact .inr ⟨v, d, by simp [valV], by simp [lookK], r⟩
    · have q := look_reps (k := k) e2 t
      have h1 : valV ((j, v) :: vs) k = valV vs k := by simp [valV, List.find?_cons, h]
      have h2 : lookK ((j, d) :: ds) k = lookK ds k := by simp [lookK, List.find?_cons, h]
      rw [h1, h2]
      exact q
theorem has_look {κ α : Type} [DecidableEq κ] (k : κ) : ∀ kvs : List (κ × α), hasK kvs k = (lookK kvs k).isSome
  | [] => rfl
  | (j, v) :: r => by
    by_cases h : j = k
    · subst h; simp [hasK, lookK]
    · have := has_look k r
      simp only [hasK, lookK, List.any_cons, List.find?_cons, h, decide_false, Bool.false_or] at this ⊢
      exact this
def inD (neg : Bool) : D → D → Option D
  | x, .lst ys => if flatD x && ys.all flatD then some (.bl (neg ^^ inV (toV x) (ys.map toV))) else none
  | x, .tup ys => if flatD x && ys.all flatD then some (.bl (neg ^^ inV (toV x) (ys.map toV))) else none
  | .str c, .str z => match c.cps.toList with | [k] => some (.bl (neg ^^ decide (k ∈ z.cps.toList))) | _ => none
  | x, .dic kvs => match keyD x with | some k => some (.bl (neg ^^ hasK kvs k)) | none => none
  | _, _ => none
def rInDic (neg : Bool) : R2 := fun y x H Q => ∃ a o, x = .ref a ∧ DGet H a y o ∧ Q (.bl (neg ^^ o.isSome)) H
theorem op_in_dic (hu : X.A.units + 1 < cLine) : OpR X (compareOp .In) (rInDic false) := by
  intro pins s σ H x y v u Q I rx ry h
  obtain ⟨a, o, rfl, g, q⟩ := h
  cases ry
  exact d_in hu I g rx fun s3 I3 => ⟨.bl o.isSome, H, I3, rfl, by simpa using q⟩
theorem op_notin_dic (hu : X.A.units + 1 < cLine) : OpR X (compareOp .NotIn) (rInDic true) := by
  intro pins s σ H x y v u Q I rx ry h
  obtain ⟨a, o, rfl, g, q⟩ := h
  cases ry
  exact d_notIn hu I g rx fun s3 I3 => ⟨.bl (!o.isSome), H, I3, rfl, by simpa using q⟩
def rSgn (neg : Bool) : R2 := fun x y H Q => ∃ (c : Nat) (z : Str), x = .str ⟨#[c]⟩ ∧ y = .str z ∧ Q (.bl (neg ^^ decide (c ∈ z.cps.toList))) H
theorem op_in_sgn : OpR X (compareOp .In) (rSgn false) := fun pins s σ H x y v u Q I rx ry ⟨c, z, e1, e2, q⟩ => op_in_sign pins s σ H x y v u Q I rx ry ⟨c, z, e1, e2, by simpa using q⟩
theorem op_notin_sgn : OpR X (compareOp .NotIn) (rSgn true) := fun pins s σ H x y v u Q I rx ry ⟨c, z, e1, e2, q⟩ => op_notIn_sign pins s σ H x y v u Q I rx ry ⟨c, z, e1, e2, by simpa using q⟩
def rInU (K : PySem.W.Frag) (neg : Bool) : R2 := fun x y H Q => rIn K neg x y H Q ∨ rSgn neg x y H Q ∨ rInDic neg x y H Q
theorem op_inU (hu : X.A.units + 1 < cLine) : OpR X (compareOp .In) (rInU X.K false) := op_in_seq.or (op_in_sgn.or (op_in_dic hu))
theorem op_notInU (hu : X.A.units + 1 < cLine) : OpR X (compareOp .NotIn) (rInU X.K true) := op_notIn_seq.or (op_notin_sgn.or (op_notin_dic hu))
theorem sp_in_seq {neg : Bool} {W : Addr → Prop} {ρ : List Addr} {H : Hp} {x : V} {dx d : D} {ds : List D} {a : Addr} {vs : List V} {Q : VK} (bx : BR G W ρ H x dx) (hs : SqL G.K H a vs ∨ SqT G.K H a vs) (r : Reps G W ρ H vs ds)
    (e : (if (flatD dx && ds.all flatD) = true then some (D.bl (neg ^^ inV (toV dx) (ds.map toV))) else none) = some d) (q : ∀ v H', Ext H H' → Rep G W ρ H' v d → Q v H') : rIn G.K neg x (.ref a) H Q := by
  by_cases h : (flatD dx && ds.all flatD) = true
  · rw [if_pos h] at e
    cases e
    rw [Bool.and_eq_true] at h
    obtain ⟨e1, f1⟩ := flat_br bx h.1
    obtain ⟨e2, f2⟩ := flat_reps r h.2
    refine ⟨a, vs, rfl, hs, f1, f2, ?_⟩
    rw [e1, e2]
    have z := q (.bl (neg ^^ inV (toV dx) (ds.map toV))) H Ext.refl .bl
    cases neg <;> simpa using z
  · rw [if_neg h] at e; cases e
theorem sp_inU {neg : Bool} : Sp2 G (rInU G.K neg) (inD neg) := by
  intro W ρ H x y dx dy d Q tk bx bby e q
  match dy, e with
  | .lst ds, e =>
    obtain ⟨a, vs, rfl, h, r⟩ := br_lst bby
    exact .inl (sp_in_seq bx (.inl (.inl (.inl h))) r (by cases dx <;> exact e) q)
  | .tup ds, e =>
    obtain ⟨a, vs, rfl, h, r, _⟩ := br_tup bby
    exact .inl (sp_in_seq bx (.inr h) r (by cases dx <;> exact e) q)
  | .str z, e =>
    cases dx with
    | str c =>
      obtain rfl := br_str bby
      obtain rfl := br_str bx
      have e : (match c.cps.toList with | [k] => some (D.bl (neg ^^ decide (k ∈ z.cps.toList))) | _ => none) = some d := e
      cases hc : c.cps.toList with
      | nil => rw [hc] at e; cases e
      | cons k r =>
        cases r with
        | cons _ _ => rw [hc] at e; cases e
        | nil =>
          rw [hc] at e
          cases e
          have hc' : c = ⟨#[k]⟩ := by
            cases c with | mk cps =>
            have : cps.toList = [k] := hc
            congr 1
            rw [← Array.toList_inj]
            exact this
          subst hc'
          exact .inr (.inl ⟨k, z, rfl, rfl, q _ _ Ext.refl .bl⟩)
    | _ => cases e
  | .dic kvs, e =>
    obtain ⟨a, vs, rfl, h, k, r⟩ := br_dic bby
    have e : (match keyD dx with | some k => some (D.bl (neg ^^ hasK kvs k)) | none => none) = some d := by cases dx <;> exact e
    cases z : keyD dx with
    | none => rw [z] at e; cases e
    | some j =>
      rw [z] at e
      cases e
      obtain rfl := key_br bx z
      refine .inr (.inr ⟨a, valV vs j, rfl, .inl ⟨vs, j, h, rfl, rfl⟩, ?_⟩)
      have : (valV vs j).isSome = hasK kvs j := by
        rw [has_look]
        rcases look_reps (k := j) k r with ⟨h1, h2⟩ | ⟨_, _, h1, h2, _⟩ <;> rw [h1, h2] <;> rfl
      rw [this]
      exact q _ _ Ext.refl .bl
  | .non, e => cases dx <;> cases e
  | .bl _, e => cases dx <;> cases e
  | .int _, e => cases dx <;> cases e
  | .lck _, e => cases dx <;> cases e
  | .dit _, e => cases dx <;> cases e
  | .obj _ _, e => cases dx <;> cases e
  | .ptr _, e => cases dx <;> cases e

/-! ### equality of data -/
mutual
def toPy : D → Option PyData
  | .non => some .none
  | .bl b => some (.bool b)
  | .int i => some (.int i)
  | .str x => some (.str x)
  | .tup ds => (toPys ds).map .tuple
  | .lst ds => (toPys ds).map .list
  | _ => none
def toPys : List D → Option (List PyData)
  | [] => some []
  | d :: ds => match toPy d, toPys ds with | some p, some ps => some (p :: ps) | _, _ => none
end
mutual
theorem dp_of {W : Addr → Prop} {ρ : List Addr} {H : Hp} : ∀ {v : V} {d : D} {p : PyData}, Rep G W ρ H v d → toPy d = some p → Dp G.K H v p
  | _, _, _, .non, e => by cases e; exact .non
  | _, _, _, .bl, e => by cases e; exact .bl _
  | _, _, _, .int, e => by cases e; exact .int _
  | _, _, _, .str, e => by cases e; exact .str _
  | _, .tup ds, p, .tup h n r, e => by
    unfold toPy at e
    cases z : toPys ds with
    | none => rw [z] at e; cases e
    | some ps => rw [z] at e; cases e; exact .tup (.inl h) (dps_of r z)
  | _, .tup ds, p, .tupK h r, e => by
    unfold toPy at e
    cases z : toPys ds with
    | none => rw [z] at e; cases e
    | some ps => rw [z] at e; cases e; exact .tup (.inr h) (dps_of r z)
  | _, .lst ds, p, .lst h n r, e => by
    unfold toPy at e
    cases z : toPys ds with
    | none => rw [z] at e; cases e
    | some ps => rw [z] at e; cases e; exact .lst (.inl (.inl h)) (dps_of r z)
  | _, _, _, .lck .., e => by cases e
  | _, _, _, .lckK .., e => by cases e
  | _, _, _, .dic .., e => by cases e
  | _, _, _, .dit .., e => by cases e
  | _, _, _, .obj .., e => by cases e
  | _, _, _, .ptr .., e => by cases e
theorem dps_of {W : Addr → Prop} {ρ : List Addr} {H : Hp} : ∀ {vs : List V} {ds : List D} {ps : List PyData}, Reps G W ρ H vs ds → toPys ds = some ps → DpAll G.K H vs ps
  | _, _, _, .nil, e => by cases e; exact .nil
  | _, d :: ds, ps, .cons r t, e => by
    unfold toPys at e
    cases z : toPy d with
    | none => rw [z] at e; cases e
    | some p =>
      cases z2 : toPys ds with
      | none => rw [z, z2] at e; cases e
      | some ps => rw [z, z2] at e; cases e; exact .cons (dp_of r z) (dps_of t z2)
end
def eqD (neg : Bool) (a b : D) : Option D := match toPy a, toPy b with
  | some p, some q => if SeqAt.shaped p && SeqAt.shaped q then some (.bl (neg ^^ PyData.eqv p q)) else none
  | _, _ => none
theorem dp_br {W : Addr → Prop} {ρ : List Addr} {H : Hp} {v : V} {d : D} {p : PyData} (h : BR G W ρ H v d) (e : toPy d = some p) : Dp G.K H v p := by
  rcases h with h | ⟨a, rfl, h⟩
  · exact dp_of h e
  · cases h with
    | @lst vs ds h r =>
      unfold toPy at e
      cases z : toPys ds with
      | none => rw [z] at e; cases e
      | some ps => rw [z] at e; cases e; exact .lst (.inl (.inl h)) (dps_of r z)
    | _ => cases e
theorem sp_eq : Sp2 G (rEqD G.K) (eqD false) := by
  intro W ρ H x y dx dy d Q tk bx bby e q
  unfold eqD at e
  cases z1 : toPy dx with
  | none => rw [z1] at e; cases e
  | some p =>
    cases z2 : toPy dy with
    | none => rw [z1, z2] at e; cases e
    | some p2 =>
      rw [z1, z2] at e
      by_cases h : (SeqAt.shaped p && SeqAt.shaped p2) = true
      · have e : some (D.bl (false ^^ PyData.eqv p p2)) = some d := (if_pos h).symm.trans e
        cases e
        rw [Bool.and_eq_true] at h
        exact ⟨p, p2, dp_br bx z1, dp_br bby z2, h.1, h.2, by have z := q _ _ Ext.refl (Rep.bl (b := false ^^ PyData.eqv p p2)); simpa using z⟩
      · have e : none = some d := (if_neg h).symm.trans e
        cases e
theorem sp_ne : Sp2 G (rNeD G.K) (eqD true) := by
  intro W ρ H x y dx dy d Q tk bx bby e q
  unfold eqD at e
  cases z1 : toPy dx with
  | none => rw [z1] at e; cases e
  | some p =>
    cases z2 : toPy dy with
    | none => rw [z1, z2] at e; cases e
    | some p2 =>
      rw [z1, z2] at e
      by_cases h : (SeqAt.shaped p && SeqAt.shaped p2) = true
      · have e : some (D.bl (true ^^ PyData.eqv p p2)) = some d := (if_pos h).symm.trans e
        cases e
        rw [Bool.and_eq_true] at h
        exact ⟨p, p2, dp_br bx z1, dp_br bby z2, h.1, h.2, by have z := q _ _ Ext.refl (Rep.bl (b := true ^^ PyData.eqv p p2)); simpa using z⟩
      · have e : none = some d := (if_neg h).symm.trans e
        cases e
end
end Mi

namespace Mi
open PySem PySem.Spec PyProof.Rows L2

/-! ### statements -/
inductive Fl where
  | nx | rt (d : D) | bk | ct
/-- the first slots stay -/
def Fx (nf : Nat) (σ σ' : L2.St) : Prop := ∀ i, i < nf → σ'[i]? = σ[i]?
theorem Fx.refl {nf : Nat} {σ : L2.St} : Fx nf σ σ := fun _ _ => rfl
theorem Fx.trans {nf : Nat} {σ σ1 σ2 : L2.St} (a : Fx nf σ σ1) (b : Fx nf σ1 σ2) : Fx nf σ σ2 := fun i h => (b i h).trans (a i h)
theorem Fx.set {nf i : Nat} {σ : L2.St} {x : Option V} (h : nf ≤ i) : Fx nf σ (σ.set i x) := fun j hj => List.getElem?_set_ne (by omega)
def PostS (G : Gc) (X : WX) (nf : Nat) (S0 : Addr → Prop) (ρ : List Addr) (s : S) (σ : L2.St) (H : Hp) (r : Res Fl) (E : Ends) : Prop := match r with
  | .ok f s' => match f with
    | .nx => ∀ σ' H' ρ', Sat G S0 ρ' s' σ' H' → Nx S0 ρ s.e σ H ρ' s'.e σ' H' → Fx nf σ σ' → E.nx σ' H'
    | .bk => ∀ σ' H' ρ', Sat G S0 ρ' s' σ' H' → Nx S0 ρ s.e σ H ρ' s'.e σ' H' → Fx nf σ σ' → E.bk σ' H'
    | .ct => ∀ σ' H' ρ', Sat G S0 ρ' s' σ' H' → Nx S0 ρ s.e σ H ρ' s'.e σ' H' → Fx nf σ σ' → E.ct σ' H'
    | .rt d => ∀ v σ' H' ρ', Sat G S0 ρ' s' σ' H' → Nx S0 ρ s.e σ H ρ' s'.e σ' H' → Fx nf σ σ' → Rep G (Wa S0 ρ' s'.e σ') ρ' H' v d → E.rt v H'
  | .exc x s' => ∀ c dx σ' H' ρ', Sat G S0 ρ' s' σ' H' → Nx S0 ρ s.e σ H ρ' s'.e σ' H' → Fx nf σ σ' → XRep G (Wa S0 ρ' s'.e σ') ρ' H' c dx x → X c dx σ' H'
  | .stuck => False
def EvS (G : Gc) (X : WX) (nf : Nat) (ts : TS) (g : M Fl) : Prop := ∀ S0 ρ s σ H E, Sat G S0 ρ s σ H → PostS G X nf S0 ρ s σ H (g s) E → ts E σ H
structure JS (X : Cx) (ca : Nat → Addr) (W : WX) (nf : Nat) (st : Stmt) (ts : TS) (g : M Fl) : Prop where
  ps : PS X st ts
  ev : EvS ⟨X.K, ca⟩ W nf ts g
structure JB (X : Cx) (ca : Nat → Addr) (W : WX) (nf : Nat) (st : List Stmt) (ts : TS) (g : M Fl) : Prop where
  pss : PSs X st ts
  ev : EvS ⟨X.K, ca⟩ W nf ts g
section
variable {nf : Nat} {G : Gc} {X : WX} {S0 : Addr → Prop} {ρ ρ1 : List Addr} {s s1 : S} {σ σ1 : L2.St} {H H1 : Hp}
theorem PostS.fromS {r : Res Fl} {E : Ends} (h : PostS G X nf S0 ρ s σ H r E) (n : Nx S0 ρ s.e σ H ρ1 s1.e σ1 H1) (f : Fx nf σ σ1) : PostS G X nf S0 ρ1 s1 σ1 H1 r E := by
  cases r with
  | ok fl s' =>
    cases fl with
    | nx => exact fun σ' H' ρ' t n' f' => h σ' H' ρ' t (n.trans n') (f.trans f')
    | bk => exact fun σ' H' ρ' t n' f' => h σ' H' ρ' t (n.trans n') (f.trans f')
    | ct => exact fun σ' H' ρ' t n' f' => h σ' H' ρ' t (n.trans n') (f.trans f')
    | rt d => exact fun v σ' H' ρ' t n' f' q => h v σ' H' ρ' t (n.trans n') (f.trans f') q
  | exc x s' => exact fun c dx σ' H' ρ' t n' f' q => h c dx σ' H' ρ' t (n.trans n') (f.trans f') q
  | stuck => exact h
theorem PostS.from {r : Res Fl} {E : Ends} (h : PostS G X nf S0 ρ s σ H r E) (n : Nx S0 ρ s.e σ H ρ1 s1.e σ H1) : PostS G X nf S0 ρ1 s1 σ H1 r E := h.fromS n .refl
/-- an expression, then the rest of a statement -/
theorem postS_bind {β α : Type} {R1 : RelT β α} {m : Res α} {f : α → M Fl} {Q1 : β → Hp → Prop} {E : Ends} (hp : PostS G X nf S0 ρ s σ H (m.bind f) E)
    (k : ∀ a s1, m = .ok a s1 → ∀ b H1 ρ1, Sat G S0 ρ1 s1 σ H1 → Nx S0 ρ s.e σ H ρ1 s1.e σ H1 → R1 (Wa S0 ρ1 s1.e σ) ρ1 H1 σ b a → PostS G X nf S0 ρ1 s1 σ H1 (f a s1) E → Q1 b H1) : Post G X R1 S0 ρ s σ H m Q1 := by
  cases m with
  | ok a s1 => exact fun b H1 ρ1 t n q => k a s1 rfl b H1 ρ1 t n q (PostS.from hp n)
  | exc x s1 => exact fun c dx H' ρ' t n q => hp c dx σ H' ρ' t n .refl q
  | stuck => exact hp
theorem postS_toVal {l : Loc} {f : D → M Fl} {v : V} {E : Ends} {P : Prop} (t : Sat G S0 ρ s σ H) (r : LRep G (Wa S0 ρ s.e σ) ρ H σ v l) (hp : PostS G X nf S0 ρ s σ H ((toVal l s).bind f) E)
    (k : ∀ d s1, Sat G S0 ρ s1 σ H → Nx S0 ρ s.e σ H ρ s1.e σ H → Rep G (Wa S0 ρ s1.e σ) ρ H v d → PostS G X nf S0 ρ s1 σ H (f d s1) E → P) : P := by
  cases l with
  | val d => exact k d s t .refl r hp
  | own i =>
    have r' : σ[i]? = some (some v) := r
    unfold toVal at hp
    cases e : s.e[i]? with
    | none => simp only [e] at hp; exact hp.elim
    | some sl =>
      cases sl with
      | no => simp only [e] at hp; exact hp.elim
      | val d =>
        simp only [e] at hp
        obtain ⟨v', e1, q⟩ := t.val i d e
        rw [r'] at e1; cases e1
        exact k d s t .refl q hp
      | own d =>
        simp only [e] at hp
        obtain ⟨t1, n1⟩ := t.freeze e
        obtain ⟨v', e1, q⟩ := t1.val i d (by
          have hl : i < s.e.length := (List.getElem?_eq_some_iff.mp e).1
          exact List.getElem?_set_self hl)
        rw [r'] at e1; cases e1
        exact k d _ t1 n1 q (hp.from n1)
theorem PostS.nx {E : Ends} (h : PostS G X nf S0 ρ s σ H (.ok .nx s) E) (t : Sat G S0 ρ s σ H) : E.nx σ H := h σ H ρ t .refl .refl
end
def sNx : M Fl := ret .nx
def sSeq (a b : M Fl) : M Fl := bnd a fun f => match f with | .nx => b | f => ret f
def sExpr (m : M Loc) : M Fl := bnd m fun _ => ret .nx
def sRet (m : M Loc) : M Fl := bnd m fun l => bnd (toVal l) fun d => ret (.rt d)
def sIf (c : M Bool) (a b : M Fl) : M Fl := bnd c fun k => if k = true then a else b
/-- a slot is set -/
def st1 (i : Nat) (d : D) : M Unit := fun s => .ok () ⟨s.e.set i (.val d), s.t⟩
def sSet (i : Nat) (m : M Loc) : M Fl := bnd m fun l => bnd (toVal l) fun d => bnd (st1 i d) fun _ => ret .nx
section
variable {nf : Nat} {X : Cx} {ca : Nat → Addr} {W : WX} {e a b c : Expr} {es : List Expr} {te ta tb tc : TE} {tA : TA} {m ma mb mc : M Loc} {mA : M (List Loc)} {pos p : Pos} {st : Stmt} {rest sa sb : List Stmt} {t u : TS} {g h : M Fl} {tu : TT} {mu : M Bool}
theorem jb_nil : JB X ca W nf [] tNext sNx := ⟨pss_nil, fun S0 ρ s σ H E t hp => PostS.nx hp t⟩
theorem jb_cons (h1 : JS X ca W nf st t g) (h2 : JB X ca W nf rest u h) : JB X ca W nf (st :: rest) (tSeq t u) (sSeq g h) := by
  refine ⟨pss_cons h1.ps h2.pss, fun S0 ρ s σ H E ts hp => ?_⟩
  refine h1.ev _ _ _ _ _ _ ts ?_
  have hp : PostS ⟨X.K, ca⟩ W nf S0 ρ s σ H ((g s).bind fun f => match f with | .nx => h | f => ret f) E := hp
  cases e : g s with
  | ok f s1 =>
    rw [e] at hp
    cases f with
    | nx => exact fun σ1 H1 ρ1 t1 n1 f1 => h2.ev _ _ _ _ _ _ t1 (PostS.fromS (r := h s1) hp n1 f1)
    | bk => exact hp
    | ct => exact hp
    | rt d => exact hp
  | exc x s1 => rw [e] at hp; exact hp
  | stuck => rw [e] at hp; exact hp
theorem jb_one (h1 : JS X ca W nf st t g) : JB X ca W nf [st] t g := ⟨pss_one h1.ps, h1.ev⟩
theorem js_pass : JS X ca W nf (.Pass pos) tNext sNx := ⟨ps_pass, fun S0 ρ s σ H E t hp => PostS.nx hp t⟩
theorem js_break : JS X ca W nf (.Break pos) tBreak (ret .bk) := ⟨ps_break, fun S0 ρ s σ H E t hp => hp σ H ρ t .refl .refl⟩
theorem js_continue : JS X ca W nf (.Continue pos) tCont (ret .ct) := ⟨ps_continue, fun S0 ρ s σ H E t hp => hp σ H ρ t .refl .refl⟩
theorem js_expr (he : JE X ca W e te m) (hs : swapsWith e none pos.line X.env = pure false := by rfl) : JS X ca W nf (.Expr e pos) (tDrop te) (sExpr m) := by
  refine ⟨ps_expr he.pe hs, fun S0 ρ s σ H E t hp => ?_⟩
  exact he.ev _ _ _ _ _ _ t (postS_bind hp fun x s1 _ v H1 ρ1 t1 n1 r1 hp1 => PostS.nx hp1 t1)
theorem js_ret (he : JE X ca W e te m) : JS X ca W nf (.Return (some e) pos) (tRet te) (sRet m) := by
  refine ⟨ps_ret he.pe, fun S0 ρ s σ H E t hp => ?_⟩
  exact he.ev _ _ _ _ _ _ t (postS_bind hp fun x s1 _ v H1 ρ1 t1 n1 r1 hp1 => postS_toVal t1 r1 hp1 fun d s2 t2 n2 r2 hp2 => hp2 v σ H1 ρ1 t2 .refl .refl r2)
theorem js_retN : JS X ca W nf (.Return none pos) tRetN (ret (.rt .non)) := ⟨ps_retN, fun S0 ρ s σ H E t hp => hp .non σ H ρ t .refl .refl .non⟩
theorem js_if (hc : JT X ca W e tu mu) (ha : JB X ca W nf sa t g) (hb : JB X ca W nf sb u h) : JS X ca W nf (.If e sa sb pos) (tIfS tu t u) (sIf mu g h) := by
  refine ⟨ps_if hc.pt ha.pss hb.pss, fun S0 ρ s σ H E t hp => ?_⟩
  refine hc.ev _ _ _ _ _ _ t (postS_bind hp fun x s1 _ v H1 ρ1 t1 n1 r1 hp1 => ?_)
  obtain rfl : x = v := Eq.symm r1
  cases x with
  | true => rw [if_pos rfl]; exact ha.ev _ _ _ _ _ _ t1 hp1
  | false => rw [if_neg Bool.false_ne_true]; exact hb.ev _ _ _ _ _ _ t1 hp1
/-- storing to a slot -/
theorem Sat.set {G : Gc} {S0 : Addr → Prop} {ρ : List Addr} {s : S} {σ : L2.St} {H : Hp} {v : V} {d : D} {i : Nat} (t : Sat G S0 ρ s σ H) (hi : i < σ.length) (r : Rep G (Wa S0 ρ s.e σ) ρ H v d) :
    Sat G S0 ρ ⟨s.e.set i (.val d), s.t⟩ (σ.set i (some v)) H ∧ Nx S0 ρ s.e σ H ρ (s.e.set i (.val d)) (σ.set i (some v)) H := by
  have sub : ∀ a, Wa S0 ρ (s.e.set i (.val d)) (σ.set i (some v)) a → Wa S0 ρ s.e σ a := fun a w => by
    rcases w with w | w | ⟨j, d', e1, e2⟩
    · exact .inl w
    · exact .inr (.inl w)
    · rcases getset e1 with ⟨rfl, z⟩ | ⟨ne, e1⟩
      · cases z
      · rw [List.getElem?_set_ne (Ne.symm ne)] at e2
        exact .inr (.inr ⟨j, d', e1, e2⟩)
  have kp : Kp S0 (Wa S0 ρ s.e σ) H (Wa S0 ρ (s.e.set i (.val d)) (σ.set i (some v))) H := ⟨fun _ _ _ e => e, fun b _ n _ w => n (sub b w), fun _ _ _ e => e⟩
  refine ⟨⟨by simpa using t.len, fun j d' e => ?_, fun j d' e => ?_, fun j k a d1 d2 e1 e2 e3 e4 => ?_, t.rlen, fun n a d' e1 e2 => ?_, t.nd, t.rs, t.s0⟩, kp, List.prefix_refl _⟩
  · rcases getset e with ⟨rfl, z⟩ | ⟨ne, e⟩
    · cases z
      exact ⟨v, List.getElem?_set_self hi, r.mono kp (List.prefix_refl _)⟩
    · obtain ⟨v', e1, r'⟩ := t.val j d' e
      exact ⟨v', by rw [List.getElem?_set_ne (Ne.symm ne)]; exact e1, r'.mono kp (List.prefix_refl _)⟩
  · rcases getset e with ⟨rfl, z⟩ | ⟨ne, e⟩
    · cases z
    · obtain ⟨a, e1, r', n⟩ := t.own j d' e
      exact ⟨a, by rw [List.getElem?_set_ne (Ne.symm ne)]; exact e1, r'.mono kp (List.prefix_refl _) rfl, n⟩
  · rcases getset e1 with ⟨rfl, z⟩ | ⟨n1, e1⟩
    · cases z
    · rcases getset e2 with ⟨rfl, z⟩ | ⟨n2, e2⟩
      · cases z
      · rw [List.getElem?_set_ne (Ne.symm n1)] at e3
        rw [List.getElem?_set_ne (Ne.symm n2)] at e4
        exact t.inj j k a d1 d2 e1 e2 e3 e4
  · exact (t.sto n a d' e1 e2).mono kp (List.prefix_refl _) rfl
/-- targets -/
abbrev TgF := D → S → Option S
def EvG (G : Gc) (nf : Nat) (g : TG) (a : TgF) : Prop := ∀ S0 ρ s σ H v d s' (Q : L2.St → Hp → Prop), Sat G S0 ρ s σ H → Rep G (Wa S0 ρ s.e σ) ρ H v d → a d s = some s' →
  (∀ σ', Sat G S0 ρ s' σ' H → Nx S0 ρ s.e σ H ρ s'.e σ' H → Fx nf σ σ' → Q σ' H) → g v σ H Q
def EvGs (G : Gc) (nf : Nat) (g : TGs) (a : List D → S → Option S) : Prop := ∀ S0 ρ s σ H vs ds s' (Q : L2.St → Hp → Prop), Sat G S0 ρ s σ H → Reps G (Wa S0 ρ s.e σ) ρ H vs ds → a ds s = some s' →
  (∀ σ', Sat G S0 ρ s' σ' H → Nx S0 ρ s.e σ H ρ s'.e σ' H → Fx nf σ σ' → Q σ' H) → g vs σ H Q
structure JG (X : Cx) (ca : Nat → Addr) (nf : Nat) (e : Expr) (g : TG) (a : TgF) : Prop where
  pg : PG X e g
  ev : EvG ⟨X.K, ca⟩ nf g a
structure JGs (X : Cx) (ca : Nat → Addr) (nf : Nat) (es : List Expr) (g : TGs) (a : List D → S → Option S) : Prop where
  pgs : PGs X es g
  ev : EvGs ⟨X.K, ca⟩ nf g a
def gN (i : Nat) : TgF := fun d s => if i < s.e.length then some ⟨s.e.set i (.val d), s.t⟩ else none
theorem ev_name {G : Gc} {i : Nat} (hf : nf ≤ i) : EvG G nf (gName i) (gN i) := by
  intro S0 ρ s σ H v d s' Q t r e hp
  unfold gN at e
  by_cases hi : i < s.e.length
  · rw [if_pos hi] at e
    cases e
    obtain ⟨t1, n1⟩ := t.set (i := i) (by rw [← t.len]; exact hi) r
    exact hp _ t1 n1 (.set hf)
  · rw [if_neg hi] at e; cases e
theorem jg_name {i : Nat} {x : Str} (hN : X.N.Nodup) (hi : X.N[i]? = some x) (hx : L2.Loc X.env.scope x) (hf : X.fn x = true ∨ X.env.scope.names.lookup x = some .local := by first | exact .inl rfl | exact .inr rfl | assumption) (hnf : nf ≤ i := by decide) : JG X ca nf (.Name x pos) (gName i) (gN i) := ⟨pg_name hN hi hx hf, ev_name hnf⟩
def gsN : List D → S → Option S := fun ds s => match ds with | [] => some s | _ => none
def gsC (a : TgF) (b : List D → S → Option S) : List D → S → Option S := fun ds s => match ds with | [] => none | d :: r => (a d s).bind (b r)
def gT (b : List D → S → Option S) (n : Nat) : TgF := fun d s => match d with | .tup ds => if ds.length = n then b ds s else none | _ => none
theorem jgs_nil : JGs X ca nf [] gNil gsN := ⟨pgs_nil, fun S0 ρ s σ H vs ds s' Q t r e hp => by
  cases r with
  | nil => cases e; exact ⟨rfl, hp σ t .refl .refl⟩
  | cons _ _ => cases e⟩
theorem jgs_cons {gg : TG} {gs : TGs} {aa : TgF} {bb : List D → S → Option S} (h1 : JG X ca nf e gg aa) (h2 : JGs X ca nf es gs bb) (hs : (assignEach (e :: es) X.env).map (·.2) = assign e X.env :: (assignEach es X.env).map (·.2) := by rfl) : JGs X ca nf (e :: es) (gCons gg gs) (gsC aa bb) :=
  ⟨pgs_cons h1.pg h2.pgs hs, fun S0 ρ s σ H vs ds s' Q t r e hp => by
    cases r with
    | nil => cases e
    | @cons v d vs ds r rr =>
      have e : (aa d s).bind (bb ds) = some s' := e
      cases z : aa d s with
      | none => rw [z] at e; cases e
      | some s1 =>
        rw [z] at e
        refine ⟨v, vs, rfl, h1.ev _ _ _ _ _ _ _ _ _ t r z fun σ1 t1 n1 f1 => ?_⟩
        exact h2.ev _ _ _ _ _ _ _ _ _ t1 (rr.mono n1.k n1.p) e fun σ2 t2 n2 f2 => hp σ2 t2 (n1.trans n2) (f1.trans f2)⟩
theorem jg_tup {k : Nat} {n : Nat} {gs : TGs} {bb : List D → S → Option S} (hc : X.calm = true) (h : JGs X ca nf es gs bb) (hn : (assignEach es X.env).length = n := by rfl) (hst : (assignEach es X.env).findIdx? (·.1) = none := by rfl) : JG X ca nf (.Tuple es k pos) (gTup X.K n gs) (gT bb n) :=
  ⟨pg_tup hc h.pgs hn hst, fun S0 ρ s σ H v d s' Q t r e hp => by
    cases d with
    | tup ds =>
      have e : (if ds.length = n then bb ds s else none) = some s' := e
      by_cases hl : ds.length = n
      · rw [if_pos hl] at e
        obtain ⟨a, vs, rfl, hs, rr, _⟩ := br_tup (.inl r)
        exact ⟨a, vs, rfl, hs, by rw [rr.length]; exact hl, h.ev _ _ _ _ _ _ _ _ _ t rr e hp⟩
      · rw [if_neg hl] at e; cases e
    | _ => cases e⟩
def sAsg (a : TgF) (m : M Loc) : M Fl := bnd m fun l => bnd (toVal l) fun d => fun s => match a d s with | some s' => .ok .nx s' | none => .stuck
theorem ev_asg {G : Gc} {gg : TG} {aa : TgF} (he : Ev G W (LRep G) te m) (hg : EvG G nf gg aa) : EvS G W nf (tAsg te gg) (sAsg aa m) := by
  intro S0 ρ s σ H E t hp
  refine he _ _ _ _ _ _ t (postS_bind hp fun x s1 _ v H1 ρ1 t1 n1 r1 hp1 => postS_toVal t1 r1 hp1 fun d s2 t2 n2 r2 hp2 => ?_)
  cases e : aa d s2 with
  | none => simp only [e] at hp2; exact hp2.elim
  | some s3 =>
    simp only [e] at hp2
    exact hg S0 ρ1 s2 σ H1 v d s3 _ t2 r2 e fun σ' t3 n3 f3 => hp2 σ' H1 ρ1 t3 n3 f3
theorem js_asg {tg : Expr} {gg : TG} {aa : TgF} (he : JE X ca W e te m) (hg : JG X ca nf tg gg aa) (hs : swapsWithSole [tg] e pos.line X.env = pure false := by rfl) (hw : swappedStores [tg] e X.env = pure none := by rfl)
    (h1 : (assignEach [tg] X.env).map (·.2) = [assign tg X.env] := by rfl) : JS X ca W nf (.Assign [tg] e pos) (tAsg te gg) (sAsg aa m) := ⟨ps_asg he.pe hg.pg hs hw h1, ev_asg he.ev hg.ev⟩
theorem js_set {i : Nat} {x : Str} {pos' : Pos} (hN : X.N.Nodup) (hi : X.N[i]? = some x) (hx : L2.Loc X.env.scope x) (he : JE X ca W e te m) (hs : swapsWith e (some (.Name x pos')) pos.line X.env = pure false := by rfl) (hf : X.fn x = true ∨ X.env.scope.names.lookup x = some .local := by first | exact .inl rfl | exact .inr rfl | assumption)
    (hnf : nf ≤ i := by decide) : JS X ca W nf (.Assign [.Name x pos'] e pos) (tAsg te (gName i)) (sAsg (gN i) m) := ⟨ps_set hN hi hx he.pe hs hf, ev_asg he.ev (ev_name hnf)⟩
end

/-! ### defs -/
section
variable {G : Gc} {S0 : Addr → Prop} {ρ ρ' : List Addr} {s s' : S} {σ σ' : L2.St} {H H' : Hp}
theorem wa_nil {a : Addr} : Wa S0 ρ [] σ a ↔ S0 a ∨ a ∈ ρ := ⟨fun w => by
  rcases w with w | w | ⟨i, d, e, _⟩
  · exact .inl w
  · exact .inr w
  · (cases e), fun w => w.elim .inl fun w => .inr (.inl w)⟩
/-- without the frame -/
theorem Sat.drop (t : Sat G S0 ρ s σ H) : Sat G S0 ρ ⟨[], s.t⟩ [] H ∧ Nx S0 ρ s.e σ H ρ [] [] H := by
  have kp : Kp S0 (Wa S0 ρ s.e σ) H (Wa S0 ρ [] []) H := ⟨fun _ _ _ e => e, fun b _ n _ w => n ((wa_nil.mp w).elim .inl fun w => .inr (.inl w)), fun _ _ _ e => e⟩
  exact ⟨⟨rfl, fun i d e => by (cases e), fun i d e => by (cases e), fun i j a d d' e => by (cases e), t.rlen, fun n a d e1 e2 => (t.sto n a d e1 e2).mono kp (List.prefix_refl _) rfl, t.nd, t.rs, t.s0⟩, kp, List.prefix_refl _⟩
/-- what a callee must not touch -/
def Sc (S0 : Addr → Prop) (e : List Slot) (σ : L2.St) (a : Addr) : Prop := S0 a ∨ ∃ (i : Nat) (d : D), e[i]? = some (.own d) ∧ σ[i]? = some (some (.ref a))
theorem wa_sc {e : List Slot} : Wa (Sc S0 e σ) ρ [] [] = Wa S0 ρ e σ := by
  funext a
  apply propext
  rw [wa_nil]
  constructor
  · rintro ((w | w) | w)
    · exact .inl w
    · exact .inr (.inr w)
    · exact .inr (.inl w)
  · rintro (w | w | w)
    · exact .inl (.inl w)
    · exact .inr w
    · exact .inl (.inr w)
theorem Sat.call (t : Sat G S0 ρ s σ H) : Sat G (Sc S0 s.e σ) ρ ⟨[], s.t⟩ [] H := by
  refine ⟨rfl, fun i d e => by (cases e), fun i d e => by (cases e), fun i j a d d' e => by (cases e), t.rlen, fun n a d e1 e2 => ?_, t.nd, fun a ha w => ?_, fun a w => ?_⟩
  · show ORep G (Wa (Sc S0 s.e σ) ρ [] []) ρ H a d
    rw [wa_sc]; exact t.sto n a d e1 e2
  · rcases w with w | ⟨i, d, e1, e2⟩
    · exact t.rs a ha w
    · obtain ⟨b, e3, _, nb, _⟩ := t.own i d e1
      rw [e2] at e3; cases e3
      exact nb ha
  · rcases w with w | ⟨i, d, e1, e2⟩
    · exact t.s0 a w
    · exact t.there (.inr (.inr ⟨i, d, e1, e2⟩))
theorem Sat.back (t : Sat G S0 ρ s σ H) (t' : Sat G (Sc S0 s.e σ) ρ' ⟨[], s'.t⟩ [] H') (n : Nx (Sc S0 s.e σ) ρ [] [] H ρ' [] [] H') : Sat G S0 ρ' ⟨s.e, s'.t⟩ σ H' ∧ Nx S0 ρ s.e σ H ρ' s.e σ H' := by
  have k := n.k
  rw [wa_sc, wa_sc] at k
  have kp : Kp S0 (Wa S0 ρ s.e σ) H (Wa S0 ρ' s.e σ) H' := ⟨k.keep, k.wn, fun b o w e => k.s0 b o (.inl w) e⟩
  refine ⟨⟨t.len, fun i d e => ?_, fun i d e => ?_, t.inj, t'.rlen, fun m a d e1 e2 => ?_, t'.nd, fun a ha w => t'.rs a ha (.inl w), fun a w => ?_⟩, kp, n.p⟩
  · obtain ⟨v, e1, r⟩ := t.val i d e
    exact ⟨v, e1, r.mono kp n.p⟩
  · obtain ⟨a, e1, r, n1, n2⟩ := t.own i d e
    obtain ⟨o, q⟩ := r.some
    refine ⟨a, e1, r.mono kp n.p ((k.s0 a o (.inr ⟨i, d, e, e1⟩) q).trans q.symm), fun ha => t'.rs a ha (.inr ⟨i, d, e, e1⟩), n2⟩
  · have := t'.sto m a d e1 e2
    have this : ORep G (Wa (Sc S0 s.e σ) ρ' [] []) ρ' H' a d := this
    rw [wa_sc] at this; exact this
  · obtain ⟨o, q⟩ := t.s0 a w
    exact ⟨o, kp.s0 a o w q⟩
end
def PostF (G : Gc) (S0 : Addr → Prop) (ρ : List Addr) (H : Hp) (r : Res D) (Q : VK) (E : XK) : Prop := match r with
  | .ok d s' => ∀ v H' ρ', Sat G S0 ρ' ⟨[], s'.t⟩ [] H' → Nx S0 ρ [] [] H ρ' [] [] H' → Rep G (Wa S0 ρ' [] []) ρ' H' v d → Q v H'
  | .exc x s' => ∀ c dx H' ρ', Sat G S0 ρ' ⟨[], s'.t⟩ [] H' → Nx S0 ρ [] [] H ρ' [] [] H' → XRep G (Wa S0 ρ' [] []) ρ' H' c dx x → E c dx H'
  | .stuck => False
/-- a def that computes g -/
def spM (G : Gc) (n : Nat) (g : List D → M D) : Sp := fun vs H Q E => ∃ S0 ρ t ds, vs.length = n ∧ Sat G S0 ρ ⟨[], t⟩ [] H ∧ Reps G (Wa S0 ρ [] []) ρ H vs ds ∧ PostF G S0 ρ H (g ds ⟨[], t⟩) Q E
def runB (n : Nat) (body : M Fl) (ds : List D) : M D := fun s => match body ⟨ds.map .val ++ List.replicate (n - ds.length) .no, s.t⟩ with
  | .ok (.rt d) s' => .ok d ⟨[], s'.t⟩
  | .ok .nx s' => .ok .non ⟨[], s'.t⟩
  | .exc x s' => .exc x ⟨[], s'.t⟩
  | _ => .stuck
theorem reps_slots {G : Gc} {W : Addr → Prop} {ρ : List Addr} {H : Hp} {vs : List V} {ds : List D} (r : Reps G W ρ H vs ds) (n : Nat) {i : Nat} {d : D} (e : (ds.map Slot.val ++ List.replicate n .no)[i]? = some (.val d)) :
    ∃ v, (vs.map some ++ List.replicate n none)[i]? = some (some v) ∧ Rep G W ρ H v d := by
  by_cases hi : i < ds.length
  · rw [List.getElem?_append_left (by simpa using hi), List.getElem?_map] at e
    cases z : ds[i]? with
    | none => rw [z] at e; cases e
    | some d' =>
      rw [z] at e; cases e
      obtain ⟨v, e1, r1⟩ := r.get z
      exact ⟨v, by rw [List.getElem?_append_left (by rw [List.length_map, r.length]; exact hi), List.getElem?_map, e1]; rfl, r1⟩
  · rw [List.getElem?_append_right (by simpa using hi), List.getElem?_replicate] at e
    split at e <;> cases e
theorem slots_no {ds : List D} {n i : Nat} {d : D} : (ds.map Slot.val ++ List.replicate n .no)[i]? ≠ some (.own d) := fun e => by
  by_cases hi : i < ds.length
  · rw [List.getElem?_append_left (by simpa using hi), List.getElem?_map] at e
    cases z : ds[i]? with
    | none => rw [z] at e; cases e
    | some d' => rw [z] at e; cases e
  · rw [List.getElem?_append_right (by simpa using hi), List.getElem?_replicate] at e
    split at e <;> cases e
section
variable {P : Program} {w : World} {K : PySem.W.Frag} {mg : Str → Option Value} {base : Heap}
theorem fn_mir {ca : Nat → Addr} {x qual : Str} {st : Stmt} {f : Addr} {fd : FuncData} {N ps : List Str} {k : Nat} {body : M Fl} (F : Fun K x qual st f fd) (Sp : FnScope N ps (defScope st))
    (hb : ∀ (cdv : Value) (A : Around) (outer : List PySem.Env) (s : Shared) (H : Hp) (E : XK), Room k (A.deeper (envOfC qual (defScope st) s.heap.objs.size f cdv)) →
      ∃ ts, JB (cxOf (L2.CX P w) P w K mg base N qual (defScope st) f cdv A outer s H E) ca (fun c d _ H => E c d H) 0 (defBody st) ts body) : FnOk P w K mg base (L2.CX P w) (k + 1) f fd ps (spM ⟨K, ca⟩ ps.length (runB N.length body)) := by
  refine F.okX Sp (fun vs H Q E h => ?_) (fun cdv A outer s H vs Q E hr h => ?_)
  · obtain ⟨_, _, _, _, hl, _⟩ := h
    exact hl
  · obtain ⟨S0, ρ, t, ds, hl, ts, r, hp⟩ := h
    obtain ⟨tt, hj⟩ := hb cdv A outer s H E hr
    refine ⟨tt, hj.pss, hj.ev S0 ρ ⟨ds.map .val ++ List.replicate (N.length - ds.length) .no, t⟩ _ H _ ?_ ?_⟩
    · have hw : Wa S0 ρ (ds.map Slot.val ++ List.replicate (N.length - ds.length) .no) (L2.start N vs) = Wa S0 ρ [] [] := by
        funext a
        apply propext
        rw [wa_nil]
        constructor
        · rintro (w | w | ⟨i, d, e, _⟩)
          · exact .inl w
          · exact .inr w
          · exact (slots_no e).elim
        · rintro (w | w)
          · exact .inl w
          · exact .inr (.inl w)
      have hvl := r.length
      refine ⟨by simp [L2.start, hvl], fun i d e => ?_, fun i d e => (slots_no e).elim, fun i j a d d' e => (slots_no e).elim, ts.rlen, fun n a d e1 e2 => ?_, ts.nd, ts.rs, ts.s0⟩
      · show ∃ v, (L2.start N vs)[i]? = some (some v) ∧ Rep _ (Wa S0 ρ (ds.map Slot.val ++ List.replicate (N.length - ds.length) .no) (L2.start N vs)) ρ H v d
        rw [hw]
        unfold L2.start
        rw [hvl]
        exact reps_slots r _ e
      · show ORep _ (Wa S0 ρ (ds.map Slot.val ++ List.replicate (N.length - ds.length) .no) (L2.start N vs)) ρ H a d
        rw [hw]
        exact ts.sto n a d e1 e2
    · have hw : ∀ b, Wa S0 ρ (ds.map Slot.val ++ List.replicate (N.length - ds.length) .no) (L2.start N vs) b → Wa S0 ρ [] [] b := fun a w => by
        rcases w with w | w | ⟨i, d, e, _⟩
        · exact .inl w
        · exact .inr (.inl w)
        · exact (slots_no e).elim
      have n0 : Nx S0 ρ [] [] H ρ (ds.map Slot.val ++ List.replicate (N.length - ds.length) .no) (L2.start N vs) H := ⟨⟨fun _ _ _ e => e, fun b _ n _ w => n (hw b w), fun _ _ _ e => e⟩, List.prefix_refl _⟩
      unfold runB at hp
      generalize body ⟨ds.map .val ++ List.replicate (N.length - ds.length) .no, t⟩ = res at hp
      cases res with
      | stuck => exact hp
      | exc x s' =>
        intro c dx σ' H' ρ' t' n' _ xr
        obtain ⟨t2, n2⟩ := t'.drop
        refine hp c dx H' ρ' t2 ((n0.trans n').trans n2) ⟨xr.1, fun fs hf => ?_⟩
        obtain ⟨a, vs, h1, h2, h3, h4, h5⟩ := xr.2 fs hf
        exact ⟨a, vs, h1, h2, n2.k.wn _ _ h3 h2, h4, h5.mono n2.k n2.p⟩
      | ok fl s' =>
        cases fl with
        | nx =>
          intro σ' H' ρ' t' n' _
          obtain ⟨t2, n2⟩ := t'.drop
          exact hp .non H' ρ' t2 ((n0.trans n').trans n2) .non
        | rt d =>
          intro v σ' H' ρ' t' n' _ rr
          obtain ⟨t2, n2⟩ := t'.drop
          exact hp v H' ρ' t2 ((n0.trans n').trans n2) (rr.mono n2.k n2.p)
        | bk => exact hp.elim
        | ct => exact hp.elim
end
/-- a call -/
def callF (g : List D → M D) (ds : List D) : M Loc := fun s => match g ds ⟨[], s.t⟩ with
  | .ok d s' => .ok (.val d) ⟨s.e, s'.t⟩
  | .exc x s' => .exc x ⟨s.e, s'.t⟩
  | .stuck => .stuck
def eCall (g : List D → M D) (ma : M (List Loc)) : M Loc := bnd ma fun ls => bnd (vals ls) fun ds => callF g ds
section
variable {G : Gc} {X : WX} {S0 : Addr → Prop} {ρ ρ1 : List Addr} {s s1 : S} {σ : L2.St} {H H1 : Hp}
theorem post_vals {β α : Type} {R : RelT β α} : ∀ {ls : List Loc} {vs : List V} {f : List D → M α} {Q2 : β → Hp → Prop} {P : Prop} {s : S}, Sat G S0 ρ s σ H → LReps G (Wa S0 ρ s.e σ) ρ H σ vs ls → Post G X R S0 ρ s σ H ((vals ls s).bind f) Q2 →
    (∀ ds s1, Sat G S0 ρ s1 σ H → Nx S0 ρ s.e σ H ρ s1.e σ H → Reps G (Wa S0 ρ s1.e σ) ρ H vs ds → Post G X R S0 ρ s1 σ H (f ds s1) Q2 → P) → P
  | [], _, f, Q2, P, s, t, .nil, hp, k => k [] s t .refl .nil hp
  | l :: ls, v :: vs, f, Q2, P, s, t, .cons r rr, hp, k => by
    have hp' : Post G X R S0 ρ s σ H ((toVal l s).bind fun d => fun s => (vals ls s).bind fun ds => f (d :: ds)) Q2 := by
      have hp : Post G X R S0 ρ s σ H (((toVal l s).bind fun d => bnd (vals ls) fun ds => ret (d :: ds)).bind f) Q2 := hp
      cases e : toVal l s with
      | ok d s1 =>
        rw [e] at hp
        show Post G X R S0 ρ s σ H ((vals ls s1).bind fun ds => f (d :: ds)) Q2
        have hp2 : Post G X R S0 ρ s σ H (((vals ls s1).bind fun ds => ret (d :: ds)).bind f) Q2 := hp
        cases e2 : vals ls s1 with
        | ok ds s2 => rw [e2] at hp2; exact hp2
        | exc x s2 => rw [e2] at hp2; exact hp2
        | stuck => rw [e2] at hp2; exact hp2
      | exc x s1 => rw [e] at hp; exact hp
      | stuck => rw [e] at hp; exact hp
    exact post_toVal t r hp' fun d s1 t1 n1 r1 hp2 => post_vals (f := fun ds => f (d :: ds)) t1 (LReps.mono rr n1.k n1.p) hp2 fun ds s2 t2 n2 bs hp3 => k (d :: ds) s2 t2 (n1.trans n2) (.cons (r1.mono n2.k n2.p) bs) hp3
/-- what a promise gives its caller -/
theorem call_post {g : List D → M D} {n : Nat} {vs : List V} {ds : List D} {Q : VK} (hn : vs.length = n) (t : Sat G S0 ρ s σ H) (r : Reps G (Wa S0 ρ s.e σ) ρ H vs ds) (hp : Post G X (LRep G) S0 ρ s σ H (callF g ds s) Q) :
    spM G n g vs H Q (fun c dx H' => X c dx σ H') := by
  refine ⟨Sc S0 s.e σ, ρ, s.t, ds, hn, t.call, by rw [wa_sc]; exact r, ?_⟩
  unfold callF at hp
  cases e : g ds ⟨[], s.t⟩ with
  | ok d s' =>
    simp only [e] at hp
    intro v H' ρ' t' n' r'
    obtain ⟨t2, n2⟩ := t.back t' n'
    exact hp v H' ρ' t2 n2 (by rw [wa_sc] at r'; exact r')
  | exc x s' =>
    simp only [e] at hp
    intro c dx H' ρ' t' n' xr
    obtain ⟨t2, n2⟩ := t.back t' n'
    exact hp c dx H' ρ' t2 n2 (by rw [wa_sc] at xr; exact xr)
  | stuck => simp only [e] at hp; exact hp
end
section
variable {X : Cx} {ca : Nat → Addr} {W : WX} {e o : Expr} {es : List Expr} {te to : TE} {tA : TA} {m mo : M Loc} {mA : M (List Loc)} {pos p apos : Pos} {k : Nat} {f : Addr} {fd : FuncData} {ps : List Str} {x : Str} {g : List D → M D}
theorem je_call (F : FnOk X.prog X.w X.K X.mg X.base (L2.CX X.prog X.w) k f fd ps (spM ⟨X.K, ca⟩ ps.length g)) (hr : Room k X.A) (hg : Gl X x) (hm : X.mg x = some (.ref f)) (hk : PySem.W.keepIn X.K (.ref f) = true) (hb : Binds X.K fd ps []) (tk : Takes X W)
    (ha : JA X ca W (e :: es) tA mA) (hn : (e :: es).length = ps.length := by rfl) (hdb : (x == ("__debug__" : Str)) = false := by decide) (he : starEach (e :: es) X.env = (false, eval e X.env) :: starEach es X.env := by rfl) (hpl : (backTo pos (starEach es X.env)).any (·.1) = false := by rfl) :
    JE X ca W (.Call (.Name x p) (e :: es) [] pos) (tCallSD (spM ⟨X.K, ca⟩ ps.length g) [] (fun σ c dx H' => W c dx σ H') tA) (eCall g mA) := by
  refine ⟨pe_callSD F hr hg hm hk hb .nil (fun σ => passAt tk σ) ha.pa hdb he hpl, fun S0 ρ s σ H Q t hp => ?_⟩
  refine ha.ev _ _ _ _ _ _ t (post_bind hp fun ls s1 e1 vs H1 ρ1 t1 n1 r1 hp1 => post_vals t1 r1 hp1 fun ds s2 t2 n2 r2 hp2 => ?_)
  rw [List.append_nil]
  refine call_post ?_ t2 r2 hp2
  rw [← hn, ← ha.len _ _ _ e1]
  exact Paired.length r1
end
end Mi

namespace Mi
open PySem PySem.Spec PyProof.Rows L2

/-! ### new mutable things -/
def S1 (S0 : Addr → Prop) (a : Addr) : Addr → Prop := fun b => S0 b ∨ b = a
section
variable {G : Gc} {X : WX} {S0 : Addr → Prop} {ρ ρ' : List Addr} {s s' : S} {σ σ' : L2.St} {H H' : Hp} {a p : Addr} {d : D} {i : Nat} {e : List Slot}
theorem wa_s1 : Wa (S1 S0 a) ρ e σ p ↔ Wa S0 ρ e σ p ∨ p = a := by
  constructor
  · rintro ((w | w) | w | w)
    · exact .inl (.inl w)
    · exact .inr w
    · exact .inl (.inr (.inl w))
    · exact .inl (.inr (.inr w))
  · rintro ((w | w | w) | w)
    · exact .inl (.inl w)
    · exact .inr (.inl w)
    · exact .inr (.inr w)
    · exact .inl (.inr w)
theorem Sat.laid {o : HO} (t : Sat G S0 ρ s σ H) (n : H p = none) : Sat G (S1 S0 p) ρ s σ (upd H p o) ∧ Kp S0 (Wa S0 ρ s.e σ) H (Wa (S1 S0 p) ρ s.e σ) (upd H p o) ∧ ¬ Wa S0 ρ s.e σ p := by
  have ext : Ext H (upd H p o) := .new n
  have ne : ∀ {b : Addr}, (∃ u, H b = some u) → b ≠ p := fun {b} ⟨u, h⟩ z => by subst z; rw [n] at h; (cases h)
  have kp : Kp S0 (Wa S0 ρ s.e σ) H (Wa (S1 S0 p) ρ s.e σ) (upd H p o) := ⟨fun b u _ h => ext b u h, fun b u nw h w => (wa_s1.mp w).elim nw (ne ⟨u, h⟩), fun b u _ h => ext b u h⟩
  refine ⟨⟨t.len, fun i d e => ?_, fun i d e => ?_, t.inj, t.rlen, fun m a d e1 e2 => ?_, t.nd, fun a ha w => ?_, fun a w => ?_⟩, kp, t.free n⟩
  · obtain ⟨v, e1, r⟩ := t.val i d e
    exact ⟨v, e1, r.mono kp (List.prefix_refl _)⟩
  · obtain ⟨a, e1, r, n1, n2⟩ := t.own i d e
    exact ⟨a, e1, r.mono kp (List.prefix_refl _) (upd_ne (ne r.some)), n1, fun w => w.elim n2 (ne r.some)⟩
  · have r := t.sto m a d e1 e2
    exact r.mono kp (List.prefix_refl _) (upd_ne (ne r.some))
  · rcases w with w | w
    · exact t.rs a ha w
    · exact ne (t.there (.inr (.inl ha))) w
  · rcases w with w | w
    · obtain ⟨u, h⟩ := t.s0 a w
      exact ⟨u, ext a u h⟩
    · subst w; exact ⟨o, upd_same⟩
theorem Sat.unlock (t : Sat G (S1 S0 a) ρ s σ H) : Sat G S0 ρ s σ H ∧ Kp S0 (Wa (S1 S0 a) ρ s.e σ) H (Wa S0 ρ s.e σ) H := by
  have kp : Kp S0 (Wa (S1 S0 a) ρ s.e σ) H (Wa S0 ρ s.e σ) H := ⟨fun _ _ _ h => h, fun b _ n _ w => n (wa_s1.mpr (.inl w)), fun _ _ _ h => h⟩
  exact ⟨⟨t.len, fun i d e => let ⟨v, e1, r⟩ := t.val i d e; ⟨v, e1, r.mono kp (List.prefix_refl _)⟩, fun i d e => let ⟨b, e1, r, n1, n2⟩ := t.own i d e; ⟨b, e1, r.mono kp (List.prefix_refl _) rfl, n1, fun w => n2 (.inl w)⟩,
    t.inj, t.rlen, fun m b d e1 e2 => (t.sto m b d e1 e2).mono kp (List.prefix_refl _) rfl, t.nd, fun b hb w => t.rs b hb (.inl w), fun b w => t.s0 b (.inl w)⟩, kp⟩
/-- a new thing in a slot -/
theorem Sat.setOwn (t : Sat G (S1 S0 a) ρ s σ H) (nw : ¬ Wa S0 ρ s.e σ a) (r : ORep G (Wa (S1 S0 a) ρ s.e σ) ρ H a d) (hi : i < σ.length) :
    Sat G S0 ρ ⟨s.e.set i (.own d), s.t⟩ (σ.set i (some (.ref a))) H ∧ Kp S0 (Wa (S1 S0 a) ρ s.e σ) H (Wa S0 ρ (s.e.set i (.own d)) (σ.set i (some (.ref a)))) H := by
  have sub : ∀ b, Wa S0 ρ (s.e.set i (.own d)) (σ.set i (some (.ref a))) b → Wa (S1 S0 a) ρ s.e σ b := fun b w => by
    rcases w with w | w | ⟨j, d', e1, e2⟩
    · exact .inl (.inl w)
    · exact .inr (.inl w)
    · rcases getset e1 with ⟨rfl, z⟩ | ⟨ne, e1⟩
      · rw [List.getElem?_set_self hi] at e2
        cases e2
        exact .inl (.inr rfl)
      · rw [List.getElem?_set_ne (Ne.symm ne)] at e2
        exact .inr (.inr ⟨j, d', e1, e2⟩)
  have kp : Kp S0 (Wa (S1 S0 a) ρ s.e σ) H (Wa S0 ρ (s.e.set i (.own d)) (σ.set i (some (.ref a)))) H := ⟨fun _ _ _ h => h, fun b _ n _ w => n (sub b w), fun _ _ _ h => h⟩
  have oth : ∀ {j : Nat} {d' : D} {b : Addr}, s.e[j]? = some (.own d') → σ[j]? = some (some (.ref b)) → b ≠ a := fun {j d' b} e1 e2 z => by
    subst z
    exact nw (.inr (.inr ⟨j, d', e1, e2⟩))
  refine ⟨⟨by simpa using t.len, fun j d' e => ?_, fun j d' e => ?_, fun j k b d1 d2 e1 e2 e3 e4 => ?_, t.rlen, fun m b d' e1 e2 => (t.sto m b d' e1 e2).mono kp (List.prefix_refl _) rfl, t.nd, fun b hb w => t.rs b hb (.inl w), fun b w => t.s0 b (.inl w)⟩, kp⟩
  · rcases getset e with ⟨rfl, z⟩ | ⟨ne, e⟩
    · cases z
    · obtain ⟨v, e1, q⟩ := t.val j d' e
      exact ⟨v, by rw [List.getElem?_set_ne (Ne.symm ne)]; exact e1, q.mono kp (List.prefix_refl _)⟩
  · rcases getset e with ⟨rfl, z⟩ | ⟨ne, e⟩
    · cases z
      exact ⟨a, List.getElem?_set_self hi, r.mono kp (List.prefix_refl _) rfl, fun ha => nw (.inr (.inl ha)), fun w => nw (.inl w)⟩
    · obtain ⟨b, e1, q, n1, n2⟩ := t.own j d' e
      exact ⟨b, by rw [List.getElem?_set_ne (Ne.symm ne)]; exact e1, q.mono kp (List.prefix_refl _) rfl, n1, fun w => n2 (.inl w)⟩
  · rcases getset e1 with ⟨hj, z⟩ | ⟨n1, f1⟩
    · rcases getset e2 with ⟨hk, z2⟩ | ⟨n2, f2⟩
      · rw [hj, hk]
      · rw [hj, List.getElem?_set_self hi] at e3
        cases e3
        rw [List.getElem?_set_ne (Ne.symm n2)] at e4
        exact (oth f2 e4 rfl).elim
    · rw [List.getElem?_set_ne (Ne.symm n1)] at e3
      rcases getset e2 with ⟨hk, z2⟩ | ⟨n2, f2⟩
      · rw [hk, List.getElem?_set_self hi] at e4
        cases e4
        exact (oth f1 e3 rfl).elim
      · rw [List.getElem?_set_ne (Ne.symm n2)] at e4
        exact t.inj j k b d1 d2 f1 f2 e3 e4
/-- a new thing in the store -/
theorem Sat.share (t : Sat G (S1 S0 a) ρ s σ H) (nw : ¬ Wa S0 ρ s.e σ a) (r : ORep G (Wa (S1 S0 a) ρ s.e σ) ρ H a d) :
    Sat G S0 (ρ ++ [a]) ⟨s.e, s.t ++ [d]⟩ σ H ∧ Kp S0 (Wa (S1 S0 a) ρ s.e σ) H (Wa S0 (ρ ++ [a]) s.e σ) H ∧ (ρ ++ [a])[s.t.length]? = some a := by
  have sub : ∀ b, Wa S0 (ρ ++ [a]) s.e σ b → Wa (S1 S0 a) ρ s.e σ b := fun b w => by
    rcases w with w | w | w
    · exact .inl (.inl w)
    · rcases List.mem_append.mp w with w | w
      · exact .inr (.inl w)
      · exact .inl (.inr (by simpa using w))
    · exact .inr (.inr w)
  have kp : Kp S0 (Wa (S1 S0 a) ρ s.e σ) H (Wa S0 (ρ ++ [a]) s.e σ) H := ⟨fun _ _ _ h => h, fun b _ n _ w => n (sub b w), fun _ _ _ h => h⟩
  have pr : ρ <+: ρ ++ [a] := List.prefix_append _ _
  have na : a ∉ ρ := fun ha => nw (.inr (.inl ha))
  refine ⟨⟨t.len, fun i d e => let ⟨v, e1, r⟩ := t.val i d e; ⟨v, e1, r.mono kp pr⟩, fun i d' e => ?_, t.inj, by simp [t.rlen], fun m b d' e1 e2 => ?_, ?_, fun b hb w => ?_, fun b w => t.s0 b (.inl w)⟩, kp, by rw [← t.rlen]; simp⟩
  · obtain ⟨b, e1, q, n1, n2⟩ := t.own i d' e
    refine ⟨b, e1, q.mono kp pr rfl, fun hb => ?_, fun w => n2 (.inl w)⟩
    rcases List.mem_append.mp hb with hb | hb
    · exact n1 hb
    · have : b = a := by simpa using hb
      exact n2 (.inr this)
  · by_cases hm : m < ρ.length
    · rw [List.getElem?_append_left hm] at e1
      have e2 : (s.t ++ [d])[m]? = some d' := e2
      rw [List.getElem?_append_left (by rw [← t.rlen]; exact hm)] at e2
      exact (t.sto m b d' e1 e2).mono kp pr rfl
    · have e2 : (s.t ++ [d])[m]? = some d' := e2
      have hm2 : m = ρ.length := by
        have := (List.getElem?_eq_some_iff.mp e1).1
        rw [List.length_append, List.length_singleton] at this
        omega
      subst hm2
      rw [List.getElem?_append_right (Nat.le_refl _)] at e1
      simp at e1
      subst e1
      rw [t.rlen, List.getElem?_append_right (Nat.le_refl _)] at e2
      simp at e2
      subst e2
      exact r.mono kp pr rfl
  · rw [List.nodup_append]
    refine ⟨t.nd, by simp, fun x hx y hy z => ?_⟩
    have : y = a := by simpa using hy
    subst this; subst z
    exact na hx
  · rcases List.mem_append.mp hb with hb | hb
    · exact t.rs b hb (.inl w)
    · have : b = a := by simpa using hb
      subst this
      exact nw (.inl w)
end
def PostN (G : Gc) (X : WX) (S0 : Addr → Prop) (ρ : List Addr) (s : S) (σ : L2.St) (H : Hp) (r : Res D) (Q : VK) : Prop := match r with
  | .ok d s' => ∀ a H' ρ', Sat G (S1 S0 a) ρ' s' σ H' → Kp S0 (Wa S0 ρ s.e σ) H (Wa (S1 S0 a) ρ' s'.e σ) H' → ρ <+: ρ' → ¬ Wa S0 ρ' s'.e σ a → ORep G (Wa (S1 S0 a) ρ' s'.e σ) ρ' H' a d → Q (.ref a) H'
  | .exc x s' => ∀ c dx H' ρ', Sat G S0 ρ' s' σ H' → Nx S0 ρ s.e σ H ρ' s'.e σ H' → XRep G (Wa S0 ρ' s'.e σ) ρ' H' c dx x → X c dx σ H'
  | .stuck => False
def EvN (G : Gc) (X : WX) (te : TE) (m : M D) : Prop := ∀ S0 ρ s σ H Q, Sat G S0 ρ s σ H → PostN G X S0 ρ s σ H (m s) Q → te σ H Q
structure JN (X : Cx) (ca : Nat → Addr) (W : WX) (e : Expr) (te : TE) (m : M D) : Prop where
  pe : PE X e te
  ev : EvN ⟨X.K, ca⟩ W te m
section
variable {G : Gc} {X : WX} {S0 : Addr → Prop} {ρ ρ1 : List Addr} {s s1 : S} {σ : L2.St} {H H1 : Hp}
theorem PostN.from {r : Res D} {Q : VK} (h : PostN G X S0 ρ s σ H r Q) (n : Nx S0 ρ s.e σ H ρ1 s1.e σ H1) : PostN G X S0 ρ1 s1 σ H1 r Q := by
  cases r with
  | ok a s' => exact fun a H' ρ' t k p => h a H' ρ' t (n.k.trans k) (n.p.trans p)
  | exc x s' => exact fun c dx H' ρ' t n' q => h c dx H' ρ' t (n.trans n') q
  | stuck => exact h
end
/-- a family of wishes over results, by the state -/
structure Ws (G : Gc) (X : WX) (S0 : Addr → Prop) (σ : L2.St) (γ : Type) where
  pp : List Addr → S → Hp → Res γ → Prop
  fr : ∀ {ρ ρ1 : List Addr} {s s1 : S} {H H1 : Hp} {r : Res γ}, pp ρ s H r → Nx S0 ρ s.e σ H ρ1 s1.e σ H1 → pp ρ1 s1 H1 r
  ex : ∀ {ρ : List Addr} {s s' : S} {H : Hp} {x : Xn}, pp ρ s H (.exc x s') → ∀ c dx H' ρ', Sat G S0 ρ' s' σ H' → Nx S0 ρ s.e σ H ρ' s'.e σ H' → XRep G (Wa S0 ρ' s'.e σ) ρ' H' c dx x → X c dx σ H'
  sk : ∀ {ρ : List Addr} {s : S} {H : Hp}, ¬ pp ρ s H .stuck
def wE {β α : Type} {G : Gc} {X : WX} {S0 : Addr → Prop} {σ : L2.St} (R : RelT β α) (Q : β → Hp → Prop) : Ws G X S0 σ α := ⟨fun ρ s H r => Post G X R S0 ρ s σ H r Q, Post.from, fun h => h, fun h => h⟩
def wS {nf : Nat} {G : Gc} {X : WX} {S0 : Addr → Prop} {σ : L2.St} (E : Ends) : Ws G X S0 σ Fl := ⟨fun ρ s H r => PostS G X nf S0 ρ s σ H r E, PostS.from, fun h c dx H' ρ' t n => h c dx σ H' ρ' t n .refl, fun h => h⟩
def wN {G : Gc} {X : WX} {S0 : Addr → Prop} {σ : L2.St} (Q : VK) : Ws G X S0 σ D := ⟨fun ρ s H r => PostN G X S0 ρ s σ H r Q, PostN.from, fun h => h, fun h => h⟩
section
variable {G : Gc} {X : WX} {S0 : Addr → Prop} {ρ ρ1 : List Addr} {s s1 : S} {σ : L2.St} {H H1 : Hp} {γ : Type} {α : Type} (w : Ws G X S0 σ γ)
theorem Ws.bind {β : Type} {R1 : RelT β α} {m : Res α} {f : α → M γ} {Q1 : β → Hp → Prop} (hp : w.pp ρ s H (m.bind f))
    (k : ∀ a s1, m = .ok a s1 → ∀ b H1 ρ1, Sat G S0 ρ1 s1 σ H1 → Nx S0 ρ s.e σ H ρ1 s1.e σ H1 → R1 (Wa S0 ρ1 s1.e σ) ρ1 H1 σ b a → w.pp ρ1 s1 H1 (f a s1) → Q1 b H1) : Post G X R1 S0 ρ s σ H m Q1 := by
  cases m with
  | ok a s1 => exact fun b H1 ρ1 t n q => k a s1 rfl b H1 ρ1 t n q (w.fr hp n)
  | exc x s1 => exact w.ex hp
  | stuck => exact w.sk hp
theorem Ws.toVal {l : Loc} {f : D → M γ} {v : V} {P : Prop} (t : Sat G S0 ρ s σ H) (r : LRep G (Wa S0 ρ s.e σ) ρ H σ v l) (hp : w.pp ρ s H ((toVal l s).bind f))
    (k : ∀ d s1, Sat G S0 ρ s1 σ H → Nx S0 ρ s.e σ H ρ s1.e σ H → Rep G (Wa S0 ρ s1.e σ) ρ H v d → w.pp ρ s1 H (f d s1) → P) : P := by
  cases l with
  | val d => exact k d s t .refl r hp
  | own i =>
    have r' : σ[i]? = some (some v) := r
    unfold Mi.toVal at hp
    cases e : s.e[i]? with
    | none => simp only [e] at hp; exact (w.sk hp).elim
    | some sl =>
      cases sl with
      | no => simp only [e] at hp; exact (w.sk hp).elim
      | val d =>
        simp only [e] at hp
        obtain ⟨v', e1, q⟩ := t.val i d e
        rw [r'] at e1; cases e1
        exact k d s t .refl q hp
      | own d =>
        simp only [e] at hp
        obtain ⟨t1, n1⟩ := t.freeze e
        obtain ⟨v', e1, q⟩ := t1.val i d (List.getElem?_set_self (List.getElem?_eq_some_iff.mp e).1)
        rw [r'] at e1; cases e1
        exact k d _ t1 n1 q (w.fr hp n1)
theorem Ws.cont {l : Loc} {f : D → M γ} {v : V} {P : Prop} (t : Sat G S0 ρ s σ H) (r : LRep G (Wa S0 ρ s.e σ) ρ H σ v l) (hp : w.pp ρ s H ((cont l s).bind f))
    (k : ∀ d, (Rep G (Wa S0 ρ s.e σ) ρ H v d ∨ ∃ a, v = .ref a ∧ ORep G (Wa S0 ρ s.e σ) ρ H a d) → cont l s = .ok d s → w.pp ρ s H (f d s) → P) : P := by
  cases l with
  | val d =>
    cases d with
    | ptr n =>
      cases e : s.t[n]? with
      | none =>
        have c : Mi.cont (.val (.ptr n)) s = .stuck := by simp only [Mi.cont, e]
        rw [c] at hp; exact (w.sk hp).elim
      | some d =>
        have c : Mi.cont (.val (.ptr n)) s = .ok d s := by simp only [Mi.cont, e]
        rw [c] at hp
        have r' : Rep G (Wa S0 ρ s.e σ) ρ H v (.ptr n) := r
        cases r' with
        | ptr h => exact k d (.inr ⟨_, rfl, t.sto n _ d h e⟩) c hp
    | _ => exact k _ (.inl r) rfl hp
  | own i =>
    have r' : σ[i]? = some (some v) := r
    cases e : s.e[i]? with
    | none =>
      have c : Mi.cont (.own i) s = .stuck := by simp only [Mi.cont, e]
      rw [c] at hp; exact (w.sk hp).elim
    | some sl =>
      cases sl with
      | no =>
        have c : Mi.cont (.own i) s = .stuck := by simp only [Mi.cont, e]
        rw [c] at hp; exact (w.sk hp).elim
      | val d =>
        have c : Mi.cont (.own i) s = .stuck := by simp only [Mi.cont, e]
        rw [c] at hp; exact (w.sk hp).elim
      | own d =>
        have c : Mi.cont (.own i) s = .ok d s := by simp only [Mi.cont, e]
        rw [c] at hp
        obtain ⟨a, e1, q, _⟩ := t.own i d e
        rw [r'] at e1; cases e1
        exact k d (.inr ⟨a, rfl, q⟩) c hp
theorem bind_assoc {β γ : Type} {r : Res α} {f : α → M β} {g : β → M γ} : (r.bind f).bind g = r.bind fun a => bnd (f a) g := by
  cases r <;> rfl
theorem Ws.conts : ∀ {ls : List Loc} {vs : List V} {f : List D → M γ} {P : Prop}, Sat G S0 ρ s σ H → LReps G (Wa S0 ρ s.e σ) ρ H σ vs ls → w.pp ρ s H ((conts ls s).bind f) →
    (∀ ds, BRs G (Wa S0 ρ s.e σ) ρ H vs ds → w.pp ρ s H (f ds s) → P) → P
  | [], _, f, P, t, .nil, hp, k => k [] .nil hp
  | l :: ls, v :: vs, f, P, t, .cons r rr, hp, k => by
    have hp' : w.pp ρ s H ((Mi.cont l s).bind fun d => bnd (bnd (Mi.conts ls) fun ds => ret (d :: ds)) f) := by
      have hp : w.pp ρ s H (((Mi.cont l s).bind fun d => bnd (Mi.conts ls) fun ds => ret (d :: ds)).bind f) := hp
      rw [bind_assoc] at hp; exact hp
    refine w.cont t r hp' fun d b _ hp2 => ?_
    have hp2 : w.pp ρ s H (((Mi.conts ls s).bind fun ds => ret (d :: ds)).bind f) := hp2
    rw [bind_assoc] at hp2
    exact Ws.conts (f := fun ds => bnd (ret (d :: ds)) f) t rr hp2 fun ds bs hp3 => k (d :: ds) (.cons b bs) hp3
theorem Ws.vals : ∀ {ls : List Loc} {vs : List V} {f : List D → M γ} {P : Prop} {s : S}, Sat G S0 ρ s σ H → LReps G (Wa S0 ρ s.e σ) ρ H σ vs ls → w.pp ρ s H ((vals ls s).bind f) →
    (∀ ds s1, Sat G S0 ρ s1 σ H → Nx S0 ρ s.e σ H ρ s1.e σ H → Reps G (Wa S0 ρ s1.e σ) ρ H vs ds → w.pp ρ s1 H (f ds s1) → P) → P
  | [], _, f, P, s, t, .nil, hp, k => k [] s t .refl .nil hp
  | l :: ls, v :: vs, f, P, s, t, .cons r rr, hp, k => by
    have hp' : w.pp ρ s H ((Mi.toVal l s).bind fun d => bnd (bnd (Mi.vals ls) fun ds => ret (d :: ds)) f) := by
      have hp : w.pp ρ s H (((Mi.toVal l s).bind fun d => bnd (Mi.vals ls) fun ds => ret (d :: ds)).bind f) := hp
      rw [bind_assoc] at hp; exact hp
    refine w.toVal t r hp' fun d s1 t1 n1 r1 hp2 => ?_
    have hp2 : w.pp ρ s1 H (((Mi.vals ls s1).bind fun ds => ret (d :: ds)).bind f) := hp2
    rw [bind_assoc] at hp2
    exact Ws.vals (f := fun ds => bnd (ret (d :: ds)) f) t1 (LReps.mono rr n1.k n1.p) hp2 fun ds s2 t2 n2 bs hp3 => k (d :: ds) s2 t2 (n1.trans n2) (.cons (r1.mono n2.k n2.p) bs) hp3
end
/-- frozen at once | kept in a slot | put into the store -/
def eFrz (m : M D) : M Loc := bnd m fun d => ret (.val d)
def ePtr (m : M D) : M Loc := bnd m fun d => fun s => .ok (.val (.ptr s.t.length)) ⟨s.e, s.t ++ [d]⟩
def sOwn (i : Nat) (m : M D) : M Fl := bnd m fun d => fun s => if i < s.e.length then .ok .nx ⟨s.e.set i (.own d), s.t⟩ else .stuck
section
variable {G : Gc} {X : Cx} {ca : Nat → Addr} {W : WX} {e : Expr} {es : List Expr} {te : TE} {tA : TA} {m : M D} {mA : M (List Loc)} {pos p : Pos}
theorem ev_frz (h : EvN G W te m) : Ev G W (LRep G) te (eFrz m) := by
  intro S0 ρ s σ H Q t hp
  refine h _ _ _ _ _ _ t ?_
  have hp : Post G W (LRep G) S0 ρ s σ H ((m s).bind fun d => ret (.val d)) Q := hp
  cases z : m s with
  | stuck => rw [z] at hp; exact hp
  | exc x s1 => rw [z] at hp; exact hp
  | ok d s1 =>
    rw [z] at hp
    intro a H' ρ' t1 k p nw r
    obtain ⟨t2, k2⟩ := t1.unlock
    exact hp _ _ _ t2 ⟨⟨(k.trans ⟨k2.keep, k2.wn, fun b o w e => k2.s0 b o w e⟩).keep, (k.trans ⟨k2.keep, k2.wn, fun b o w e => k2.s0 b o w e⟩).wn, k.s0⟩, p⟩ ((r.mono k2 (List.prefix_refl _) rfl).rep nw)
theorem ev_ptr (h : EvN G W te m) : Ev G W (LRep G) te (ePtr m) := by
  intro S0 ρ s σ H Q t hp
  refine h _ _ _ _ _ _ t ?_
  have hp : Post G W (LRep G) S0 ρ s σ H ((m s).bind fun d => fun s => .ok (.val (.ptr s.t.length)) ⟨s.e, s.t ++ [d]⟩) Q := hp
  cases z : m s with
  | stuck => rw [z] at hp; exact hp
  | exc x s1 => rw [z] at hp; exact hp
  | ok d s1 =>
    rw [z] at hp
    intro a H' ρ' t1 k p nw r
    obtain ⟨t2, k2, e2⟩ := t1.share nw r
    exact hp _ _ _ t2 ⟨k.trans k2, p.trans (List.prefix_append _ _)⟩ (.ptr e2)
theorem ev_own {nf i : Nat} (hf : nf ≤ i) (h : EvN G W te m) : EvS G W nf (tAsg te (gName i)) (sOwn i m) := by
  intro S0 ρ s σ H E t hp
  refine h _ _ _ _ _ _ t ?_
  have hp : PostS G W nf S0 ρ s σ H ((m s).bind fun d => fun s => if i < s.e.length then .ok .nx ⟨s.e.set i (.own d), s.t⟩ else .stuck) E := hp
  cases z : m s with
  | stuck => rw [z] at hp; exact hp
  | exc x s1 => rw [z] at hp; exact fun c dx H' ρ' t n q => hp c dx σ H' ρ' t n .refl q
  | ok d s1 =>
    rw [z] at hp
    intro a H' ρ' t1 k p nw r
    have hp : PostS G W nf S0 ρ s σ H (if i < s1.e.length then .ok .nx ⟨s1.e.set i (.own d), s1.t⟩ else .stuck) E := hp
    by_cases hi : i < s1.e.length
    · rw [if_pos hi] at hp
      obtain ⟨t2, k2⟩ := t1.setOwn (i := i) nw r (by rw [← t1.len]; exact hi)
      exact hp _ _ _ t2 ⟨k.trans k2, p⟩ (.set hf)
    · rw [if_neg hi] at hp; exact hp.elim
theorem JN.frz (h : JN X ca W e te m) : JE X ca W e te (eFrz m) := ⟨h.pe, ev_frz h.ev⟩
theorem JN.ptr (h : JN X ca W e te m) : JE X ca W e te (ePtr m) := ⟨h.pe, ev_ptr h.ev⟩
theorem js_own {nf i : Nat} {x : Str} {pos' : Pos} (hN : X.N.Nodup) (hi : X.N[i]? = some x) (hx : L2.Loc X.env.scope x) (he : JN X ca W e te m) (hs : swapsWith e (some (.Name x pos')) pos.line X.env = pure false := by rfl) (hf : X.fn x = true ∨ X.env.scope.names.lookup x = some .local := by first | exact .inl rfl | exact .inr rfl | assumption)
    (hnf : nf ≤ i := by decide) : JS X ca W nf (.Assign [.Name x pos'] e pos) (tAsg te (gName i)) (sOwn i m) := ⟨ps_set hN hi hx he.pe hs hf, ev_own hnf he.ev⟩

/-! displays -/
def nLst (ma : M (List Loc)) : M D := bnd ma fun ls => bnd (vals ls) fun ds => fun s => if ds.length ≤ lim then .ok (.lst ds) s else .stuck
theorem laid_lst {G : Gc} {X : WX} {S0 : Addr → Prop} {ρ : List Addr} {s : S} {σ : L2.St} {H : Hp} {vs : List V} {ds : List D} {Q : VK} {p : Addr} (t : Sat G S0 ρ s σ H) (r : Reps G (Wa S0 ρ s.e σ) ρ H vs ds) (hp : PostN G X S0 ρ s σ H (.ok (.lst ds) s) Q) (n : H p = none) :
    Q (.ref p) (upd H p (.lst vs)) := by
  obtain ⟨t1, k1, nw⟩ := t.laid (o := .lst vs) n
  exact hp p _ ρ t1 k1 (List.prefix_refl _) nw (.lst upd_same (r.mono k1 (List.prefix_refl _)))
theorem jn_lst (ha : JA X ca W es tA mA) : JN X ca W (.List es pos) (tLst tA) (nLst mA) := by
  refine ⟨pe_lst ha.pa, fun S0 ρ s σ H Q t hp => ?_⟩
  refine ha.ev _ _ _ _ _ _ t ((wN Q).bind hp fun ls s1 _ vs H1 ρ1 t1 n1 r1 hp1 => (wN Q).vals t1 r1 hp1 fun ds s2 t2 n2 r2 hp2 => ?_)
  have hp2 : PostN ⟨X.K, ca⟩ W S0 ρ1 s2 σ H1 (if ds.length ≤ lim then .ok (.lst ds) s2 else .stuck) Q := hp2
  by_cases hl : ds.length ≤ lim
  · rw [if_pos hl] at hp2
    exact ⟨lim_line (by rw [r2.length]; exact hl), fun p n => laid_lst t2 r2 hp2 n⟩
  · rw [if_neg hl] at hp2; exact hp2.elim
def eTup (ma : M (List Loc)) : M Loc := bnd ma fun ls => bnd (vals ls) fun ds => fun s => if ds.length ≤ lim then .ok (.val (.tup ds)) s else .stuck
theorem je_tup {k : Nat} (ha : JA X ca W es tA mA) : JE X ca W (.Tuple es k pos) (tTup tA) (eTup mA) := by
  refine ⟨pe_tup ha.pa, fun S0 ρ s σ H Q t hp => ?_⟩
  refine ha.ev _ _ _ _ _ _ t (post_bind hp fun ls s1 _ vs H1 ρ1 t1 n1 r1 hp1 => post_vals t1 r1 hp1 fun ds s2 t2 n2 r2 hp2 => ?_)
  have hp2 : Post ⟨X.K, ca⟩ W (LRep ⟨X.K, ca⟩) S0 ρ1 s2 σ H1 (if ds.length ≤ lim then .ok (.val (.tup ds)) s2 else .stuck) Q := hp2
  by_cases hl : ds.length ≤ lim
  · rw [if_pos hl] at hp2
    exact ⟨lim_line (by rw [r2.length]; exact hl), fun p n => hp2 _ _ ρ1 (t2.grow (Ext.new n)).1 ⟨(t2.grow (Ext.new n)).2, List.prefix_refl _⟩ (new_tup t2.tk n r2)⟩
  · rw [if_neg hl] at hp2; exact hp2.elim
theorem jn_dicK : JN X ca W (.Dict [] [] pos) tDNewK (ret (.dic [])) := ⟨pe_dnewK, fun S0 ρ s σ H Q t hp p n => by
  obtain ⟨t1, k1, nw⟩ := t.laid (o := .dK []) n
  exact hp p _ ρ t1 k1 (List.prefix_refl _) nw (.dic upd_same rfl .nil)⟩
theorem jn_dicT : JN X ca W (.Dict [] [] pos) tDNewT (ret (.dit [])) := ⟨pe_dnewT, fun S0 ρ s σ H Q t hp p n => by
  obtain ⟨t1, k1, nw⟩ := t.laid (o := .dT []) n
  exact hp p _ ρ t1 k1 (List.prefix_refl _) nw (.dit upd_same rfl .nil)⟩
/-- built-ins that hand back a new list -/
def SpCN (G : Gc) (r : List V → Hp → VK → Prop) (f : List D → Option (List D)) : Prop := ∀ (W : Addr → Prop) (ρ : List Addr) (H : Hp) (xs : List V) (ds es : List D) (Q : VK), Tk W H → BRs G W ρ H xs ds → f ds = some es →
  (∀ p vs, H p = none → Reps G W ρ H vs es → Q (.ref p) (upd H p (.lst vs))) → r xs H Q
def nC (f : List D → Option (List D)) (ma : M (List Loc)) : M D := bnd ma fun ls => bnd (conts ls) fun ds => fun s => match f ds with | some es => .ok (.lst es) s | none => .stuck
theorem ev_nC {r : List V → Hp → VK → Prop} {f : List D → Option (List D)} (sp : SpCN G r f) (ha : Ev G W (LReps G) tA mA) : EvN G W (tCB r tA) (nC f mA) := by
  intro S0 ρ s σ H Q t hp
  refine ha _ _ _ _ _ _ t ((wN Q).bind hp fun ls s1 _ vs H1 ρ1 t1 n1 r1 hp1 => (wN Q).conts t1 r1 hp1 fun ds bs hp2 => ?_)
  cases e : f ds with
  | none => simp only [e] at hp2; exact hp2.elim
  | some es =>
    simp only [e] at hp2
    exact sp _ _ _ _ _ _ _ t1.tk bs e fun p us n r => laid_lst (X := W) t1 r hp2 n
theorem jn_callTy {x : Str} {T : String} {r : List V → Hp → VK → Prop} {f : List D → Option (List D)} (hc : CallR X (.type T) r) (sp : SpCN ⟨X.K, ca⟩ r f) (hg : Gl X x) (hm : X.mg x = none) (hv : bootBuiltins x = some (.type T)) (ha : JA X ca W (e :: es) tA mA) (hn : x ≠ "__name__" := by decide) (hdb : (x == ("__debug__" : Str)) = false := by decide)
    (he : starEach (e :: es) X.env = (false, eval e X.env) :: starEach es X.env := by rfl) (hpl : (backTo pos (starEach es X.env)).any (·.1) = false := by rfl) : JN X ca W (.Call (.Name x p) (e :: es) [] pos) (tCB r tA) (nC f mA) :=
  ⟨pe_callTy hc hg hm hv ha.pa hn hdb he hpl, ev_nC sp ha.ev⟩
theorem jn_callB {x : Str} {T : String} {r : List V → Hp → VK → Prop} {f : List D → Option (List D)} (hc : CallR X (.builtin T) r) (sp : SpCN ⟨X.K, ca⟩ r f) (hg : Gl X x) (hm : X.mg x = none) (hv : bootBuiltins x = some (.builtin T)) (ha : JA X ca W (e :: es) tA mA) (hn : x ≠ "__name__" := by decide) (hdb : (x == ("__debug__" : Str)) = false := by decide)
    (he : starEach (e :: es) X.env = (false, eval e X.env) :: starEach es X.env := by rfl) (hpl : (backTo pos (starEach es X.env)).any (·.1) = false := by rfl) : JN X ca W (.Call (.Name x p) (e :: es) [] pos) (tCB r tA) (nC f mA) :=
  ⟨pe_callB hc hg hm hv ha.pa hn hdb he hpl, ev_nC sp ha.ev⟩
def listD : List D → Option (List D)
  | [.lst ds] => some ds
  | [.lck ds] => some ds
  | [.tup ds] => some ds
  | _ => none
theorem sp_list : SpCN G (fun xs H Q => ∃ p ys, xs = [.ref p] ∧ (SqL G.K H p ys ∨ SqT G.K H p ys) ∧ ∀ l, H l = none → Q (.ref l) (upd H l (.lst ys))) listD := by
  intro W ρ H xs ds es Q tk b e q
  match ds, e with
  | [.lst ds], e => obtain ⟨x, rfl, b1⟩ := brs1 b; obtain ⟨a, vs, rfl, h, r⟩ := br_lst b1; cases e; exact ⟨a, vs, rfl, .inl (.inl (.inl h)), fun l n => q l vs n r⟩
  | [.lck ds], e => obtain ⟨x, rfl, b1⟩ := brs1 b; obtain ⟨a, vs, rfl, h, r⟩ := br_lck b1; cases e; exact ⟨a, vs, rfl, .inl h, fun l n => q l vs n r⟩
  | [.tup ds], e => obtain ⟨x, rfl, b1⟩ := brs1 b; obtain ⟨a, vs, rfl, h, r, _⟩ := br_tup b1; cases e; exact ⟨a, vs, rfl, .inr h, fun l n => q l vs n r⟩
def tupleD : List D → Option D
  | [.lst ds] => some (.tup ds)
  | [.lck ds] => some (.tup ds)
  | [.tup ds] => some (.tup ds)
  | _ => none
theorem sp_tuple : SpC G (fun xs H Q => ∃ p ys, xs = [.ref p] ∧ ((SqL G.K H p ys ∧ ∀ l, H l = none → Q (.ref l) (upd H l (.tup ys))) ∨ (SqT G.K H p ys ∧ Q (.ref p) H))) tupleD := by
  intro W ρ H xs ds d Q tk b e q
  match ds, e with
  | [.lst ds], e => obtain ⟨x, rfl, b1⟩ := brs1 b; obtain ⟨a, vs, rfl, h, r⟩ := br_lst b1; cases e; exact ⟨a, vs, rfl, .inl ⟨.inl (.inl h), fun l n => q _ _ (.new n) (new_tup tk n r)⟩⟩
  | [.lck ds], e => obtain ⟨x, rfl, b1⟩ := brs1 b; obtain ⟨a, vs, rfl, h, r⟩ := br_lck b1; cases e; exact ⟨a, vs, rfl, .inl ⟨h, fun l n => q _ _ (.new n) (new_tup tk n r)⟩⟩
  | [.tup ds], e => obtain ⟨x, rfl, b1⟩ := brs1 b; obtain ⟨a, vs, rfl, h, r, z⟩ := br_tup b1; cases e; exact ⟨a, vs, rfl, .inr ⟨h, q _ _ .refl z⟩⟩
/-- int(n), abs(n), sum(ns) -/
def intD : List D → Option D
  | [.int i] => some (.int i)
  | [.bl k] => some (.int (if k then 1 else 0))
  | _ => none
theorem sp_int : SpC G (fun xs H Q => (∃ i, xs = [.int i] ∧ Q (.int i) H) ∨ ∃ k, xs = [.bl k] ∧ Q (.int (if k then 1 else 0)) H) intD := by
  intro W ρ H xs ds d Q tk b e q
  match ds, e with
  | [.int i], e => obtain ⟨x, rfl, b1⟩ := brs1 b; obtain rfl := br_int b1; cases e; exact .inl ⟨i, rfl, q _ _ .refl .int⟩
  | [.bl i], e => obtain ⟨x, rfl, b1⟩ := brs1 b; obtain rfl := br_bl b1; cases e; exact .inr ⟨i, rfl, q _ _ .refl .int⟩
def absD : List D → Option D
  | [.int i] => some (.int (if i < 0 then -i else i))
  | _ => none
theorem sp_abs : SpC G (fun xs H Q => ∃ i, xs = [.int i] ∧ Q (.int (if i < 0 then -i else i)) H) absD := by
  intro W ρ H xs ds d Q tk b e q
  match ds, e with
  | [.int i], e => obtain ⟨x, rfl, b1⟩ := brs1 b; obtain rfl := br_int b1; cases e; exact ⟨i, rfl, q _ _ .refl .int⟩
def intsD : List D → Option (List Int)
  | [] => some []
  | .int i :: r => (intsD r).map (i :: ·)
  | _ => none
theorem reps_ints {W : Addr → Prop} {ρ : List Addr} {H : Hp} : ∀ {vs : List V} {ds : List D} {ns : List Int}, Reps G W ρ H vs ds → intsD ds = some ns → vs = ns.map V.int
  | _, _, _, .nil, e => by cases e; rfl
  | _, d :: ds, ns, .cons r t, e => by
    cases d <;> first | (cases e; done) | skip
    rename_i i
    have e : (intsD ds).map (i :: ·) = some ns := e
    cases z : intsD ds with
    | none => rw [z] at e; cases e
    | some ms =>
      rw [z] at e
      cases e
      obtain rfl := br_int (.inl r)
      rw [reps_ints t z]
      rfl
def sumD : List D → Option D
  | [.lst ds] => (intsD ds).map fun ns => .int ns.sum
  | [.lck ds] => (intsD ds).map fun ns => .int ns.sum
  | _ => none
theorem sp_sum : SpC G (rSum G.K) sumD := by
  intro W ρ H xs ds d Q tk b e q
  match ds, e with
  | [.lst ds], e =>
    obtain ⟨x, rfl, b1⟩ := brs1 b; obtain ⟨a, vs, rfl, h, r⟩ := br_lst b1
    have e : (intsD ds).map (fun ns => D.int ns.sum) = some d := e
    cases z : intsD ds with
    | none => rw [z] at e; cases e
    | some ns => rw [z] at e; cases e; exact ⟨a, ns, rfl, .inl (.inl (by rw [← reps_ints r z]; exact h)), q _ _ .refl .int⟩
  | [.lck ds], e =>
    obtain ⟨x, rfl, b1⟩ := brs1 b; obtain ⟨a, vs, rfl, h, r⟩ := br_lck b1
    have e : (intsD ds).map (fun ns => D.int ns.sum) = some d := e
    cases z : intsD ds with
    | none => rw [z] at e; cases e
    | some ns => rw [z] at e; cases e; exact ⟨a, ns, rfl, by rw [← reps_ints r z]; exact h, q _ _ .refl .int⟩
end
end Mi

namespace Mi
open PySem PySem.Spec PyProof.Rows L2

/-! ### changes -/
def setc : Loc → D → M Unit
  | .own i, d, s => match s.e[i]? with | some (.own _) => .ok () ⟨s.e.set i (.own d), s.t⟩ | _ => .stuck
  | .val (.ptr n), d, s => if n < s.t.length then .ok () ⟨s.e, s.t.set n d⟩ else .stuck
  | _, _, _ => .stuck
section
variable {G : Gc} {X : WX} {S0 : Addr → Prop} {ρ ρ' : List Addr} {s s' : S} {σ σ' : L2.St} {H H' : Hp} {a p : Addr} {d d' : D} {i n : Nat} {o : HO}
theorem wa_put {e : List Slot} (h : e[i]? = some (.own d)) : Wa S0 ρ (e.set i (.own d')) σ = Wa S0 ρ e σ := by
  funext b
  apply propext
  have hl : i < e.length := (List.getElem?_eq_some_iff.mp h).1
  constructor
  · rintro (w | w | ⟨j, d2, e1, e2⟩)
    · exact .inl w
    · exact .inr (.inl w)
    · rcases getset e1 with ⟨rfl, z⟩ | ⟨_, f1⟩
      · exact .inr (.inr ⟨j, d, h, e2⟩)
      · exact .inr (.inr ⟨j, d2, f1, e2⟩)
  · rintro (w | w | ⟨j, d2, e1, e2⟩)
    · exact .inl w
    · exact .inr (.inl w)
    · by_cases hj : j = i
      · subst hj
        exact .inr (.inr ⟨j, d', List.getElem?_set_self hl, e2⟩)
      · exact .inr (.inr ⟨j, d2, by rw [List.getElem?_set_ne (Ne.symm hj)]; exact e1, e2⟩)
theorem Sat.putOwn (t : Sat G S0 ρ s σ H) (h : s.e[i]? = some (.own d)) (ha : σ[i]? = some (some (.ref a))) (r : ORep G (Wa S0 ρ s.e σ) ρ (upd H a o) a d') :
    Sat G S0 ρ ⟨s.e.set i (.own d'), s.t⟩ σ (upd H a o) ∧ Nx S0 ρ s.e σ H ρ (s.e.set i (.own d')) σ (upd H a o) := by
  have hw : Wa S0 ρ (s.e.set i (.own d')) σ = Wa S0 ρ s.e σ := wa_put h
  have wa : Wa S0 ρ s.e σ a := .inr (.inr ⟨i, d, h, ha⟩)
  obtain ⟨a', e1, _, nρ, nS⟩ := t.own i d h
  rw [ha] at e1; cases e1
  have kp : Kp S0 (Wa S0 ρ s.e σ) H (Wa S0 ρ s.e σ) (upd H a o) := ⟨fun b u nb e => by rw [upd_ne (fun z => nb (by rw [z]; exact wa))]; exact e, fun _ _ nb _ => nb, fun b u sb e => by rw [upd_ne (fun z => nS (by rw [← z]; exact sb))]; exact e⟩
  refine ⟨⟨by simpa using t.len, fun j d2 e => ?_, fun j d2 e => ?_, fun j k b d1 d2 e1 e2 e3 e4 => ?_, t.rlen, fun m b d2 e1 e2 => ?_, t.nd, t.rs, fun b w => ?_⟩, by rw [hw]; exact kp, List.prefix_refl _⟩
  · show ∃ v, σ[j]? = some (some v) ∧ Rep G (Wa S0 ρ (s.e.set i (.own d')) σ) ρ (upd H a o) v d2
    rw [hw]
    rcases getset e with ⟨_, z⟩ | ⟨_, f⟩
    · cases z
    · obtain ⟨v, e1, q⟩ := t.val j d2 f
      exact ⟨v, e1, q.mono kp (List.prefix_refl _)⟩
  · show ∃ b, σ[j]? = some (some (.ref b)) ∧ ORep G (Wa S0 ρ (s.e.set i (.own d')) σ) ρ (upd H a o) b d2 ∧ b ∉ ρ ∧ ¬ S0 b
    rw [hw]
    rcases getset e with ⟨hj, z⟩ | ⟨ne, f⟩
    · cases z
      rw [hj]
      exact ⟨a, ha, r, nρ, nS⟩
    · obtain ⟨b, e1, q, n1, n2⟩ := t.own j d2 f
      exact ⟨b, e1, q.mono kp (List.prefix_refl _) (upd_ne fun z => ne (t.inj j i a _ _ f h (by rw [← z]; exact e1) ha)), n1, n2⟩
  · have f1 : ∃ d, s.e[j]? = some (.own d) := by
      rcases getset e1 with ⟨hj, z⟩ | ⟨_, f⟩
      · exact ⟨d, by rw [hj]; exact h⟩
      · exact ⟨_, f⟩
    have f2 : ∃ d, s.e[k]? = some (.own d) := by
      rcases getset e2 with ⟨hj, z⟩ | ⟨_, f⟩
      · exact ⟨d, by rw [hj]; exact h⟩
      · exact ⟨_, f⟩
    obtain ⟨_, f1⟩ := f1
    obtain ⟨_, f2⟩ := f2
    exact t.inj j k b _ _ f1 f2 e3 e4
  · show ORep G (Wa S0 ρ (s.e.set i (.own d')) σ) ρ (upd H a o) b d2
    rw [hw]
    exact (t.sto m b d2 e1 e2).mono kp (List.prefix_refl _) (upd_ne fun z => nρ (by rw [← z]; exact List.mem_of_getElem? e1))
  · by_cases z : b = a
    · exact ⟨o, by rw [z]; exact upd_same⟩
    · obtain ⟨u, e⟩ := t.s0 b w
      exact ⟨u, by rw [upd_ne z]; exact e⟩
theorem Sat.putSto (t : Sat G S0 ρ s σ H) (ha : ρ[n]? = some a) (hn : n < s.t.length) (r : ORep G (Wa S0 ρ s.e σ) ρ (upd H a o) a d') :
    Sat G S0 ρ ⟨s.e, s.t.set n d'⟩ σ (upd H a o) ∧ Nx S0 ρ s.e σ H ρ s.e σ (upd H a o) := by
  have mem : a ∈ ρ := List.mem_of_getElem? ha
  have wa : Wa S0 ρ s.e σ a := .inr (.inl mem)
  have nS : ¬ S0 a := t.rs a mem
  have kp : Kp S0 (Wa S0 ρ s.e σ) H (Wa S0 ρ s.e σ) (upd H a o) := ⟨fun b u nb e => by rw [upd_ne (fun z => nb (by rw [z]; exact wa))]; exact e, fun _ _ nb _ => nb, fun b u sb e => by rw [upd_ne (fun z => nS (by rw [← z]; exact sb))]; exact e⟩
  refine ⟨⟨t.len, fun j d2 e => let ⟨v, e1, q⟩ := t.val j d2 e; ⟨v, e1, q.mono kp (List.prefix_refl _)⟩, fun j d2 e => ?_, t.inj, by simpa using t.rlen, fun m b d2 e1 e2 => ?_, t.nd, t.rs, fun b w => ?_⟩, kp, List.prefix_refl _⟩
  · obtain ⟨b, e1, q, n1, n2⟩ := t.own j d2 e
    exact ⟨b, e1, q.mono kp (List.prefix_refl _) (upd_ne fun z => n1 (by rw [z]; exact mem)), n1, n2⟩
  · rcases getset e2 with ⟨hm, z⟩ | ⟨ne, f⟩
    · rw [hm, ha] at e1; cases e1
      subst z
      exact r
    · refine (t.sto m b d2 e1 f).mono kp (List.prefix_refl _) (upd_ne fun z => ne ?_)
      obtain ⟨h1, q1⟩ := List.getElem?_eq_some_iff.mp e1
      obtain ⟨h2, q2⟩ := List.getElem?_eq_some_iff.mp ha
      exact (List.getElem_inj t.nd).mp (q1.trans (z.trans q2.symm))
  · by_cases z : b = a
    · exact ⟨o, by rw [z]; exact upd_same⟩
    · obtain ⟨u, e⟩ := t.s0 b w
      exact ⟨u, by rw [upd_ne z]; exact e⟩
/-- a change of what stands at a place -/
theorem post_mut {γ : Type} {w : Ws G X S0 σ γ} {l : Loc} {v : V} {f : D → M γ} {P : Prop} (t : Sat G S0 ρ s σ H) (r : LRep G (Wa S0 ρ s.e σ) ρ H σ v l) (hp : w.pp ρ s H ((cont l s).bind f))
    (fr : ∀ d, (∀ d' s', setc l d' s ≠ .ok () s') → w.pp ρ s H (f d s) → False)
    (k : ∀ a d, v = .ref a → Wa S0 ρ s.e σ a → ORep G (Wa S0 ρ s.e σ) ρ H a d → w.pp ρ s H (f d s) → (∀ o d', ORep G (Wa S0 ρ s.e σ) ρ (upd H a o) a d' → ∃ s', setc l d' s = .ok () s' ∧ Sat G S0 ρ s' σ (upd H a o) ∧ Nx S0 ρ s.e σ H ρ s'.e σ (upd H a o) ∧ Wa S0 ρ s'.e σ = Wa S0 ρ s.e σ) → P) : P := by
  refine w.cont t r hp fun d b hc hp2 => ?_
  cases l with
  | own i =>
    have r' : σ[i]? = some (some v) := r
    cases e : s.e[i]? with
    | none => exact (fr d (fun d' s' z => by simp only [setc, e] at z; cases z) hp2).elim
    | some sl =>
      cases sl with
      | no => exact (fr d (fun d' s' z => by simp only [setc, e] at z; cases z) hp2).elim
      | val _ => exact (fr d (fun d' s' z => by simp only [setc, e] at z; cases z) hp2).elim
      | own d0 =>
        have : d0 = d := by simp only [cont, e] at hc; cases hc; rfl
        subst this
        obtain ⟨a, e1, q, _⟩ := t.own i d0 e
        rw [r'] at e1; cases e1
        refine k a d0 rfl (.inr (.inr ⟨i, d0, e, r'⟩)) q hp2 fun o d' ro => ?_
        obtain ⟨t2, n2⟩ := t.putOwn e r' ro
        exact ⟨_, by simp only [setc, e], t2, n2, wa_put e⟩
  | val d0 =>
    cases d0 with
    | ptr n =>
      have r' : Rep G (Wa S0 ρ s.e σ) ρ H v (.ptr n) := r
      cases r' with
      | @ptr a _ h =>
        have hn : n < s.t.length := by rw [← t.rlen]; exact (List.getElem?_eq_some_iff.mp h).1
        have : s.t[n]? = some d := by
          cases e : s.t[n]? with
          | none => simp only [cont, e] at hc; cases hc
          | some d0 => simp only [cont, e] at hc; cases hc; rfl
        refine k a d rfl (.inr (.inl (List.mem_of_getElem? h))) (t.sto n a d h this) hp2 fun o d' ro => ?_
        obtain ⟨t2, n2⟩ := t.putSto h hn ro
        exact ⟨_, by simp only [setc, hn, if_true], t2, n2, rfl⟩
    | _ => exact (fr d (fun d' s' z => by cases z) hp2).elim
end
/-- a built-in's method that changes its object: the new content, the answer -/
def SpMu (G : Gc) (r : V → List V → Hp → VK → Prop) (f : D → List D → Option (D × D)) : Prop := ∀ (W : Addr → Prop) (ρ : List Addr) (H : Hp) (a : Addr) (xs : List V) (c : D) (ds : List D) (c' d : D) (Q : VK), W a → ORep G W ρ H a c → Reps G W ρ H xs ds → f c ds = some (c', d) →
  (∀ v o, (∀ S0, Kp S0 W H W (upd H a o) → ORep G W ρ (upd H a o) a c' ∧ Rep G W ρ (upd H a o) v d) → Q v (upd H a o)) → r (.ref a) xs H Q
def eMu (kd : D → Bool) (f : D → List D → Option (D × D)) (mo : M Loc) (ma : M (List Loc)) : M Loc := bnd mo fun l => bnd (cont l) fun c0 => if kd c0 = true then bnd ma fun ls => bnd (vals ls) fun ds => bnd (cont l) fun c => match f c ds with
  | some cd => bnd (setc l cd.1) fun _ => ret (Loc.val cd.2)
  | none => stk
  else stk
section
variable {G : Gc} {X : Cx} {ca : Nat → Addr} {W : WX} {e o : Expr} {es : List Expr} {te to : TE} {tA : TA} {m mo : M Loc} {mA : M (List Loc)} {pos p apos cpos : Pos} {T id : String} {name : Str} {r : V → List V → Hp → VK → Prop} {f : D → List D → Option (D × D)} {kd : D → Bool}
theorem kp_mut {S0 W : Addr → Prop} {H : Hp} {a : Addr} {o : HO} (wa : W a) (n : ¬ S0 a) : Kp S0 W H W (upd H a o) :=
  ⟨fun b u nb e => by rw [upd_ne (fun z => nb (by rw [z]; exact wa))]; exact e, fun _ _ nb _ => nb, fun b u sb e => by rw [upd_ne (fun z => n (by rw [← z]; exact sb))]; exact e⟩
theorem setc_exc {l : Loc} {d : D} {s s' : S} {x : Xn} : setc l d s ≠ .exc x s' := fun z2 => by
  unfold setc at z2
  split at z2
  · split at z2 <;> cases z2
  · split at z2 <;> cases z2
  · cases z2
theorem post_upd {γ : Type} {G : Gc} {X : WX} {S0 : Addr → Prop} {σ : L2.St} {ρ : List Addr} {s : S} {H : Hp} (w : Ws G X S0 σ γ) {l : Loc} {v : V} {us : List V} {ds : List D} {k : D × D → M γ} {P : Prop} (f : D → Option (D × D))
    (t : Sat G S0 ρ s σ H) (r : LRep G (Wa S0 ρ s.e σ) ρ H σ v l) (rs : Reps G (Wa S0 ρ s.e σ) ρ H us ds)
    (hp : w.pp ρ s H ((cont l s).bind fun c => match f c with | some cd => bnd (setc l cd.1) fun _ => k cd | none => stk))
    (fin : ∀ a c c' d, v = .ref a → Wa S0 ρ s.e σ a → ORep G (Wa S0 ρ s.e σ) ρ H a c → f c = some (c', d) → Reps G (Wa S0 ρ s.e σ) ρ H us ds →
      (∀ o, ((∀ S1, Kp S1 (Wa S0 ρ s.e σ) H (Wa S0 ρ s.e σ) (upd H a o) → ORep G (Wa S0 ρ s.e σ) ρ (upd H a o) a c')) → ∃ s', Sat G S0 ρ s' σ (upd H a o) ∧ Nx S0 ρ s.e σ H ρ s'.e σ (upd H a o) ∧ Wa S0 ρ s'.e σ = Wa S0 ρ s.e σ ∧ w.pp ρ s' (upd H a o) (k (c', d) s')) → P) : P := by
  refine post_mut (w := w) t r hp (fun d no hp4 => ?_) fun a c ev wa oc hp4 up => ?_
  · have hp4 : w.pp ρ s H ((match f d with | some cd => bnd (setc l cd.1) fun _ => k cd | none => stk) s) := hp4
    cases z : f d with
    | none => rw [z] at hp4; exact w.sk hp4
    | some cd =>
      rw [z] at hp4
      have hp4 : w.pp ρ s H ((setc l cd.1 s).bind fun _ => k cd) := hp4
      cases z2 : setc l cd.1 s with
      | ok u s4 => exact no cd.1 s4 z2
      | exc x s4 => exact setc_exc z2
      | stuck => rw [z2] at hp4; exact w.sk hp4
  · have hp4 : w.pp ρ s H ((match f c with | some cd => bnd (setc l cd.1) fun _ => k cd | none => stk) s) := hp4
    cases z : f c with
    | none => rw [z] at hp4; exact (w.sk hp4).elim
    | some cd =>
      obtain ⟨c', d'⟩ := cd
      rw [z] at hp4
      refine fin a c c' d' ev wa oc z rs fun o h => ?_
      obtain ⟨s4, e4, t4, n4, hw⟩ := up o c' (h (fun b => Wa S0 ρ s.e σ b ∧ b ≠ a) (kp_mut wa fun h => h.2 rfl))
      have hp4 : w.pp ρ s H ((setc l c' s).bind fun _ => k (c', d')) := hp4
      rw [e4] at hp4
      exact ⟨s4, t4, n4, hw, w.fr hp4 n4⟩
theorem ev_mu (sp : SpMu G r f) (hty : ∀ W ρ H v c, BR G W ρ H v c → kd c = true → tyV G.K T v H) (ho : Ev G W (LRep G) to mo) (ha : Ev G W (LReps G) tA mA) : Ev G W (LRep G) (tBM G.K T r to tA) (eMu kd f mo mA) := by
  intro S0 ρ s σ H Q t hp
  refine ho _ _ _ _ _ _ t (post_bind hp fun l s1 _ v H1 ρ1 t1 n1 r1 hp1 => ?_)
  refine post_cont t1 r1 hp1 fun c0 b0 hp1 => ?_
  by_cases hk : kd c0 = true
  · refine ⟨hty _ _ _ _ _ b0 hk, ?_⟩
    have hp1 : Post G W (LRep G) S0 ρ1 s1 σ H1 ((if kd c0 = true then bnd mA fun ls => bnd (vals ls) fun ds => bnd (cont l) fun c => match f c ds with
      | some cd => bnd (setc l cd.1) fun _ => ret (Loc.val cd.2)
      | none => stk
      else stk) s1) Q := hp1
    rw [if_pos hk] at hp1
    refine ha _ _ _ _ _ _ t1 (post_bind hp1 fun ls s2 _ us H2 ρ2 t2 n2 r2 hp2 => post_vals t2 r2 hp2 fun ds s3 t3 n3 r3 hp3 => ?_)
    have rl := stab_L (stab_L r1 n2.k n2.p) n3.k n3.p
    have hp3 : (wE (LRep G) Q).pp ρ2 s3 H2 ((cont l s3).bind fun c => match f c ds with | some cd => bnd (setc l cd.1) fun _ => ret (Loc.val cd.2) | none => stk) := hp3
    refine post_upd (wE (X := W) (LRep G) Q) (fun c => f c ds) (k := fun cd => ret (Loc.val cd.2)) t3 rl r3 hp3 fun a c c' d ev wa oc z rs up => ?_
    subst ev
    refine sp _ _ _ _ _ _ _ _ _ _ wa oc rs z fun v o h => ?_
    obtain ⟨s4, t4, n4, hw, hp4⟩ := up o fun S1 k => (h S1 k).1
    refine Post.ret (X := W) (R := LRep G) hp4 t4 ?_
    show Rep G (Wa S0 ρ2 s4.e σ) ρ2 (upd H2 a o) v d
    rw [hw]
    exact (h (fun b => Wa S0 ρ2 s3.e σ b ∧ b ≠ a) (kp_mut wa fun h => h.2 rfl)).2
  · have hp1 : Post G W (LRep G) S0 ρ1 s1 σ H1 ((if kd c0 = true then bnd mA fun ls => bnd (vals ls) fun ds => bnd (cont l) fun c => match f c ds with
      | some cd => bnd (setc l cd.1) fun _ => ret (Loc.val cd.2)
      | none => stk
      else stk) s1) Q := hp1
    rw [if_neg hk] at hp1
    exact hp1.elim
theorem je_mu (pa : PlainAttrs T) (slot : PySem.Slot T name id) (hty : typeOf (.builtin id) = pure (.type "method_descriptor")) (hm : MtR X id r) (sp : SpMu ⟨X.K, ca⟩ r f) (hk : ∀ W ρ H v c, BR ⟨X.K, ca⟩ W ρ H v c → kd c = true → tyV X.K T v H) (ho : JE X ca W o to mo) (ha : JA X ca W (e :: es) tA mA) (hbase : attributeBase o name X.env (eval o X.env) = eval o X.env := by rfl)
    (hfew : ((backTo cpos (starEach (e :: es) X.env)).all (fun x => !x.1) && (backToKw cpos (keywordEach [] X.env)).all (fun x => x.1.isSome) && decide ((e :: es).length + ([] : List Keyword).length + (if ([] : List Keyword).isEmpty then 0 else 1) < 30)) = true := by rfl) (hline : (apos.endLine == cpos.line) = true := by rfl)
    (hs : starEach (e :: es) X.env = (false, eval e X.env) :: starEach es X.env := by rfl) (hplain : (backTo cpos (starEach es X.env)).any (·.1) = false := by rfl) : JE X ca W (.Call (.Attribute o name apos) (e :: es) [] cpos) (tBM X.K T r to tA) (eMu kd f mo mA) :=
  ⟨pe_bm pa slot hty hm ho.pe ha.pa hbase hfew hline hs hplain, ev_mu sp hk ho.ev ha.ev⟩
theorem je_mu0 (pa : PlainAttrs T) (slot : PySem.Slot T name id) (hty : typeOf (.builtin id) = pure (.type "method_descriptor")) (hm : MtR X id r) (sp : SpMu ⟨X.K, ca⟩ r f) (hk : ∀ W ρ H v c, BR ⟨X.K, ca⟩ W ρ H v c → kd c = true → tyV X.K T v H) (ho : JE X ca W o to mo) (hbase : attributeBase o name X.env (eval o X.env) = eval o X.env := by rfl) (hline : (apos.endLine == cpos.line) = true := by rfl) :
    JE X ca W (.Call (.Attribute o name apos) [] [] cpos) (tBM0 X.K T r to) (eMu kd f mo aNil) :=
  ⟨pe_bm0 pa slot hty hm ho.pe hbase hline, fun S0 ρ s σ H Q t hp => ev_mu (T := T) (tA := tNil) sp hk ho.ev (ja_nil (X := X)).ev S0 ρ s σ H Q t hp⟩
end
section
variable {G : Gc}
def isLst : D → Bool | .lst _ => true | _ => false
theorem ty_lst : ∀ W ρ H v c, BR G W ρ H v c → isLst c = true → tyV G.K "list" v H := fun W ρ H v c b k => by
  cases c <;> first | (cases k; done) | skip
  obtain ⟨a, vs, rfl, h, r⟩ := br_lst b
  exact .inl ⟨rfl, vs, .inl (.inl h)⟩
theorem or_lst {W : Addr → Prop} {ρ : List Addr} {H : Hp} {a : Addr} {ds : List D} (h : ORep G W ρ H a (.lst ds)) : ∃ vs, H a = some (.lst vs) ∧ Reps G W ρ H vs ds := by
  cases h with | lst h r => exact ⟨_, h, r⟩
theorem or_dic {W : Addr → Prop} {ρ : List Addr} {H : Hp} {a : Addr} {ds : List (Key × D)} (h : ORep G W ρ H a (.dic ds)) : ∃ vs, H a = some (.dK vs) ∧ vs.map (·.1) = ds.map (·.1) ∧ Reps G W ρ H (vs.map (·.2)) (ds.map (·.2)) := by
  cases h with | dic h e r => exact ⟨_, h, e, r⟩
def appD : D → List D → Option (D × D)
  | .lst ds, [d] => if ds.length < lim then some (.lst (ds ++ [d]), .non) else none
  | _, _ => none
theorem sp_append : SpMu G rAppend appD := by
  intro W ρ H a xs c ds c' d Q wa oc rs e q
  match c, ds, e with
  | .lst es, [y], e =>
    by_cases hl : es.length < lim
    · rw [show appD (.lst es) [y] = some (.lst (es ++ [y]), .non) from if_pos hl] at e
      cases e
      obtain ⟨vs, h, r⟩ := or_lst oc
      cases rs with | cons r1 r2 => cases r2; exact ⟨a, vs, _, rfl, rfl, h, lim_lt (by rw [r.length]; exact hl), q _ _ fun S0 k => ⟨.lst upd_same ((r.append (.cons r1 .nil)).mono k (List.prefix_refl _)), .non⟩⟩
    · rw [show appD (.lst es) [y] = none from if_neg hl] at e; cases e
def popD : D → List D → Option (D × D)
  | .lst ds, [] => match ds[ds.length - 1]? with | some d => some (.lst ds.dropLast, d) | none => none
  | _, _ => none
theorem Reps.dropLast {W : Addr → Prop} {ρ : List Addr} {H : Hp} {vs : List V} {ds : List D} (r : Reps G W ρ H vs ds) : Reps G W ρ H vs.dropLast ds.dropLast := by
  rw [List.dropLast_eq_take, List.dropLast_eq_take, r.length]
  exact r.take _
theorem sp_pop : SpMu G rPop popD := by
  intro W ρ H a xs c ds c' d Q wa oc rs e q
  match c, ds, e with
  | .lst es, [], e =>
    have e : (match es[es.length - 1]? with | some d => some (D.lst es.dropLast, d) | none => none) = some (c', d) := e
    cases z : es[es.length - 1]? with
    | none => rw [z] at e; cases e
    | some y =>
      rw [z] at e
      cases e
      obtain ⟨vs, h, r⟩ := or_lst oc
      obtain ⟨v, e1, r1⟩ := r.get z
      cases rs
      exact ⟨a, vs, v, rfl, rfl, h, by rw [r.length]; exact e1, q _ _ fun S0 k => ⟨.lst upd_same (r.dropLast.mono k (List.prefix_refl _)), r1.mono k (List.prefix_refl _)⟩⟩
def popAtD : D → List D → Option (D × D)
  | .lst ds, [.int i] => if 0 ≤ i ∧ i < ds.length ∧ ds.length ≤ lim then match ds[i.toNat]? with | some d => some (.lst (ds.eraseIdx i.toNat), d) | none => none else none
  | _, _ => none
theorem sp_popAt : SpMu G rPopAt popAtD := by
  intro W ρ H a xs c ds c' d Q wa oc rs e q
  match c, ds, e with
  | .lst es, [.int i], e =>
    by_cases hi : 0 ≤ i ∧ i < es.length ∧ es.length ≤ lim
    · have e : (match es[i.toNat]? with | some d => some (D.lst (es.eraseIdx i.toNat), d) | none => none) = some (c', d) := (if_pos hi).symm.trans e
      obtain ⟨h1, h2, h3⟩ := hi
      have h3 : es.length ≤ 1000000 := h3
      cases z : es[i.toNat]? with
      | none => rw [z] at e; cases e
      | some y =>
        rw [z] at e
        cases e
        obtain ⟨vs, h, r⟩ := or_lst oc
        obtain ⟨v, e1, r1⟩ := r.get z
        cases rs with
        | cons ri rr =>
          cases rr
          obtain rfl := br_int (.inl ri)
          refine ⟨a, vs, i, i.toNat, v, rfl, rfl, h, by omega, by omega, seqIndex_of h1 (by rw [r.length]; exact h2), e1, q _ _ fun S0 k => ⟨.lst upd_same ((r.erase _).mono k (List.prefix_refl _)), r1.mono k (List.prefix_refl _)⟩⟩
    · have e : none = some (c', d) := (if_neg hi).symm.trans e
      cases e
end
/-! ### o[i] = v -/
def SpSet (G : Gc) (r : TSet) (f : D → D → D → Option D) : Prop := ∀ (W : Addr → Prop) (ρ : List Addr) (H : Hp) (a : Addr) (i v : V) (c di dv c' : D) (Q : Hp → Prop), W a → ORep G W ρ H a c → BR G W ρ H i di → Rep G W ρ H v dv → f c di dv = some c' →
  (∀ o, (∀ S0, Kp S0 W H W (upd H a o) → ORep G W ρ (upd H a o) a c') → Q (upd H a o)) → r (.ref a) i v H Q
def sSub (f : D → D → D → Option D) (mv mo mi : M Loc) : M Fl := bnd mv fun lv => bnd (toVal lv) fun dv => bnd mo fun l => bnd mi fun li => bnd (cont li) fun di => bnd (cont l) fun c => match f c di dv with
  | some c' => bnd (setc l c') fun _ => ret Fl.nx
  | none => stk
section
variable {G : Gc} {X : Cx} {ca : Nat → Addr} {W : WX} {e o i : Expr} {tv to ti : TE} {mv mo mi : M Loc} {pos p : Pos} {r : TSet} {f : D → D → D → Option D}
theorem ev_sub {nf : Nat} (sp : SpSet G r f) (hv : Ev G W (LRep G) tv mv) (ho : Ev G W (LRep G) to mo) (hi : Ev G W (LRep G) ti mi) : EvS G W nf (tAsg tv (gSub to ti r)) (sSub f mv mo mi) := by
  intro S0 ρ s σ H E t hp
  refine hv _ _ _ _ _ _ t ((wS (nf := nf) E).bind hp fun lv s0 _ v H0 ρ0 t0 n0 r0 hp0 => (wS (nf := nf) E).toVal t0 r0 hp0 fun dv s1 t1 n1 r1 hp1 => ?_)
  refine ho _ _ _ _ _ _ t1 ((wS (nf := nf) E).bind hp1 fun l s2 _ ov H2 ρ2 t2 n2 r2 hp2 => ?_)
  refine hi _ _ _ _ _ _ t2 ((wS (nf := nf) E).bind hp2 fun li s3 _ iv H3 ρ3 t3 n3 r3 hp3 => (wS (nf := nf) E).cont t3 r3 hp3 fun di bi _ hp4 => ?_)
  have hp4 : (wS (nf := nf) (G := G) (X := W) (S0 := S0) (σ := σ) E).pp ρ3 s3 H3 ((cont l s3).bind fun c => match (f c di dv).map fun c' => (c', D.non) with | some cd => bnd (setc l cd.1) fun _ => ret Fl.nx | none => stk) := by
    have : (fun c => match f c di dv with | some c' => bnd (setc l c') fun _ => ret Fl.nx | none => stk) = fun c => (match (f c di dv).map fun c' => (c', D.non) with | some cd => bnd (setc l cd.1) fun _ => ret Fl.nx | none => (stk : M Fl)) := by
      funext c
      cases f c di dv <;> rfl
    rw [← this]; exact hp4
  refine post_upd (wS (nf := nf) E) (fun c => (f c di dv).map fun c' => (c', D.non)) (k := fun _ => ret Fl.nx) (us := [v]) (ds := [dv]) t3 (stab_L r2 n3.k n3.p) (.cons ((r1.mono n2.k n2.p).mono n3.k n3.p) .nil) hp4 fun a c c' d ev wa oc z rs up => ?_
  subst ev
  cases z2 : f c di dv with
  | none => simp only [z2] at z; cases z
  | some c2 =>
    simp only [z2] at z
    cases z
    cases rs with
    | cons rv _ =>
      refine sp _ _ _ _ _ _ _ _ _ _ _ wa oc bi rv z2 fun o h => ?_
      obtain ⟨s4, t4, n4, hw, hp5⟩ := up o h
      exact PostS.nx (X := W) (E := E) hp5 t4
theorem js_sub {nf : Nat} (hs : PSet X r) (sp : SpSet ⟨X.K, ca⟩ r f) (hv : JE X ca W e tv mv) (ho : JE X ca W o to mo) (hi : JE X ca W i ti mi)
    (ha : ∀ v, assign (.Subscript o i pos) X.env v = (do
      let ov ← holding [v] (eval o X.env)
      let iv ← holding [v, ov] (eval i X.env)
      standAt pos
      holding [v, ov, iv] (setItem ov iv v)
      release [v, ov, iv] []) := by intro _; rfl) (hs1 : swapsWithSole [.Subscript o i pos] e p.line X.env = pure false := by rfl) (hw : swappedStores [.Subscript o i pos] e X.env = pure none := by rfl)
    (h1 : (assignEach [.Subscript o i pos] X.env).map (·.2) = [assign (.Subscript o i pos) X.env] := by rfl) : JS X ca W nf (.Assign [.Subscript o i pos] e p) (tAsg tv (gSub to ti r)) (sSub f mv mo mi) :=
  ⟨ps_asg hv.pe (pg_sub ho.pe hi.pe hs ha) hs1 hw h1, ev_sub sp hv.ev ho.ev hi.ev⟩
def putD {κ : Type} [DecidableEq κ] (kvs : List (κ × D)) (k : κ) (v : D) : List (κ × D) :=
  if (kvs.any fun kv => decide (kv.1 = k)) = true then kvs.map (fun kv => if kv.1 = k then (kv.1, v) else kv) else kvs ++ [(k, v)]
theorem put_reps {κ : Type} [DecidableEq κ] {Wd : Addr → Prop} {ρ : List Addr} {H : Hp} {k : κ} {v : V} {d : D} (r : Rep G Wd ρ H v d) {vs : List (κ × V)} {ds : List (κ × D)} (e : vs.map (·.1) = ds.map (·.1)) (rs : Reps G Wd ρ H (vs.map (·.2)) (ds.map (·.2))) :
    (putK vs k v).map (·.1) = (putD ds k d).map (·.1) ∧ Reps G Wd ρ H ((putK vs k v).map (·.2)) ((putD ds k d).map (·.2)) := by
  have hany : (vs.any fun kv => decide (kv.1 = k)) = (ds.any fun kv => decide (kv.1 = k)) := by
    have h1 : (vs.any fun kv => decide (kv.1 = k)) = (vs.map (·.1)).any fun x => decide (x = k) := by rw [List.any_map]; rfl
    have h2 : (ds.any fun kv => decide (kv.1 = k)) = (ds.map (·.1)).any fun x => decide (x = k) := by rw [List.any_map]; rfl
    rw [h1, h2, e]
  unfold putK putD
  rw [hany]
  by_cases h : (ds.any fun kv => decide (kv.1 = k)) = true
  · rw [if_pos h, if_pos h]
    clear h hany
    induction vs generalizing ds with
    | nil =>
      cases ds with
      | nil => exact ⟨rfl, .nil⟩
      | cons _ _ => cases e
    | cons p vs ih =>
      cases ds with
      | nil => cases e
      | cons q ds =>
        rw [List.map_cons, List.map_cons] at e
        injection e with e1 e2
        cases rs with
        | cons r1 r2 =>
          obtain ⟨i1, i2⟩ := ih e2 r2
          simp only [List.map_cons]
          rw [i1]
          constructor
          · by_cases hk : p.1 = k
            · rw [if_pos hk, if_pos (e1 ▸ hk), e1]
            · rw [if_neg hk, if_neg (e1 ▸ hk), e1]
          · refine .cons ?_ i2
            by_cases hk : p.1 = k
            · rw [if_pos hk, if_pos (e1 ▸ hk)]; exact r
            · rw [if_neg hk, if_neg (e1 ▸ hk)]; exact r1
  · rw [if_neg h, if_neg h]
    constructor
    · rw [List.map_append, List.map_append, e]; rfl
    · rw [List.map_append, List.map_append]; exact rs.append (.cons r .nil)
def setD : D → D → D → Option D
  | .lst ds, .int i, d => match ixN ds.length i with | some j => some (.lst (ds.set j d)) | none => none
  | .dic kvs, k, d => match keyD k with | some j => if kvs.length < lim then some (.dic (putD kvs j d)) else none | none => none
  | _, _, _ => none
def rSetU : TSet := fun o i v H Q => rSetL o i v H Q ∨ ∃ a H4, o = .ref a ∧ DPut H a i v H4 ∧ Q H4
theorem set_U (hu : X.A.units + 1 < cLine) : PSet X rSetU := by
  intro pins s σ H o i v ov iv u Q I ro ri rv h
  rcases h with h | ⟨a, H4, rfl, g, q⟩
  · exact set_list pins s σ H o i v ov iv u Q I ro ri rv h
  · cases ro
    exact d_setItem hu I g ri rv fun s' I' => ⟨H4, I', q⟩
theorem sp_setU : SpSet G rSetU setD := by
  intro Wd ρ H a i v c di dv c' Q wa oc bi rv e q
  cases c with
  | lst ds =>
    cases di with
    | int j =>
      have e : (match ixN ds.length j with | some j => some (D.lst (ds.set j dv)) | none => none) = some c' := e
      cases z : ixN ds.length j with
      | none => rw [z] at e; cases e
      | some k =>
        rw [z] at e
        cases e
        obtain ⟨vs, h, r⟩ := or_lst oc
        obtain rfl := br_int bi
        exact .inl ⟨a, vs, j, k, rfl, rfl, h, by rw [r.length]; exact z, q _ fun S0 kp => .lst upd_same ((Reps.set rv k r).mono kp (List.prefix_refl _))⟩
    | _ => cases e
  | dic kvs =>
    have e : (match keyD di with | some j => if kvs.length < lim then some (D.dic (putD kvs j dv)) else none | none => none) = some c' := by cases di <;> exact e
    cases z : keyD di with
    | none => rw [z] at e; cases e
    | some j =>
      rw [z] at e
      have e : (if kvs.length < lim then some (D.dic (putD kvs j dv)) else none) = some c' := e
      by_cases hl : kvs.length < lim
      · rw [if_pos hl] at e
        cases e
        obtain ⟨vs, h, k, r⟩ := or_dic oc
        obtain rfl := key_br bi z
        have hlen : vs.length = kvs.length := by have := congrArg List.length k; simpa using this
        obtain ⟨k2, r2⟩ := put_reps (k := j) rv k r
        exact .inr ⟨a, _, rfl, DPut.k h (lim_lt (by rw [hlen]; exact hl)), q _ fun S0 kp => .dic upd_same k2 (r2.mono kp (List.prefix_refl _))⟩
      · rw [if_neg hl] at e; cases e
  | _ => cases e
end
end Mi

namespace Mi
open PySem PySem.Spec PyProof.Rows L2

/-! ### what is walked -/
inductive Itd where
  | seq (d : D) | rng (lo : Int) (n : Nat)
def seqOf : D → Option (List D)
  | .lst ds => some ds
  | .lck ds => some ds
  | .tup ds => some ds
  | .str x => some (x.cps.toList.map fun c => .str ⟨#[c]⟩)
  | _ => none
def itN (I : Itd) (i : Nat) : M (Option D) := fun s => match I with
  | .rng lo n => .ok (if i < n then some (.int (lo + i)) else none) s
  | .seq d => match d with
    | .ptr n => match s.t[n]? with | some (.lst ds) => .ok ds[i]? s | _ => .stuck
    | _ => match seqOf d with | some ds => .ok ds[i]? s | none => .stuck
inductive ItOk (G : Gc) (W : Addr → Prop) (ρ : List Addr) (H : Hp) : It → Itd → Prop
  | lst {a : Addr} {ds : List D} : Rep G W ρ H (.ref a) (.lst ds) → ItOk G W ρ H (Itl G.K a) (.seq (.lst ds))
  | lck {a : Addr} {ds : List D} : Rep G W ρ H (.ref a) (.lck ds) → ItOk G W ρ H (Itl G.K a) (.seq (.lck ds))
  | ptr {a : Addr} {n : Nat} : Rep G W ρ H (.ref a) (.ptr n) → ItOk G W ρ H (Itl G.K a) (.seq (.ptr n))
  | tup {a : Addr} {ds : List D} : Rep G W ρ H (.ref a) (.tup ds) → ItOk G W ρ H (Itt G.K a) (.seq (.tup ds))
  | str {x : Str} : ItOk G W ρ H (Its x) (.seq (.str x))
  | rng {lo : Int} {n : Nat} : ItOk G W ρ H (Itr lo n) (.rng lo n)
def IRel (G : Gc) : RelT It Itd := fun W ρ H _ J I => ItOk G W ρ H J I
section
variable {G : Gc} {S0 W W' : Addr → Prop} {ρ ρ' : List Addr} {s s' : S} {σ : L2.St} {H H' : Hp} {J : It} {I : Itd}
theorem ItOk.mono (h : ItOk G W ρ H J I) (k : Kp S0 W H W' H') (p : ρ <+: ρ') : ItOk G W' ρ' H' J I := by
  cases h with
  | lst r => exact .lst (r.mono k p)
  | lck r => exact .lck (r.mono k p)
  | ptr r => exact .ptr (r.mono k p)
  | tup r => exact .tup (r.mono k p)
  | str => exact .str
  | rng => exact .rng
theorem itN_seq (t : Sat G S0 ρ s σ H) (h : ItOk G (Wa S0 ρ s.e σ) ρ H J I) (i : Nat) : itN I i s = .stuck ∨ (itN I i s = .ok none s ∧ J.stop i H) ∨
    ∃ d, itN I i s = .ok (some d) s ∧ J.go i H ∧ ∀ x H', J.yld i H x H' → H' = H ∧ Rep G (Wa S0 ρ s.e σ) ρ H x d := by
  have fin : ∀ {ds : List D} {a : Addr} {vs : List V}, SqL G.K H a vs → Reps G (Wa S0 ρ s.e σ) ρ H vs ds →
      (ds[i]? = none ∧ (Itl G.K a).stop i H) ∨ ∃ d, ds[i]? = some d ∧ (Itl G.K a).go i H ∧ ∀ x H', (Itl G.K a).yld i H x H' → H' = H ∧ Rep G (Wa S0 ρ s.e σ) ρ H x d := fun {ds a vs} hs r => by
    cases e : ds[i]? with
    | none => exact .inl ⟨rfl, vs, hs, by rw [r.length]; exact List.getElem?_eq_none_iff.mp e⟩
    | some d =>
      obtain ⟨v, e1, r1⟩ := r.get e
      refine .inr ⟨d, rfl, ⟨vs, v, hs, e1⟩, fun x H' y => ⟨y.1, ?_⟩⟩
      have := y.2 vs hs
      rw [e1] at this; cases this
      exact r1
  cases h with
  | @lst a ds r =>
    obtain ⟨a', vs, ea, hs, rr⟩ := br_lst (.inl r)
    cases ea
    rcases fin (.inl (.inl hs)) rr with ⟨e, st⟩ | ⟨d, e, go, y⟩
    · exact .inr (.inl ⟨by simp only [itN, seqOf, e], st⟩)
    · exact .inr (.inr ⟨d, by simp only [itN, seqOf, e], go, y⟩)
  | @lck a ds r =>
    obtain ⟨a', vs, ea, hs, rr⟩ := br_lck (.inl r)
    cases ea
    rcases fin hs rr with ⟨e, st⟩ | ⟨d, e, go, y⟩
    · exact .inr (.inl ⟨by simp only [itN, seqOf, e], st⟩)
    · exact .inr (.inr ⟨d, by simp only [itN, seqOf, e], go, y⟩)
  | @ptr a n r =>
    cases r with
    | ptr ha =>
      cases e0 : s.t[n]? with
      | none => exact .inl (by simp only [itN, e0])
      | some c =>
        cases c with
        | lst ds =>
          obtain ⟨vs, hs, rr⟩ := (show ∃ vs, H a = some (.lst vs) ∧ Reps G (Wa S0 ρ s.e σ) ρ H vs ds from by
            have := t.sto n a _ ha e0
            cases this with | lst h r => exact ⟨_, h, r⟩)
          rcases fin (.inl (.inl hs)) rr with ⟨e, st⟩ | ⟨d, e, go, y⟩
          · exact .inr (.inl ⟨by simp only [itN, e0, e], st⟩)
          · exact .inr (.inr ⟨d, by simp only [itN, e0, e], go, y⟩)
        | _ => exact .inl (by simp only [itN, e0])
  | @tup a ds r =>
    obtain ⟨a', vs, ea, hs, rr, _⟩ := br_tup (.inl r)
    cases ea
    cases e : ds[i]? with
    | none => exact .inr (.inl ⟨by simp only [itN, seqOf, e], vs, hs, by rw [rr.length]; exact List.getElem?_eq_none_iff.mp e⟩)
    | some d =>
      obtain ⟨v, e1, r1⟩ := rr.get e
      refine .inr (.inr ⟨d, by simp only [itN, seqOf, e], ⟨vs, v, hs, e1⟩, fun x H' y => ⟨y.1, ?_⟩⟩)
      have := y.2 vs hs
      rw [e1] at this; cases this
      exact r1
  | @str x =>
    have hz : x.cps.toList[i]? = x.cps[i]? := by simp
    cases e : x.cps[i]? with
    | none =>
      refine .inr (.inl ⟨by simp only [itN, seqOf, List.getElem?_map, hz, e]; rfl, ?_⟩)
      exact Array.getElem?_eq_none_iff.mp e
    | some c =>
      refine .inr (.inr ⟨.str ⟨#[c]⟩, by simp only [itN, seqOf, List.getElem?_map, hz, e]; rfl, ?_, fun v H' y => ⟨y.1, ?_⟩⟩)
      · exact (Array.getElem?_eq_some_iff.mp e).1
      · obtain ⟨c', e1, ev⟩ := y.2
        rw [e] at e1; cases e1
        subst ev
        exact .str
  | @rng lo n =>
    by_cases hi : i < n
    · exact .inr (.inr ⟨.int (lo + i), by simp only [itN, hi, if_true], hi, fun x H' y => ⟨y.1, by rw [y.2]; exact .int⟩⟩)
    · exact .inr (.inl ⟨by simp only [itN, hi, if_false], Nat.le_of_not_lt hi⟩)
end
structure JI (X : Cx) (ca : Nat → Addr) (W : WX) (tg iter : Expr) (wi : TI) (m : M Itd) : Prop where
  pi : PI X tg iter wi
  ev : Ev ⟨X.K, ca⟩ W (IRel ⟨X.K, ca⟩) wi m
/-- a list, a tuple or a text, walked -/
def wSeq (K : PySem.W.Frag) (x : V) (H : Hp) (R : It → Hp → Prop) : Prop :=
  (∃ a, x = .ref a ∧ (∃ xs, SqL K H a xs) ∧ R (Itl K a) H) ∨ (∃ a, x = .ref a ∧ (∃ xs, SqT K H a xs) ∧ R (Itt K a) H) ∨ ∃ y, x = .str y ∧ R (Its y) H
def tSeqI (K : PySem.W.Frag) (te : TE) : TI := fun σ H R => te σ H fun x H1 => wSeq K x H1 R
section
variable {X : Cx} {ca : Nat → Addr} {W : WX} {e a b tg : Expr} {es : List Expr} {te : TE} {tA : TA} {m : M Loc} {mA : M (List Loc)} {pos p : Pos}
theorem pi_seq {l : Expr} {tl : TE} (hl : PE X l tl) : PI X tg l (tSeqI X.K tl) := by
  refine ⟨fun pins s σ H R I h => ?_⟩
  refine thn (hl.run pins s σ H _ I h) fun v s1 ⟨x, H1, I1, r1, q1⟩ => ?_
  rcases q1 with ⟨a, e, ⟨xs, hq⟩, q⟩ | ⟨a, e, ⟨xs, hq⟩, q⟩ | ⟨x, ex, q⟩
  · subst e
    cases r1
    obtain ⟨its, rv, p, hz⟩ := I1.list hq
    refine wpAny_pyIter_list p.isList ?_
    exact ⟨s1.heap.objs.size, [s1.heap.objs.size], _, _, H1, rfl, I1.kept (t' := s1.toks) fun b o e => Heap.get?_push_of_some _ e, turn_list a _, ⟨_, Heap.get?_push_size _ rfl, rfl, rfl⟩, fun b hb => by
      have e : b = s1.heap.objs.size := by simpa using hb
      subst e
      exact I1.fpOk (Nat.le_refl _) (I1.hok.fresh (Nat.le_refl _)), q⟩
  · subst e
    cases r1
    obtain ⟨its, rv, p, hz⟩ := I1.tuple hq
    refine wpAny_pyIter_tuple (show s1.heap.IsTuple a its.toArray from p) ?_
    exact ⟨s1.heap.objs.size, [s1.heap.objs.size], _, _, H1, rfl, I1.kept (t' := s1.toks) fun b o e => Heap.get?_push_of_some _ e, turn_tuple a _, ⟨_, Heap.get?_push_size _ rfl, rfl, rfl⟩, fun b hb => by
      have e : b = s1.heap.objs.size := by simpa using hb
      subst e
      exact I1.fpOk (Nat.le_refl _) (I1.hok.fresh (Nat.le_refl _)), q⟩
  · subst ex
    obtain ⟨t, rfl⟩ := r1
    cases ha : x.cps.all (· < 128)
    · exact wpAny_pyIter_wide ha (pi_one (tk := s1.toks) I1 _ (turn_str _ x t "str_iterator" (.inr rfl)) ⟨_, Heap.get?_push_size _ rfl, rfl, rfl⟩ q)
    · exact wpAny_pyIter_ascii ha (pi_one (tk := s1.toks) I1 _ (turn_str _ x t "str_ascii_iterator" (.inl rfl)) ⟨_, Heap.get?_push_size _ rfl, rfl, rfl⟩ q)
def iSeq (m : M Loc) : M Itd := bnd m fun l => bnd (toVal l) fun d => fun s => match d with
  | .ptr n => match s.t[n]? with | some (.lst _) => .ok (.seq d) s | _ => .stuck
  | _ => match seqOf d with | some _ => .ok (.seq d) s | none => .stuck
theorem ji_seq (he : JE X ca W e te m) : JI X ca W tg e (tSeqI X.K te) (iSeq m) := by
  refine ⟨pi_seq he.pe, fun S0 ρ s σ H R t hp => ?_⟩
  refine he.ev _ _ _ _ _ _ t (post_bind hp fun l s1 _ v H1 ρ1 t1 n1 r1 hp1 => post_toVal t1 r1 hp1 fun d s2 t2 n2 r2 hp2 => ?_)
  cases d with
  | lst ds =>
    obtain ⟨a, vs, ea, hs, rr⟩ := br_lst (.inl r2)
    subst ea
    exact .inl ⟨a, rfl, ⟨vs, .inl (.inl hs)⟩, Post.ret (R := IRel ⟨X.K, ca⟩) hp2 t2 (.lst r2)⟩
  | lck ds =>
    obtain ⟨a, vs, ea, hs, rr⟩ := br_lck (.inl r2)
    subst ea
    exact .inl ⟨a, rfl, ⟨vs, hs⟩, Post.ret (R := IRel ⟨X.K, ca⟩) hp2 t2 (.lck r2)⟩
  | tup ds =>
    obtain ⟨a, vs, ea, hs, rr, _⟩ := br_tup (.inl r2)
    subst ea
    exact .inr (.inl ⟨a, rfl, ⟨vs, hs⟩, Post.ret (R := IRel ⟨X.K, ca⟩) hp2 t2 (.tup r2)⟩)
  | str x =>
    obtain rfl := br_str (.inl r2)
    exact .inr (.inr ⟨x, rfl, Post.ret (R := IRel ⟨X.K, ca⟩) hp2 t2 .str⟩)
  | ptr n =>
    cases e0 : s2.t[n]? with
    | none => simp only [e0] at hp2; exact hp2.elim
    | some c =>
      cases c with
      | lst ds =>
        simp only [e0] at hp2
        cases r2 with
        | @ptr a _ ha =>
          have := t2.sto n a _ ha e0
          cases this with
          | @lst vs _ h r => exact .inl ⟨a, rfl, ⟨vs, .inl (.inl h)⟩, Post.ret (R := IRel ⟨X.K, ca⟩) hp2 t2 (.ptr (.ptr ha))⟩
      | _ => simp only [e0] at hp2; exact hp2.elim
  | _ => exact hp2.elim
def iRng1 (ma : M (List Loc)) : M Itd := bnd ma fun ls => fun s => match ls with
  | [.val (.int j)] => if -(2 ^ 62) ≤ j ∧ j < 2 ^ 62 then .ok (.rng 0 j.toNat) s else .stuck
  | _ => .stuck
def iRng2 (ma : M (List Loc)) : M Itd := bnd ma fun ls => fun s => match ls with
  | [.val (.int i), .val (.int j)] => if (-(2 ^ 62) ≤ i ∧ i < 2 ^ 62) ∧ (-(2 ^ 62) ≤ j ∧ j < 2 ^ 62) then .ok (.rng i (j - i).toNat) s else .stuck
  | _ => .stuck
theorem ji_range1 (hg : Gl X "range") (hm : X.mg "range" = none) (ha : JA X ca W [a] tA mA) (hs : starEach [a] X.env = [(false, eval a X.env)] := by rfl) : JI X ca W tg (.Call (.Name "range" p) [a] [] pos) (L2.iRng1 tA) (iRng1 mA) := by
  refine ⟨pi_range1 hg hm ha.pa hs, fun S0 ρ s σ H R t hp => ?_⟩
  refine ha.ev _ _ _ _ _ _ t (post_bind hp fun ls s1 _ vs H1 ρ1 t1 n1 r1 hp1 => ?_)
  match ls, hp1 with
  | [.val (.int j)], hp1 =>
    cases r1 with
    | cons r rr =>
      cases rr
      obtain rfl := br_int (.inl r)
      have hp1 : Post ⟨X.K, ca⟩ W (IRel ⟨X.K, ca⟩) S0 ρ1 s1 σ H1 (if -(2 ^ 62) ≤ j ∧ j < 2 ^ 62 then .ok (.rng 0 j.toNat) s1 else .stuck) R := hp1
      by_cases h : -(2 ^ 62) ≤ j ∧ j < 2 ^ 62
      · rw [if_pos h] at hp1
        exact ⟨j, rfl, h.1, h.2, Post.ret (R := IRel ⟨X.K, ca⟩) hp1 t1 .rng⟩
      · rw [if_neg h] at hp1; exact hp1.elim
theorem ji_range2 (hg : Gl X "range") (hm : X.mg "range" = none) (ha : JA X ca W [a, b] tA mA) (hs : starEach [a, b] X.env = [(false, eval a X.env), (false, eval b X.env)] := by rfl) (hs2 : starEach [b] X.env = [(false, eval b X.env)] := by rfl) : JI X ca W tg (.Call (.Name "range" p) [a, b] [] pos) (L2.iRng2 tA) (iRng2 mA) := by
  refine ⟨pi_range2 hg hm ha.pa hs hs2, fun S0 ρ s σ H R t hp => ?_⟩
  refine ha.ev _ _ _ _ _ _ t (post_bind hp fun ls s1 _ vs H1 ρ1 t1 n1 r1 hp1 => ?_)
  match ls, hp1 with
  | [.val (.int i), .val (.int j)], hp1 =>
    cases r1 with
    | cons r rr =>
      cases rr with
      | cons r' rr =>
        cases rr
        obtain rfl := br_int (.inl r)
        obtain rfl := br_int (.inl r')
        have hp1 : Post ⟨X.K, ca⟩ W (IRel ⟨X.K, ca⟩) S0 ρ1 s1 σ H1 (if (-(2 ^ 62) ≤ i ∧ i < 2 ^ 62) ∧ (-(2 ^ 62) ≤ j ∧ j < 2 ^ 62) then .ok (.rng i (j - i).toNat) s1 else .stuck) R := hp1
        by_cases h : (-(2 ^ 62) ≤ i ∧ i < 2 ^ 62) ∧ (-(2 ^ 62) ≤ j ∧ j < 2 ^ 62)
        · rw [if_pos h] at hp1
          exact ⟨i, j, rfl, ⟨h.1.1, h.1.2, h.2.1, h.2.2⟩, Post.ret (R := IRel ⟨X.K, ca⟩) hp1 t1 .rng⟩
        · rw [if_neg h] at hp1; exact hp1.elim
end
/-! ### for, while -/
def aft (k : M Fl) : Fl → M Fl
  | .nx => k
  | .ct => k
  | .bk => ret .nx
  | .rt d => ret (.rt d)
def forF (I : Itd) (tg : TgF) (body : M Fl) : Nat → Nat → M Fl
  | 0, _ => stk
  | n + 1, i => bnd (itN I i) fun o => match o with
    | none => ret .nx
    | some d => fun s => match tg d s with
      | none => .stuck
      | some s' => (body s').bind (aft (forF I tg body n (i + 1)))
def sFor (mi : M Itd) (tg : TgF) (body : M Fl) : M Fl := bnd mi fun I => forF I tg body lim 0
def whF (c : M Bool) (body : M Fl) : Nat → M Fl
  | 0 => stk
  | n + 1 => bnd c fun k => if k = true then bnd body (aft (whF c body n)) else ret .nx
def sWhile (c : M Bool) (body : M Fl) : M Fl := whF c body lim
section
variable {nf : Nat} {G : Gc} {X : Cx} {ca : Nat → Addr} {W : WX} {tg iter e : Expr} {body : List Stmt} {wi : TI} {mi : M Itd} {g : TG} {a : TgF} {tb : TS} {mb : M Fl} {pos : Pos} {tu : TT} {mu : M Bool}
theorem postS_aft {G : Gc} {S0 : Addr → Prop} {ρ : List Addr} {s : S} {σ : L2.St} {H : Hp} {r : Res Fl} {k : M Fl} {E : Ends} {N : L2.St → Hp → Prop} (hp : PostS G W nf S0 ρ s σ H (r.bind (aft k)) E)
    (h : ∀ s' σ' H' ρ', Sat G S0 ρ' s' σ' H' → Nx S0 ρ s.e σ H ρ' s'.e σ' H' → Fx nf σ σ' → PostS G W nf S0 ρ' s' σ' H' (k s') E → N σ' H') : PostS G W nf S0 ρ s σ H r { E with nx := N, ct := N, bk := E.nx } := by
  cases r with
  | stuck => exact hp
  | exc x s' => exact hp
  | ok f s' =>
    cases f with
    | nx => exact fun σ' H' ρ' t n f => h s' σ' H' ρ' t n f (PostS.fromS (r := k s') hp n f)
    | ct => exact fun σ' H' ρ' t n f => h s' σ' H' ρ' t n f (PostS.fromS (r := k s') hp n f)
    | bk => exact hp
    | rt d => exact hp
theorem js_for (hpo : PassesOwn (model X.prog X.w) X.A X.env X.xe) (hc : X.calm = true) (hi : JI X ca W tg iter wi mi) (hg : JG X ca nf tg g a) (hb : JB X ca W nf body tb mb) (hs : ∀ x, foldedSetIterable iter X.env x = pure x := by intro _; rfl) :
    JS X ca W nf (.For tg iter body [] pos) (tFor wi g tb) (sFor mi a mb) := by
  refine ⟨ps_for hpo hc hi.pi hg.pg hb.pss hs, fun S0 ρ s σ H E t hp => ?_⟩
  refine hi.ev _ _ _ _ _ _ t ((wS (nf := nf) E).bind hp fun I s1 _ J H1 ρ1 t1 n1 r1 hp1 => ?_)
  refine ⟨fun i m σ' H' => ∃ ρ' s', Sat ⟨X.K, ca⟩ S0 ρ' s' σ' H' ∧ ItOk ⟨X.K, ca⟩ (Wa S0 ρ' s'.e σ') ρ' H' J I ∧ PostS ⟨X.K, ca⟩ W nf S0 ρ' s' σ' H' (forF I a mb m i s') E, ⟨lim, ρ1, s1, t1, r1, hp1⟩, ?_⟩
  rintro i m σ2 H2 ⟨ρ2, s2, t2, ok2, hp2⟩
  cases m with
  | zero => exact hp2.elim
  | succ m =>
    have hp2 : PostS ⟨X.K, ca⟩ W nf S0 ρ2 s2 σ2 H2 ((itN I i s2).bind fun o => match o with
      | none => ret .nx
      | some d => fun s => match a d s with
        | none => .stuck
        | some s' => (mb s').bind (aft (forF I a mb m (i + 1)))) E := hp2
    rcases itN_seq t2 ok2 i with z | ⟨z, st⟩ | ⟨d, z, go, y⟩
    · rw [z] at hp2; exact hp2.elim
    · rw [z] at hp2
      exact .inl ⟨st, PostS.nx (X := W) hp2 t2⟩
    · rw [z] at hp2
      refine .inr ⟨go, fun σ' H' => ∃ ρ' s', Sat ⟨X.K, ca⟩ S0 ρ' s' σ' H' ∧ ItOk ⟨X.K, ca⟩ (Wa S0 ρ' s'.e σ') ρ' H' J I ∧ PostS ⟨X.K, ca⟩ W nf S0 ρ' s' σ' H' (forF I a mb m (i + 1) s') E, fun σ' H' n => ⟨m, Nat.lt_succ_self _, n⟩, fun x H' hy => ?_⟩
      obtain ⟨rfl, rx⟩ := y x H' hy
      have hp2 : PostS ⟨X.K, ca⟩ W nf S0 ρ2 s2 σ2 H' (match a d s2 with
        | none => .stuck
        | some s' => (mb s').bind (aft (forF I a mb m (i + 1)))) E := hp2
      cases ea : a d s2 with
      | none => rw [ea] at hp2; exact hp2.elim
      | some s3 =>
        rw [ea] at hp2
        refine hg.ev _ _ _ _ _ _ _ _ _ t2 rx ea fun σ3 t3 n3 f3 => ?_
        exact hb.ev _ _ _ _ _ _ t3 (postS_aft (PostS.fromS hp2 n3 f3) fun s4 σ4 H4 ρ4 t4 n4 _ hp4 => ⟨ρ4, s4, t4, ok2.mono (n3.trans n4).k (n3.trans n4).p, hp4⟩)
theorem js_while (hpo : PassesOwn (model X.prog X.w) X.A X.env X.xe) (hc : JT X ca W e tu mu) (hb : JB X ca W nf body tb mb) : JS X ca W nf (.While e body [] pos) (tWhile tu tb) (sWhile mu mb) := by
  refine ⟨ps_while hpo hc.pt hb.pss, fun S0 ρ s σ H E t hp => ?_⟩
  refine ⟨fun m σ' H' => ∃ ρ' s', Sat ⟨X.K, ca⟩ S0 ρ' s' σ' H' ∧ PostS ⟨X.K, ca⟩ W nf S0 ρ' s' σ' H' (whF mu mb m s') E, ⟨lim, ρ, s, t, hp⟩, ?_⟩
  rintro m σ2 H2 ⟨ρ2, s2, t2, hp2⟩
  cases m with
  | zero => exact hp2.elim
  | succ m =>
    have hp2 : PostS ⟨X.K, ca⟩ W nf S0 ρ2 s2 σ2 H2 ((mu s2).bind fun k => if k = true then bnd mb (aft (whF mu mb m)) else ret .nx) E := hp2
    refine hc.ev _ _ _ _ _ _ t2 ((wS (nf := nf) E).bind hp2 fun x s3 _ v H3 ρ3 t3 n3 r3 hp3 => ?_)
    obtain rfl : x = v := Eq.symm r3
    have hp3 : PostS ⟨X.K, ca⟩ W nf S0 ρ3 s3 σ2 H3 ((if x = true then bnd mb (aft (whF mu mb m)) else ret .nx) s3) E := hp3
    cases x with
    | true =>
      rw [if_pos rfl] at hp3 ⊢
      refine ⟨fun σ' H' => ∃ ρ' s', Sat ⟨X.K, ca⟩ S0 ρ' s' σ' H' ∧ PostS ⟨X.K, ca⟩ W nf S0 ρ' s' σ' H' (whF mu mb m s') E, fun σ' H' n => ⟨m, Nat.lt_succ_self _, n⟩, ?_⟩
      have hp3 : PostS ⟨X.K, ca⟩ W nf S0 ρ3 s3 σ2 H3 ((mb s3).bind (aft (whF mu mb m))) E := hp3
      exact hb.ev _ _ _ _ _ _ t3 (postS_aft hp3 fun s4 σ4 H4 ρ4 t4 n4 _ hp4 => ⟨ρ4, s4, t4, hp4⟩)
    | false =>
      rw [if_neg Bool.false_ne_true] at hp3 ⊢
      exact PostS.nx (X := W) hp3 t3
end
end Mi

namespace Mi
open PySem PySem.Spec PyProof.Rows L2

/-! ### comprehensions -/
def wipeE (e : List Slot) : List Nat → List Slot
  | [] => e
  | v :: vs => (wipeE e vs).set v .no
def backE (e0 e : List Slot) : List Nat → List Slot
  | [] => e
  | v :: vs => (backE e0 e vs).set v (e0.getD v .no)
def notOwn : Slot → Bool | .own _ => false | _ => true
def freeOf (e : List Slot) (vs : List Nat) : Bool := vs.all fun v => notOwn (e.getD v .no)
theorem wipeE_len {e : List Slot} : ∀ vs, (wipeE e vs).length = e.length
  | [] => rfl
  | v :: vs => by unfold wipeE; rw [List.length_set, wipeE_len vs]
theorem backE_len {e0 e : List Slot} : ∀ vs, (backE e0 e vs).length = e.length
  | [] => rfl
  | v :: vs => by unfold backE; rw [List.length_set, backE_len vs]
theorem wipeE_out {e : List Slot} {i : Nat} : ∀ {vs : List Nat}, i ∉ vs → (wipeE e vs)[i]? = e[i]?
  | [], _ => rfl
  | v :: vs, h => by
    unfold wipeE
    rw [List.getElem?_set_ne (fun z => h (by rw [z]; exact List.mem_cons_self)), wipeE_out fun z => h (List.mem_cons_of_mem _ z)]
theorem wipeE_in {e : List Slot} {i : Nat} : ∀ {vs : List Nat}, i ∈ vs → ∀ x, (wipeE e vs)[i]? = some x → x = .no
  | v :: vs, h, x, q => by
    unfold wipeE at q
    rcases getset q with ⟨_, z⟩ | ⟨ne, q⟩
    · exact z.symm
    · rcases List.mem_cons.mp h with z | z
      · exact (ne z).elim
      · exact wipeE_in z x q
theorem backE_out {e0 e : List Slot} {i : Nat} : ∀ {vs : List Nat}, i ∉ vs → (backE e0 e vs)[i]? = e[i]?
  | [], _ => rfl
  | v :: vs, h => by
    unfold backE
    rw [List.getElem?_set_ne (fun z => h (by rw [z]; exact List.mem_cons_self)), backE_out fun z => h (List.mem_cons_of_mem _ z)]
theorem backE_in {e0 e : List Slot} {i : Nat} : ∀ {vs : List Nat}, i ∈ vs → ∀ x, (backE e0 e vs)[i]? = some x → x = e0.getD i .no
  | v :: vs, h, x, q => by
    unfold backE at q
    rcases getset q with ⟨z1, z⟩ | ⟨ne, q⟩
    · rw [z1]; exact z.symm
    · rcases List.mem_cons.mp h with z | z
      · exact (ne z).elim
      · exact backE_in z x q
theorem free_own {e : List Slot} {vs : List Nat} {i : Nat} {d : D} (f : freeOf e vs = true) (h : i ∈ vs) : e[i]? ≠ some (.own d) := fun z => by
  have := List.all_eq_true.mp f i h
  rw [List.getD_eq_getElem?_getD, z] at this
  cases this
/-- a target that stores to vs alone -/
def GW (g : TG) (vs : List Nat) : Prop := ∀ v σ H Q, g v σ H (fun σ2 H2 => wipe σ2 vs = wipe σ vs → Q σ2 H2) → g v σ H Q
theorem wipe_set {σ : L2.St} {i : Nat} {x : Option V} : ∀ {vs : List Nat}, i ∈ vs → wipe (σ.set i x) vs = wipe σ vs
  | v :: vs, h => by
    unfold wipe
    by_cases hi : i ∈ vs
    · rw [wipe_set hi]
    · have hv : i = v := (List.mem_cons.mp h).resolve_right hi
      subst hv
      have key : ∀ (ws : List Nat), i ∉ ws → wipe (σ.set i x) ws = (wipe σ ws).set i x := by
        intro ws
        induction ws with
        | nil => intro _; rfl
        | cons w ws ih =>
          intro hw
          unfold wipe
          rw [ih fun z => hw (List.mem_cons_of_mem _ z)]
          exact List.set_comm _ _ (fun z => hw (by rw [z]; exact List.mem_cons_self))
      rw [key vs hi, List.set_set]
theorem gw_name {i : Nat} {vs : List Nat} (h : i ∈ vs) : GW (gName i) vs := fun v σ H Q q => q (wipe_set h)
def GWs (g : TGs) (vs : List Nat) : Prop := ∀ xs σ H Q, g xs σ H (fun σ2 H2 => wipe σ2 vs = wipe σ vs → Q σ2 H2) → g xs σ H Q
theorem gws_nil {vs : List Nat} : GWs gNil vs := fun xs σ H Q q => ⟨q.1, q.2 rfl⟩
/-- what it leads to may be weakened -/
def GMono (g : TG) : Prop := ∀ v σ H Q Q', (∀ σ2 H2, Q σ2 H2 → Q' σ2 H2) → g v σ H Q → g v σ H Q'
theorem gm_name {i : Nat} : GMono (gName i) := fun v σ H Q Q' h q => h _ _ q
theorem gws_cons {g : TG} {gs : TGs} {vs : List Nat} (h1 : GW g vs) (m1 : GMono g) (h2 : GWs gs vs) : GWs (gCons g gs) vs := fun xs σ H Q q => by
  obtain ⟨v, r, e, q⟩ := q
  refine ⟨v, r, e, h1 v σ H _ (m1 v σ H _ _ (fun σ2 H2 z hw => ?_) q)⟩
  refine h2 r σ2 H2 Q ?_
  rw [hw]
  exact z
theorem gw_tup {K : PySem.W.Frag} {n : Nat} {gs : TGs} {vs : List Nat} (h : GWs gs vs) : GW (gTup K n gs) vs := fun v σ H Q q => by
  obtain ⟨a, xs, e, hs, hl, q⟩ := q
  exact ⟨a, xs, e, hs, hl, h xs σ H Q q⟩
def lcF (I : Itd) (tg : TgF) (tt : M Bool) (te : M Loc) (vs : List Nat) : Nat → List D → Nat → M D
  | 0, _, _ => stk
  | n + 1, acc, i => bnd (itN I i) fun o => match o with
    | none => ret (.lst acc)
    | some d => fun s => if freeOf s.e vs = true then match tg d ⟨wipeE s.e vs, s.t⟩ with
      | none => .stuck
      | some s1 => match tt s1 with
        | .ok true s2 => match (te s2).bind toVal with
          | .ok d s3 => if freeOf s3.e vs = true ∧ acc.length < lim then lcF I tg tt te vs n (acc ++ [d]) (i + 1) ⟨backE s.e s3.e vs, s3.t⟩ else .stuck
          | _ => .stuck
        | .ok false s2 => if freeOf s2.e vs = true then lcF I tg tt te vs n acc (i + 1) ⟨backE s.e s2.e vs, s2.t⟩ else .stuck
        | _ => .stuck
      else .stuck
def nLc (mi : M Itd) (tg : TgF) (tt : M Bool) (te : M Loc) (vs : List Nat) : M D := bnd mi fun I => lcF I tg tt te vs lim [] 0
section
variable {G : Gc} {S0 : Addr → Prop} {ρ ρ' : List Addr} {s s' : S} {σ σ' : L2.St} {H H' : Hp} {vs : List Nat} {o : HO} {a : Addr}
theorem wa_wipe (f : freeOf s.e vs = true) : Wa S0 ρ (wipeE s.e vs) (wipe σ vs) = Wa S0 ρ s.e σ := by
  funext b
  apply propext
  constructor
  · rintro (w | w | ⟨i, d, e1, e2⟩)
    · exact .inl w
    · exact .inr (.inl w)
    · by_cases hi : i ∈ vs
      · cases wipeE_in hi _ e1
      · rw [wipeE_out hi] at e1
        rw [wipe_out hi] at e2
        exact .inr (.inr ⟨i, d, e1, e2⟩)
  · rintro (w | w | ⟨i, d, e1, e2⟩)
    · exact .inl w
    · exact .inr (.inl w)
    · have hi : i ∉ vs := fun h => free_own f h e1
      exact .inr (.inr ⟨i, d, by rw [wipeE_out hi]; exact e1, by rw [wipe_out hi]; exact e2⟩)
theorem Sat.wipe (t : Sat G S0 ρ s σ H) (f : freeOf s.e vs = true) : Sat G S0 ρ ⟨wipeE s.e vs, s.t⟩ (L2.wipe σ vs) H := by
  have hw := wa_wipe (S0 := S0) (ρ := ρ) (σ := σ) f
  refine ⟨by rw [wipe_length]; exact (wipeE_len vs).trans t.len, fun i d e => ?_, fun i d e => ?_, fun i j b d d' e1 e2 e3 e4 => ?_, t.rlen, fun n b d e1 e2 => ?_, t.nd, t.rs, t.s0⟩
  · show ∃ v, (L2.wipe σ vs)[i]? = some (some v) ∧ Rep G (Wa S0 ρ (wipeE s.e vs) (L2.wipe σ vs)) ρ H v d
    rw [hw]
    by_cases hi : i ∈ vs
    · cases wipeE_in hi _ e
    · have e : (wipeE s.e vs)[i]? = some (.val d) := e
      rw [wipeE_out hi] at e
      rw [wipe_out hi]
      exact t.val i d e
  · show ∃ b, (L2.wipe σ vs)[i]? = some (some (.ref b)) ∧ ORep G (Wa S0 ρ (wipeE s.e vs) (L2.wipe σ vs)) ρ H b d ∧ b ∉ ρ ∧ ¬ S0 b
    rw [hw]
    by_cases hi : i ∈ vs
    · cases wipeE_in hi _ e
    · have e : (wipeE s.e vs)[i]? = some (.own d) := e
      rw [wipeE_out hi] at e
      rw [wipe_out hi]
      exact t.own i d e
  · have f1 : i ∉ vs := fun h => by cases wipeE_in h _ e1
    have f2 : j ∉ vs := fun h => by cases wipeE_in h _ e2
    have e1 : (wipeE s.e vs)[i]? = some (.own d) := e1
    have e2 : (wipeE s.e vs)[j]? = some (.own d') := e2
    rw [wipeE_out f1] at e1
    rw [wipeE_out f2] at e2
    rw [wipe_out f1] at e3
    rw [wipe_out f2] at e4
    exact t.inj i j b d d' e1 e2 e3 e4
  · show ORep G (Wa S0 ρ (wipeE s.e vs) (L2.wipe σ vs)) ρ H b d
    rw [hw]; exact t.sto n b d e1 e2
theorem same_out (hw : L2.wipe σ' vs = L2.wipe σ vs) {i : Nat} (h : i ∉ vs) : σ'[i]? = σ[i]? := by
  rw [← wipe_out h, hw, wipe_out h]
theorem wa_back {e0 : List Slot} (f0 : freeOf e0 vs = true) (f : freeOf s.e vs = true) (hw : L2.wipe σ' vs = L2.wipe σ vs) : Wa S0 ρ (backE e0 s.e vs) σ = Wa S0 ρ s.e σ' := by
  funext b
  apply propext
  constructor
  · rintro (w | w | ⟨i, d, e1, e2⟩)
    · exact .inl w
    · exact .inr (.inl w)
    · by_cases hi : i ∈ vs
      · have z := backE_in hi _ e1
        have := List.all_eq_true.mp f0 i hi
        rw [← z] at this
        cases this
      · rw [backE_out hi] at e1
        exact .inr (.inr ⟨i, d, e1, by rw [same_out hw hi]; exact e2⟩)
  · rintro (w | w | ⟨i, d, e1, e2⟩)
    · exact .inl w
    · exact .inr (.inl w)
    · have hi : i ∉ vs := fun h => free_own f h e1
      exact .inr (.inr ⟨i, d, by rw [backE_out hi]; exact e1, by rw [← same_out hw hi]; exact e2⟩)
/-- behind an element: the frame as it was -/
theorem Sat.back2 (t0 : Sat G S0 ρ s σ H) (f0 : freeOf s.e vs = true) (t : Sat G S0 ρ' s' σ' H') (f : freeOf s'.e vs = true) (hw : L2.wipe σ' vs = L2.wipe σ vs) (hl : s'.e.length = s.e.length) (k : Kp S0 (Wa S0 ρ s.e σ) H (Wa S0 ρ' s'.e σ') H') (p : ρ <+: ρ') :
    Sat G S0 ρ' ⟨backE s.e s'.e vs, s'.t⟩ σ H' := by
  have hW := wa_back (S0 := S0) (ρ := ρ') f0 f hw
  refine ⟨(backE_len vs).trans (hl.trans t0.len), fun i d e => ?_, fun i d e => ?_, fun i j b d d' e1 e2 e3 e4 => ?_, t.rlen, fun n b d e1 e2 => ?_, t.nd, t.rs, t.s0⟩
  · show ∃ v, σ[i]? = some (some v) ∧ Rep G (Wa S0 ρ' (backE s.e s'.e vs) σ) ρ' H' v d
    rw [hW]
    have e : (backE s.e s'.e vs)[i]? = some (.val d) := e
    by_cases hi : i ∈ vs
    · have z := backE_in hi _ e
      have z : s.e[i]? = some (.val d) := by
        rw [List.getD_eq_getElem?_getD] at z
        cases q : s.e[i]? with
        | none => rw [q] at z; cases z
        | some y => rw [q] at z; cases z; rfl
      obtain ⟨v, e1, r⟩ := t0.val i d z
      exact ⟨v, e1, r.mono k p⟩
    · rw [backE_out hi] at e
      rw [← same_out hw hi]
      exact t.val i d e
  · show ∃ b, σ[i]? = some (some (.ref b)) ∧ ORep G (Wa S0 ρ' (backE s.e s'.e vs) σ) ρ' H' b d ∧ b ∉ ρ' ∧ ¬ S0 b
    rw [hW]
    have e : (backE s.e s'.e vs)[i]? = some (.own d) := e
    by_cases hi : i ∈ vs
    · have z := backE_in hi _ e
      have := List.all_eq_true.mp f0 i hi
      rw [← z] at this
      cases this
    · rw [backE_out hi] at e
      rw [← same_out hw hi]
      exact t.own i d e
  · have g : ∀ {i : Nat} {d : D}, (backE s.e s'.e vs)[i]? = some (.own d) → i ∉ vs := fun {i d} e hi => by
      have z := backE_in hi _ e
      have := List.all_eq_true.mp f0 i hi
      rw [← z] at this
      cases this
    have f1 := g e1
    have f2 := g e2
    have e1 : (backE s.e s'.e vs)[i]? = some (.own d) := e1
    have e2 : (backE s.e s'.e vs)[j]? = some (.own d') := e2
    rw [backE_out f1] at e1
    rw [backE_out f2] at e2
    rw [← same_out hw f1] at e3
    rw [← same_out hw f2] at e4
    exact t.inj i j b d d' e1 e2 e3 e4
  · show ORep G (Wa S0 ρ' (backE s.e s'.e vs) σ) ρ' H' b d
    rw [hW]; exact t.sto n b d e1 e2
/-- the thing that no one else knows changes -/
theorem Sat.updS1 (t : Sat G (S1 S0 a) ρ s σ H) (nw : ¬ Wa S0 ρ s.e σ a) : Sat G (S1 S0 a) ρ s σ (upd H a o) ∧ Kp S0 (Wa (S1 S0 a) ρ s.e σ) H (Wa (S1 S0 a) ρ s.e σ) (upd H a o) := by
  have wa : Wa (S1 S0 a) ρ s.e σ a := .inl (.inr rfl)
  have kp : Kp S0 (Wa (S1 S0 a) ρ s.e σ) H (Wa (S1 S0 a) ρ s.e σ) (upd H a o) := kp_mut wa fun h => nw (.inl h)
  have pf := List.prefix_refl ρ
  refine ⟨⟨t.len, fun i d e => let ⟨v, e1, r⟩ := t.val i d e; ⟨v, e1, r.mono kp pf⟩, fun i d e => ?_, t.inj, t.rlen, fun n b d e1 e2 => ?_, t.nd, t.rs, fun b w => ?_⟩, kp⟩
  · obtain ⟨b, e1, r, n1, n2⟩ := t.own i d e
    exact ⟨b, e1, r.mono kp pf (upd_ne fun z => n2 (.inr z)), n1, n2⟩
  · exact (t.sto n b d e1 e2).mono kp pf (upd_ne fun z => t.rs b (List.mem_of_getElem? e1) (.inr z))
  · by_cases z : b = a
    · exact ⟨o, by rw [z]; exact upd_same⟩
    · obtain ⟨u, e⟩ := t.s0 b w
      exact ⟨u, by rw [upd_ne z]; exact e⟩
theorem toVal_ok {l : Loc} {v : V} (t : Sat G S0 ρ s σ H) (r : LRep G (Wa S0 ρ s.e σ) ρ H σ v l) : toVal l s = .stuck ∨ ∃ d s1, toVal l s = .ok d s1 ∧ Sat G S0 ρ s1 σ H ∧ Nx S0 ρ s.e σ H ρ s1.e σ H ∧ Rep G (Wa S0 ρ s1.e σ) ρ H v d := by
  cases l with
  | val d => exact .inr ⟨d, s, rfl, t, .refl, r⟩
  | own i =>
    have r' : σ[i]? = some (some v) := r
    cases e : s.e[i]? with
    | none => exact .inl (by simp only [toVal, e])
    | some sl =>
      cases sl with
      | no => exact .inl (by simp only [toVal, e])
      | val d =>
        obtain ⟨v', e1, q⟩ := t.val i d e
        rw [r'] at e1; cases e1
        exact .inr ⟨d, s, by simp only [toVal, e], t, .refl, q⟩
      | own d =>
        obtain ⟨t1, n1⟩ := t.freeze e
        obtain ⟨v', e1, q⟩ := t1.val i d (List.getElem?_set_self (List.getElem?_eq_some_iff.mp e).1)
        rw [r'] at e1; cases e1
        exact .inr ⟨d, _, by simp only [toVal, e], t1, n1, q⟩
end
abbrev W0 : WX := fun _ _ _ _ => False
section
variable {X : Cx} {ca : Nat → Addr} {W : WX} {elt tg iter : Expr} {ifs : List Expr} {scope : Scope} {own : List (Str × Nat)} {pos : Pos} {wi : TI} {mi : M Itd} {g : TG} {a : TgF} {tt : TT} {mt : M Bool} {te : TE} {me : M Loc}
/-- one of the block's frames -/
abbrev Blk (X : Cx) (scope : Scope) (s : Shared) (H : Hp) (C : Addr) (cl : List (Str × Addr)) (fp : List Addr) : Cx := X.blk s H scope (compEnvC scope cl C X.env) fp
structure JTs (X : Cx) (ca : Nat → Addr) (W : WX) (ifs : List Expr) (tt : TT) (m : M Bool) : Prop where
  pts : PTs X ifs tt
  ev : Ev ⟨X.K, ca⟩ W BRel tt m
theorem jts_nil : JTs X ca W [] tYes (ret true) := ⟨pts_nil, fun S0 ρ s σ H Q t hp => Post.ret (R := BRel) hp t rfl⟩
theorem jts_one {c : Expr} {tu : TT} {mu : M Bool} (h : JT X ca W c tu mu) : JTs X ca W [c] tu mu := ⟨pts_one h.pt, h.ev⟩
theorem ev_lc {G : Gc} {vs : List Nat} (hi : Ev G W (IRel G) wi mi) (hg : EvG G 0 g a) (gw : GW g vs) (ht : Ev G W0 BRel tt mt) (he : Ev G W0 (LRep G) te me) (hlen : ∀ d s s', a d s = some s' → s'.e.length = s.e.length) : EvN G W (tLc wi g tt te vs) (nLc mi a mt me vs) := by
  intro S0 ρ0 s0 σ H0 Q t0 hp
  refine hi _ _ _ _ _ _ t0 ((wN Q).bind hp fun I s1 _ J H1 ρ1 t1 n1 r1 hp1 D nD => ?_)
  obtain ⟨tD, kD, nwD⟩ := t1.laid (o := .lst []) nD
  refine ⟨fun i m H => ∃ ρ s acc us, Sat G (S1 S0 D) ρ s σ H ∧ ItOk G (Wa (S1 S0 D) ρ s.e σ) ρ H J I ∧ H D = some (.lst us) ∧ Reps G (Wa (S1 S0 D) ρ s.e σ) ρ H us acc ∧ ¬ Wa S0 ρ s.e σ D ∧
      Kp S0 (Wa S0 ρ1 s1.e σ) H1 (Wa (S1 S0 D) ρ s.e σ) H ∧ ρ1 <+: ρ ∧ PostN G W S0 ρ1 s1 σ H1 (lcF I a mt me vs m acc i s) Q,
    ⟨lim, ρ1, s1, [], [], tD, r1.mono kD (List.prefix_refl _), upd_same, .nil, nwD, kD, List.prefix_refl _, hp1⟩, ?_⟩
  rintro i m H ⟨ρ, s, acc, us, t, ok, hD, rs, nw, k, p, hp⟩
  cases m with
  | zero => exact hp.elim
  | succ m =>
    have hp : PostN G W S0 ρ1 s1 σ H1 ((itN I i s).bind fun o => match o with
      | none => ret (.lst acc)
      | some d => fun s => if freeOf s.e vs = true then match a d ⟨wipeE s.e vs, s.t⟩ with
        | none => .stuck
        | some s1 => match mt s1 with
          | .ok true s2 => match (me s2).bind toVal with
            | .ok d s3 => if freeOf s3.e vs = true ∧ acc.length < lim then lcF I a mt me vs m (acc ++ [d]) (i + 1) ⟨backE s.e s3.e vs, s3.t⟩ else .stuck
            | _ => .stuck
          | .ok false s2 => if freeOf s2.e vs = true then lcF I a mt me vs m acc (i + 1) ⟨backE s.e s2.e vs, s2.t⟩ else .stuck
          | _ => .stuck
        else .stuck) Q := hp
    rcases itN_seq t ok i with z | ⟨z, st⟩ | ⟨d, z, go, y⟩
    · rw [z] at hp; exact hp.elim
    · rw [z] at hp
      exact .inl ⟨st, hp D H ρ t k p nw (.lst hD rs)⟩
    · rw [z] at hp
      refine .inr ⟨go, fun H' => ∃ m', m' < m + 1 ∧ ∃ ρ s acc us, Sat G (S1 S0 D) ρ s σ H' ∧ ItOk G (Wa (S1 S0 D) ρ s.e σ) ρ H' J I ∧ H' D = some (.lst us) ∧ Reps G (Wa (S1 S0 D) ρ s.e σ) ρ H' us acc ∧ ¬ Wa S0 ρ s.e σ D ∧
        Kp S0 (Wa S0 ρ1 s1.e σ) H1 (Wa (S1 S0 D) ρ s.e σ) H' ∧ ρ1 <+: ρ ∧ PostN G W S0 ρ1 s1 σ H1 (lcF I a mt me vs m' acc (i + 1) s) Q, fun H' n => n, fun x H' hy => ?_⟩
      obtain ⟨rfl, rx⟩ := y x H' hy
      have hp : PostN G W S0 ρ1 s1 σ H1 (if freeOf s.e vs = true then match a d ⟨wipeE s.e vs, s.t⟩ with
        | none => .stuck
        | some s1 => match mt s1 with
          | .ok true s2 => match (me s2).bind toVal with
            | .ok d s3 => if freeOf s3.e vs = true ∧ acc.length < lim then lcF I a mt me vs m (acc ++ [d]) (i + 1) ⟨backE s.e s3.e vs, s3.t⟩ else .stuck
            | _ => .stuck
          | .ok false s2 => if freeOf s2.e vs = true then lcF I a mt me vs m acc (i + 1) ⟨backE s.e s2.e vs, s2.t⟩ else .stuck
          | _ => .stuck
        else .stuck) Q := hp
      by_cases f0 : freeOf s.e vs = true
      · rw [if_pos f0] at hp
        have tw := t.wipe (vs := vs) f0
        have hww := wa_wipe (S0 := S1 S0 D) (ρ := ρ) (σ := σ) f0
        cases ea : a d ⟨wipeE s.e vs, s.t⟩ with
        | none => rw [ea] at hp; exact hp.elim
        | some s2 =>
          rw [ea] at hp
          refine gw x _ _ _ (hg _ _ ⟨wipeE s.e vs, s.t⟩ _ _ _ _ _ _ tw (by rw [hww]; exact rx) ea fun σ2 t2 n2 _ hw2 => ?_)
          have hw2 : wipe σ2 vs = wipe (wipe σ vs) vs := hw2
          have ww : wipe (wipe σ vs) vs = wipe σ vs := by
            apply List.ext_getElem?
            intro j
            by_cases hj : j ∈ vs
            · have l1 : (wipe (wipe σ vs) vs).length = (wipe σ vs).length := by rw [wipe_length]
              have all : ∀ (τ : L2.St), ∀ (ws : List Nat), j ∈ ws → ∀ (x : Option V), (wipe τ ws)[j]? = some x → x = none := fun τ ws => by
                induction ws with
                | nil => intro h; cases h
                | cons w ws ih =>
                  intro h x q
                  unfold wipe at q
                  rcases getset q with ⟨_, z⟩ | ⟨ne, q⟩
                  · exact z.symm
                  · exact ih ((List.mem_cons.mp h).resolve_left ne) x q
              cases q1 : (wipe (wipe σ vs) vs)[j]? with
              | none =>
                rw [List.getElem?_eq_none_iff] at q1
                rw [l1] at q1
                exact (List.getElem?_eq_none_iff.mpr q1).symm
              | some x1 =>
                have h1 := all _ vs hj x1 q1
                have hl : j < (wipe σ vs).length := by rw [← l1]; exact (List.getElem?_eq_some_iff.mp q1).1
                rw [List.getElem?_eq_getElem hl]
                have h2 := all _ vs hj _ (List.getElem?_eq_getElem hl)
                rw [h1, h2]
            · rw [wipe_out hj]
          rw [ww] at hw2
          refine ⟨hw2, ?_⟩
          have n2' : Kp (S1 S0 D) (Wa (S1 S0 D) ρ s.e σ) H' (Wa (S1 S0 D) ρ s2.e σ2) H' := by have := n2.k; rw [hww] at this; exact this
          have len2 : s2.e.length = s.e.length := (hlen _ _ _ ea).trans (wipeE_len vs)
          refine ht _ _ _ _ _ _ t2 ?_
          cases em : mt s2 with
          | stuck => simp only [em] at hp; exact hp.elim
          | exc x s3 => simp only [em] at hp; exact hp.elim
          | ok b s3 =>
            intro b' H3 ρ3 t3 n3 r3
            obtain rfl : b' = b := r3
            have hs : H3 D = some (.lst us) := n3.k.s0 D _ (.inr rfl) hD
            cases b' with
            | false =>
              simp only [em] at hp
              rw [if_neg Bool.false_ne_true]
              by_cases f3 : freeOf s3.e vs = true
              · rw [if_pos f3] at hp
                have kk : Kp (S1 S0 D) (Wa (S1 S0 D) ρ s.e σ) H' (Wa (S1 S0 D) ρ3 s3.e σ2) H3 := n2'.trans n3.k
                have hl3 : s3.e.length = s.e.length := by rw [t3.len, ← t2.len]; exact len2
                have tb := t.back2 f0 t3 f3 hw2 hl3 kk n3.p
                have hWb := wa_back (S0 := S1 S0 D) (ρ := ρ3) (s := s3) (e0 := s.e) f0 f3 hw2
                refine ⟨m, Nat.lt_succ_self _, ρ3, ⟨backE s.e s3.e vs, s3.t⟩, acc, us, tb, ?_, hs, ?_, ?_, ?_, p.trans n3.p, hp⟩
                · show ItOk G (Wa (S1 S0 D) ρ3 (backE s.e s3.e vs) σ) ρ3 H3 J I
                  rw [hWb]; exact ok.mono kk n3.p
                · show Reps G (Wa (S1 S0 D) ρ3 (backE s.e s3.e vs) σ) ρ3 H3 us acc
                  rw [hWb]; exact rs.mono kk n3.p
                · have hn := tb.rs
                  intro w
                  rcases w with w | w | ⟨j, d', e1, e2⟩
                  · exact nw (.inl w)
                  · exact tb.rs D w (.inr rfl)
                  · obtain ⟨b, e3, _, _, nb⟩ := tb.own j d' e1
                    rw [e2] at e3; cases e3
                    exact nb (.inr rfl)
                · show Kp S0 (Wa S0 ρ1 s1.e σ) H1 (Wa (S1 S0 D) ρ3 (backE s.e s3.e vs) σ) H3
                  rw [hWb]
                  exact k.trans ⟨kk.keep, kk.wn, fun b o w e => kk.s0 b o (.inl w) e⟩
              · rw [if_neg f3] at hp; exact hp.elim
            | true =>
              simp only [em] at hp
              rw [if_pos rfl]
              refine he _ _ _ _ _ _ t3 ?_
              cases ev : me s3 with
              | stuck => simp only [ev, Res.bind] at hp; exact hp.elim
              | exc x s4 => simp only [ev, Res.bind] at hp; exact hp.elim
              | ok l s4 =>
                intro v H4 ρ4 t4 n4 r4
                simp only [ev, Res.bind] at hp
                rcases toVal_ok t4 r4 with z5 | ⟨d5, s5, z5, t5, n5, r5⟩
                · rw [z5] at hp; exact hp.elim
                · rw [z5] at hp
                  have hp : PostN G W S0 ρ1 s1 σ H1 (if freeOf s5.e vs = true ∧ acc.length < lim then lcF I a mt me vs m (acc ++ [d5]) (i + 1) ⟨backE s.e s5.e vs, s5.t⟩ else .stuck) Q := hp
                  by_cases f5 : freeOf s5.e vs = true ∧ acc.length < lim
                  · rw [if_pos f5] at hp
                    have kk : Kp (S1 S0 D) (Wa (S1 S0 D) ρ s.e σ) H' (Wa (S1 S0 D) ρ4 s5.e σ2) H4 := ((n2'.trans n3.k).trans n4.k).trans n5.k
                    have pp : ρ <+: ρ4 := n3.p.trans n4.p
                    have hl5 : s5.e.length = s.e.length := by rw [t5.len, ← t2.len]; exact len2
                    have tb := t.back2 f0 t5 f5.1 hw2 hl5 kk pp
                    have hWb := wa_back (S0 := S1 S0 D) (ρ := ρ4) (s := s5) (e0 := s.e) f0 f5.1 hw2
                    have nw5 : ¬ Wa S0 ρ4 (backE s.e s5.e vs) σ D := by
                      intro w
                      rcases w with w | w | ⟨j, d', e1, e2⟩
                      · exact nw (.inl w)
                      · exact tb.rs D w (.inr rfl)
                      · obtain ⟨b, e3, _, _, nb⟩ := tb.own j d' e1
                        rw [e2] at e3; cases e3
                        exact nb (.inr rfl)
                    have hs4 : H4 D = some (.lst us) := n4.k.s0 D _ (.inr rfl) hs
                    obtain ⟨tu, ku⟩ := Sat.updS1 (o := .lst (us ++ [v])) tb nw5
                    have ku : Kp S0 (Wa (S1 S0 D) ρ4 (backE s.e s5.e vs) σ) H4 (Wa (S1 S0 D) ρ4 (backE s.e s5.e vs) σ) (upd H4 D (.lst (us ++ [v]))) := ku
                    refine ⟨us, hs4, lim_lt (by rw [rs.length]; exact f5.2), m, Nat.lt_succ_self _, ρ4, ⟨backE s.e s5.e vs, s5.t⟩, acc ++ [d5], us ++ [v], tu, ?_, upd_same, ?_, nw5, ?_, p.trans pp, hp⟩
                    · show ItOk G (Wa (S1 S0 D) ρ4 (backE s.e s5.e vs) σ) ρ4 _ J I
                      rw [hWb] at ku ⊢; exact (ok.mono kk pp).mono ku (List.prefix_refl _)
                    · show Reps G (Wa (S1 S0 D) ρ4 (backE s.e s5.e vs) σ) ρ4 _ (us ++ [v]) (acc ++ [d5])
                      rw [hWb] at ku ⊢; exact ((rs.mono kk pp).append (.cons r5 .nil)).mono ku (List.prefix_refl _)
                    · show Kp S0 (Wa S0 ρ1 s1.e σ) H1 (Wa (S1 S0 D) ρ4 (backE s.e s5.e vs) σ) _
                      have k1 : Kp S0 (Wa (S1 S0 D) ρ s.e σ) H' (Wa (S1 S0 D) ρ4 (backE s.e s5.e vs) σ) H4 := by rw [hWb]; exact ⟨kk.keep, kk.wn, fun b o w e => kk.s0 b o (.inl w) e⟩
                      exact (k.trans k1).trans ku
                  · rw [if_neg f5] at hp; exact hp.elim
      · rw [if_neg f0] at hp; exact hp.elim
theorem gN_len {i : Nat} : ∀ d s s', gN i d s = some s' → s'.e.length = s.e.length := fun d s s' h => by
  unfold gN at h
  split at h
  · cases h; simp
  · cases h
theorem jn_lc (hc : X.calm = true) (hN : X.N.Nodup) (hi : JI X ca W tg iter wi mi) (ok : BlkOk X.N X.env.scope scope own) (hg : ∀ s H C cl fp, JG (Blk X scope s H C cl fp) ca 0 tg g a) (gw : GW g (own.map (·.2))) (hlen : ∀ d s s', a d s = some s' → s'.e.length = s.e.length)
    (ht : ∀ s H C cl fp, JTs (Blk X scope s H C cl fp) ca W0 ifs tt mt) (he : ∀ s H C cl fp, JE (Blk X scope s H C cl fp) ca W0 elt te me) (hs : ∀ x, foldedSetIterable iter X.env x = pure x := by intro _; rfl) :
    JN X ca W (.ListComp elt [⟨tg, iter, ifs, 0⟩] scope pos) (tLc wi g tt te (own.map (·.2))) (nLc mi a mt me (own.map (·.2))) :=
  ⟨pe_lc hc hN hi.pi ok (fun s H C cl fp => (hg s H C cl fp).pg) (fun s H C cl fp => (ht s H C cl fp).pts) (fun s H C cl fp => (he s H C cl fp).pe) hs, fun S0 ρ s σ H Q t hp => by
    -- one block stands for all
    exact ev_lc hi.ev ((hg X.s_0 H 0 [] []).ev) gw ((ht X.s_0 H 0 [] []).ev) ((he X.s_0 H 0 [] []).ev) hlen S0 ρ s σ H Q t hp⟩
end
end Mi

namespace Mi
open PySem PySem.Spec PyProof.Rows L2

/-! ### slices -/
def ORel : RelT (Option Int) (Option Int) := fun _ _ _ _ a b => a = b
theorem stab_O : Stab ORel := fun r _ _ => r
structure JO (X : Cx) (ca : Nat → Addr) (W : WX) (e : Option Expr) (to : TO) (m : M (Option Int)) : Prop where
  po : PO X e to
  ev : Ev ⟨X.K, ca⟩ W ORel to m
def pNo : M (Option Int) := ret none
def pSo (m : M Loc) : M (Option Int) := bnd m fun l => fun s => match l with | .val (.int i) => .ok (some i) s | _ => .stuck
def cutD (xs : List D) (lo hi : Option Int) : List D := (xs.drop (HT.sIx xs.length 0 lo)).take (HT.sIx xs.length xs.length hi - HT.sIx xs.length 0 lo)
theorem cut_reps {G : Gc} {W : Addr → Prop} {ρ : List Addr} {H : Hp} {vs : List V} {ds : List D} {lo hi : Option Int} (r : Reps G W ρ H vs ds) : Reps G W ρ H (cutV vs lo hi) (cutD ds lo hi) := by
  unfold cutV cutD
  rw [r.length]
  exact (r.drop _).take _
def rSlU (K : PySem.W.Frag) : V → Option Int → Option Int → Hp → VK → Prop := fun x lo hi H Q => rSlL K x lo hi H Q ∨ rSlA K x lo hi H Q ∨ rSlS x lo hi H Q
theorem sl_U {X : Cx} : SlR X (rSlU X.K) := sl_list.or (sl_tupA.or sl_str)
def slD (lo hi : Option Int) : D → Option D
  | .tup ds => some (.tup (cutD ds lo hi))
  | .str x => if x.length ≤ lim then some (.str (cutS x lo hi)) else none
  | .lst ds => some (.lst (cutD ds lo hi))
  | .lck ds => some (.lst (cutD ds lo hi))
  | _ => none
def eSl (m : M Loc) (ml mh : M (Option Int)) : M Loc := bnd m fun l => bnd ml fun lo => bnd mh fun hi => bnd (cont l) fun c => opt (slD lo hi c)
def nSl (m : M Loc) (ml mh : M (Option Int)) : M D := bnd m fun l => bnd ml fun lo => bnd mh fun hi => bnd (cont l) fun c => fun s => match c with
  | .lst ds => .ok (.lst (cutD ds lo hi)) s
  | .lck ds => .ok (.lst (cutD ds lo hi)) s
  | _ => .stuck
section
variable {G : Gc} {X : Cx} {ca : Nat → Addr} {W : WX} {e a b c : Expr} {es : List Expr} {te ta tb tc : TE} {tA : TA} {m ma mb mc : M Loc} {mA : M (List Loc)} {pos p : Pos} {tl th : TO} {ml mh : M (Option Int)} {lo hi : Option Expr}
theorem jo_none : JO X ca W none tNoPart pNo := ⟨po_none, fun S0 ρ s σ H Q t hp => Post.ret (R := ORel) hp t rfl⟩
theorem jo_some (h : JE X ca W e te m) : JO X ca W (some e) (tPart te) (pSo m) := ⟨po_some h.pe, fun S0 ρ s σ H Q t hp => by
  refine h.ev _ _ _ _ _ _ t (post_bind hp fun l s1 _ v H1 ρ1 t1 n1 r1 hp1 => ?_)
  cases l with
  | own i => exact hp1.elim
  | val d =>
    cases d with
    | int i =>
      obtain rfl := br_int (.inl (show Rep ⟨X.K, ca⟩ _ _ _ v (.int i) from r1))
      exact ⟨i, rfl, Post.ret (R := ORel) hp1 t1 rfl⟩
    | _ => exact hp1.elim⟩
theorem je_sl {p2 : Pos} (he : JE X ca W e te m) (hl : JO X ca W lo tl ml) (hh : JO X ca W hi th mh) : JE X ca W (.Subscript e (.Slice lo hi none p2) pos) (tSl (rSlU X.K) te tl th) (eSl m ml mh) := by
  refine ⟨pe_slice sl_U he.pe hl.po hh.po, fun S0 ρ s σ H Q t hp => ?_⟩
  refine he.ev _ _ _ _ _ _ t (post_bind hp fun l s1 _ v H1 ρ1 t1 n1 r1 hp1 => ?_)
  refine hl.ev _ _ _ _ _ _ t1 (post_bind hp1 fun o1 s2 _ o1' H2 ρ2 t2 n2 r2 hp2 => ?_)
  refine hh.ev _ _ _ _ _ _ t2 (post_bind hp2 fun o2 s3 _ o2' H3 ρ3 t3 n3 r3 hp3 => ?_)
  obtain rfl : o1' = o1 := r2
  obtain rfl : o2' = o2 := r3
  have r1 := stab_L (stab_L r1 n2.k n2.p) n3.k n3.p
  refine post_cont t3 r1 hp3 fun d bd hp4 => post_opt t3 hp4 fun d' e' q => ?_
  cases d with
  | tup ds =>
    cases e'
    obtain ⟨a, vs, rfl, hs, rr, z⟩ := br_tup bd
    refine .inr (.inl ⟨a, vs, hs |> fun _ => rfl, hs, fun w => ?_, fun w p n => q _ _ (.new n) (new_tup t3.tk n (cut_reps rr))⟩)
    have : cutD ds o1' o2' = ds := by
      unfold cutD
      rw [← rr.length, w.1, w.2, List.drop_zero, Nat.sub_zero, rr.length, List.take_length]
    rw [this] at q
    exact q _ _ .refl z
  | str x =>
    obtain rfl := br_str bd
    by_cases hx : x.length ≤ lim
    · have e' : some (D.str (cutS x o1' o2')) = some d' := (if_pos hx).symm.trans e'
      cases e'
      exact .inr (.inr ⟨x, rfl, lim_line hx, q _ _ .refl .str⟩)
    · have e' : none = some d' := (if_neg hx).symm.trans e'
      cases e'
  | lst ds => cases e'; obtain ⟨a, vs, rfl, hs, rr⟩ := br_lst bd; exact .inl ⟨a, vs, rfl, .inl (.inl hs), fun p n => q _ _ (.new n) (new_lst t3.tk n (cut_reps rr))⟩
  | lck ds => cases e'; obtain ⟨a, vs, rfl, hs, rr⟩ := br_lck bd; exact .inl ⟨a, vs, rfl, hs, fun p n => q _ _ (.new n) (new_lst t3.tk n (cut_reps rr))⟩
  | _ => cases e'
theorem jn_sl {p2 : Pos} (he : JE X ca W e te m) (hl : JO X ca W lo tl ml) (hh : JO X ca W hi th mh) : JN X ca W (.Subscript e (.Slice lo hi none p2) pos) (tSl (rSlL X.K) te tl th) (nSl m ml mh) := by
  refine ⟨pe_slice sl_list he.pe hl.po hh.po, fun S0 ρ s σ H Q t hp => ?_⟩
  refine he.ev _ _ _ _ _ _ t ((wN Q).bind hp fun l s1 _ v H1 ρ1 t1 n1 r1 hp1 => ?_)
  refine hl.ev _ _ _ _ _ _ t1 ((wN Q).bind hp1 fun o1 s2 _ o1' H2 ρ2 t2 n2 r2 hp2 => ?_)
  refine hh.ev _ _ _ _ _ _ t2 ((wN Q).bind hp2 fun o2 s3 _ o2' H3 ρ3 t3 n3 r3 hp3 => ?_)
  obtain rfl : o1' = o1 := r2
  obtain rfl : o2' = o2 := r3
  have r1 := stab_L (stab_L r1 n2.k n2.p) n3.k n3.p
  refine (wN Q).cont t3 r1 hp3 fun d bd _ hp4 => ?_
  cases d with
  | lst ds => obtain ⟨a, vs, rfl, hs, rr⟩ := br_lst bd; exact ⟨a, vs, rfl, .inl (.inl hs), fun p n => laid_lst (X := W) t3 (cut_reps rr) hp4 n⟩
  | lck ds => obtain ⟨a, vs, rfl, hs, rr⟩ := br_lck bd; exact ⟨a, vs, rfl, hs, fun p n => laid_lst (X := W) t3 (cut_reps rr) hp4 n⟩
  | _ => exact hp4.elim

/-! ### y = [..] as a statement of its own -/
variable {nf : Nat} {elt tg iter : Expr} {ifs : List Expr} {scope : Scope} {own : List (Str × Nat)} {wi : TI} {mi : M Itd} {g : TG} {aa : TgF} {tt : TT} {mt : M Bool} {me : M Loc} {te' : TE} {i : Nat} {y : Str} {py spos : Pos}
theorem ps_lcAt (hc : X.calm = true) (hN : X.N.Nodup) (hy : X.N[i]? = some y) (hyl : X.env.scope.names.lookup y = some .local) (hsw : swapsWith (.ListComp elt [⟨tg, iter, ifs, 0⟩] scope pos) (some (.Name y py)) spos.line X.env = pure true)
    (hi : JI X ca W tg iter wi mi) (ok : BlkOk X.N X.env.scope scope own) (hg : ∀ s H C cl fp, JG (Blk X scope s H C cl fp) ca 0 tg g aa) (gw : GW g (own.map (·.2))) (hlen : ∀ d s s', aa d s = some s' → s'.e.length = s.e.length)
    (ht : ∀ s H C cl fp, JTs (Blk X scope s H C cl fp) ca W0 ifs tt mt) (he : ∀ s H C cl fp, JE (Blk X scope s H C cl fp) ca W0 elt te' me) (hs : ∀ x, foldedSetIterable iter X.env x = pure x) :
    PS X (.Assign [.Name y py] (.ListComp elt [⟨tg, iter, ifs, 0⟩] scope pos) spos) (tAsg (tLc wi g tt te' (own.map (·.2))) (gName i)) ∧ EvN ⟨X.K, ca⟩ W (tLc wi g tt te' (own.map (·.2))) (nLc mi aa mt me (own.map (·.2))) :=
  ⟨ps_setLc hc hN hy hyl hsw hi.pi ok (fun s H C cl fp => (hg s H C cl fp).pg) (fun s H C cl fp => (ht s H C cl fp).pts) (fun s H C cl fp => (he s H C cl fp).pe) hs, (jn_lc hc hN hi ok hg gw hlen ht he hs (pos := pos)).ev⟩
/-- kept by its name alone | frozen -/
theorem js_ownLc (hc : X.calm = true) (hN : X.N.Nodup) (hy : X.N[i]? = some y) (hyl : X.env.scope.names.lookup y = some .local) (hsw : swapsWith (.ListComp elt [⟨tg, iter, ifs, 0⟩] scope pos) (some (.Name y py)) spos.line X.env = pure true)
    (hi : JI X ca W tg iter wi mi) (ok : BlkOk X.N X.env.scope scope own) (hg : ∀ s H C cl fp, JG (Blk X scope s H C cl fp) ca 0 tg g aa) (gw : GW g (own.map (·.2))) (hlen : ∀ d s s', aa d s = some s' → s'.e.length = s.e.length)
    (ht : ∀ s H C cl fp, JTs (Blk X scope s H C cl fp) ca W0 ifs tt mt) (he : ∀ s H C cl fp, JE (Blk X scope s H C cl fp) ca W0 elt te' me) (hs : ∀ x, foldedSetIterable iter X.env x = pure x := by intro _; rfl) (hnf : nf ≤ i := by decide) :
    JS X ca W nf (.Assign [.Name y py] (.ListComp elt [⟨tg, iter, ifs, 0⟩] scope pos) spos) (tAsg (tLc wi g tt te' (own.map (·.2))) (gName i)) (sOwn i (nLc mi aa mt me (own.map (·.2)))) :=
  have h := ps_lcAt hc hN hy hyl hsw hi ok hg gw hlen ht he hs
  ⟨h.1, ev_own hnf h.2⟩
theorem js_frzLc (hc : X.calm = true) (hN : X.N.Nodup) (hy : X.N[i]? = some y) (hyl : X.env.scope.names.lookup y = some .local) (hsw : swapsWith (.ListComp elt [⟨tg, iter, ifs, 0⟩] scope pos) (some (.Name y py)) spos.line X.env = pure true)
    (hi : JI X ca W tg iter wi mi) (ok : BlkOk X.N X.env.scope scope own) (hg : ∀ s H C cl fp, JG (Blk X scope s H C cl fp) ca 0 tg g aa) (gw : GW g (own.map (·.2))) (hlen : ∀ d s s', aa d s = some s' → s'.e.length = s.e.length)
    (ht : ∀ s H C cl fp, JTs (Blk X scope s H C cl fp) ca W0 ifs tt mt) (he : ∀ s H C cl fp, JE (Blk X scope s H C cl fp) ca W0 elt te' me) (hs : ∀ x, foldedSetIterable iter X.env x = pure x := by intro _; rfl) (hnf : nf ≤ i := by decide) :
    JS X ca W nf (.Assign [.Name y py] (.ListComp elt [⟨tg, iter, ifs, 0⟩] scope pos) spos) (tAsg (tLc wi g tt te' (own.map (·.2))) (gName i)) (sAsg (gN i) (eFrz (nLc mi aa mt me (own.map (·.2))))) :=
  have h := ps_lcAt hc hN hy hyl hsw hi ok hg gw hlen ht he hs
  ⟨h.1, ev_asg (ev_frz h.2) (ev_name hnf)⟩

/-! ### x op= e at a name -/
def sAug (i : Nat) (f : D → D → Option D) (m : M Loc) : M Fl := bnd (vr i) fun l0 => bnd (toVal l0) fun d0 => bnd m fun l => bnd (cont l) fun d => bnd (opt (f d0 d)) fun l2 => bnd (toVal l2) fun d2 => fun s => match gN i d2 s with | some s' => .ok .nx s' | none => .stuck
/-- .. of an int or a text, by values -/
theorem js_aug {x : Str} {op : Operator} {r : R2} {f : D → D → Option D} {pos' : Pos} (hN : X.N.Nodup) (hi : X.N[i]? = some x) (hx : L2.Loc X.env.scope x) (ho : OpR X (inplaceOp op) r) (sp : Sp2 ⟨X.K, ca⟩ r f) (he : JE X ca W e te m) (hf : X.fn x = true ∨ X.env.scope.names.lookup x = some .local := by first | exact .inl rfl | exact .inr rfl | assumption)
    (hnf : nf ≤ i := by decide) : JS X ca W nf (.AugAssign (.Name x pos') op e pos) (tAug i te r) (sAug i f m) := by
  refine ⟨ps_aug hN hi hx he.pe ho hf, fun S0 ρ s σ H E t hp => ?_⟩
  have hp : PostS ⟨X.K, ca⟩ W nf S0 ρ s σ H ((vr i s).bind fun l0 => bnd (toVal l0) fun d0 => bnd m fun l => bnd (cont l) fun d => bnd (opt (f d0 d)) fun l2 => bnd (toVal l2) fun d2 => fun s => match gN i d2 s with | some s' => .ok .nx s' | none => .stuck) E := hp
  have key := ev_vr (W := W) (G := ⟨X.K, ca⟩) (i := i) S0 ρ s σ H (fun v H1 => te σ H1 fun y H2 => r v y H2 fun z H3 => E.nx (σ.set i (some z)) H3) t
    ((wS (nf := nf) E).bind (R1 := LRep ⟨X.K, ca⟩) hp fun l0 s1 _ v H1 ρ1 t1 n1 r1 hp1 => (wS (nf := nf) E).toVal t1 r1 hp1 fun d0 s2 t2 n2 r2 hp2 => ?_)
  · obtain ⟨v, e1, q⟩ := key
    exact ⟨v, e1, q⟩
  · refine he.ev _ _ _ _ _ _ t2 ((wS (nf := nf) E).bind hp2 fun l s3 _ u H3 ρ3 t3 n3 r3 hp3 => (wS (nf := nf) E).cont t3 r3 hp3 fun d bd _ hp4 => ?_)
    have hp4 : PostS ⟨X.K, ca⟩ W nf S0 ρ3 s3 σ H3 ((opt (f d0 d) s3).bind fun l2 => bnd (toVal l2) fun d2 => fun s => match gN i d2 s with | some s' => .ok .nx s' | none => .stuck) E := hp4
    cases z : f d0 d with
    | none => rw [z] at hp4; exact hp4.elim
    | some d2 =>
      rw [z] at hp4
      have hp4 : PostS ⟨X.K, ca⟩ W nf S0 ρ3 s3 σ H3 (match gN i d2 s3 with | some s' => .ok .nx s' | none => .stuck) E := hp4
      refine sp _ _ _ _ _ _ _ _ _ t3.tk (.inl (r2.mono n3.k n3.p)) bd z fun w H4 x4 rw4 => ?_
      obtain ⟨t4, k4⟩ := t3.grow x4
      cases z2 : gN i d2 s3 with
      | none => rw [z2] at hp4; exact hp4.elim
      | some s5 =>
        rw [z2] at hp4
        refine ev_name (G := ⟨X.K, ca⟩) (nf := nf) hnf S0 ρ3 s3 σ H4 w d2 s5 _ t4 rw4 z2 fun σ' t5 n5 f5 => ?_
        exact hp4 σ' H4 ρ3 t5 ((⟨k4, List.prefix_refl _⟩ : Nx S0 ρ3 s3.e σ H3 ρ3 s3.e σ H4).trans n5) f5

/-! ### is None, isinstance, join -/
def isNonD (neg : Bool) : D → D → Option D
  | .non, .non => some (.bl (neg ^^ true))
  | .ptr _, .non => none
  | _, .non => some (.bl (neg ^^ false))
  | _, _ => none
theorem sp_isN : Sp2 G (fun x y H Q => y = .non ∧ Q (.bl (decide (x = .non))) H) (isNonD false) := by
  intro W ρ H x y dx dy d Q tk bx bby e q
  cases dy with
  | non =>
    obtain rfl := br_non bby
    refine ⟨rfl, ?_⟩
    cases dx with
    | non => obtain rfl := br_non bx; cases e; simpa using q (.bl true) H .refl .bl
    | bl b => obtain rfl := br_bl bx; cases e; simpa using q (.bl false) H .refl .bl
    | int b => obtain rfl := br_int bx; cases e; simpa using q (.bl false) H .refl .bl
    | str b => obtain rfl := br_str bx; cases e; simpa using q (.bl false) H .refl .bl
    | tup ds => obtain ⟨a, vs, rfl, _⟩ := br_tup bx; cases e; simpa using q (.bl false) H .refl .bl
    | lst ds => obtain ⟨a, vs, rfl, _⟩ := br_lst bx; cases e; simpa using q (.bl false) H .refl .bl
    | lck ds => obtain ⟨a, vs, rfl, _⟩ := br_lck bx; cases e; simpa using q (.bl false) H .refl .bl
    | dic ds => obtain ⟨a, vs, rfl, _⟩ := br_dic bx; cases e; simpa using q (.bl false) H .refl .bl
    | dit ds => obtain ⟨a, vs, rfl, _⟩ := br_dit bx; cases e; simpa using q (.bl false) H .refl .bl
    | obj c fs => obtain ⟨a, dx, vs, rfl, _⟩ := br_obj bx; cases e; simpa using q (.bl false) H .refl .bl
    | ptr n => cases e
  | _ => cases dx <;> cases e
theorem sp_notN : Sp2 G (fun x y H Q => y = .non ∧ Q (.bl (!decide (x = .non))) H) (isNonD true) := by
  intro W ρ H x y dx dy d Q tk bx bby e q
  cases dy with
  | non =>
    obtain rfl := br_non bby
    refine ⟨rfl, ?_⟩
    cases dx with
    | non => obtain rfl := br_non bx; cases e; simpa using q (.bl false) H .refl .bl
    | bl b => obtain rfl := br_bl bx; cases e; simpa using q (.bl true) H .refl .bl
    | int b => obtain rfl := br_int bx; cases e; simpa using q (.bl true) H .refl .bl
    | str b => obtain rfl := br_str bx; cases e; simpa using q (.bl true) H .refl .bl
    | tup ds => obtain ⟨a, vs, rfl, _⟩ := br_tup bx; cases e; simpa using q (.bl true) H .refl .bl
    | lst ds => obtain ⟨a, vs, rfl, _⟩ := br_lst bx; cases e; simpa using q (.bl true) H .refl .bl
    | lck ds => obtain ⟨a, vs, rfl, _⟩ := br_lck bx; cases e; simpa using q (.bl true) H .refl .bl
    | dic ds => obtain ⟨a, vs, rfl, _⟩ := br_dic bx; cases e; simpa using q (.bl true) H .refl .bl
    | dit ds => obtain ⟨a, vs, rfl, _⟩ := br_dit bx; cases e; simpa using q (.bl true) H .refl .bl
    | obj c fs => obtain ⟨a, dx, vs, rfl, _⟩ := br_obj bx; cases e; simpa using q (.bl true) H .refl .bl
    | ptr n => cases e
  | _ => cases dx <;> cases e
/-- the class of data -/
def tyN : D → Option (String ⊕ Nat)
  | .non => some (.inl "NoneType") | .bl _ => some (.inl "bool") | .int _ => some (.inl "int") | .str _ => some (.inl "str")
  | .tup _ => some (.inl "tuple") | .lst _ => some (.inl "list") | .lck _ => some (.inl "list") | .dic _ => some (.inl "dict") | .dit _ => some (.inl "dict")
  | .obj c _ => some (.inr c) | .ptr _ => none
def tyT (ca : Nat → Addr) : String ⊕ Nat → Value
  | .inl s => .type s
  | .inr c => .ref (ca c)
/-- what isinstance asks of an own class -/
structure ClF (K : PySem.W.Frag) (C : Addr) : Prop where
  cl : Cls K C
  ha : PySem.W.findIn K (.ref C) "__class__" = some (some (.builtin "object.__class__"))
  hn : PySem.W.specialIn K (.builtin "object.__class__") "__get__" = some (some (.builtin "getset_descriptor.__get__"))
  tk : PySem.W.takesIn K (.builtin "object.__class__") = some true
  hm : PySem.W.mroIn K C (.type "object") = some true
theorem ty_br {W : Addr → Prop} {ρ : List Addr} {H : Hp} {v : V} {d : D} {k : String ⊕ Nat} (h : BR G W ρ H v d) (e : tyN d = some k) (cf : ∀ c, k = .inr c → ClF G.K (G.ca c)) : TyX G.K H v (tyT G.ca k) := by
  cases d with
  | non => cases e; rw [br_non h]; exact .base .non
  | bl b => cases e; rw [br_bl h]; exact .base (.bl b)
  | int b => cases e; rw [br_int h]; exact .base (.int b)
  | str b => cases e; rw [br_str h]; exact .base (.str b)
  | tup ds =>
    cases e
    obtain ⟨a, vs, rfl, hs, _⟩ := br_tup h
    rcases hs with (hs | ⟨o, hs⟩) | ⟨o, its, n, h1, h2, _⟩
    · exact .base (.tup hs)
    · exact .fTuple hs
    · exact .kTuple h1 h2
  | lst ds => cases e; obtain ⟨a, vs, rfl, hs, _⟩ := br_lst h; exact .base (.lst hs)
  | lck ds =>
    cases e
    obtain ⟨a, vs, rfl, hs, _⟩ := br_lck h
    rcases hs with (hs | ⟨o, hs⟩) | ⟨o, its, n, h1, h2, _⟩
    · exact .base (.lst hs)
    · exact .base (.frz hs)
    · exact .kList h1 h2
  | dic ds =>
    cases e
    obtain ⟨a, vs, rfl, hs, _⟩ := br_dic h
    rcases hs with hs | ⟨o, hs⟩
    · exact .base (.dK hs)
    · exact .fDict hs
  | dit ds => cases e; obtain ⟨a, vs, rfl, hs, _⟩ := br_dit h; exact .base (.dT hs)
  | obj c fs =>
    cases e
    obtain ⟨a, dx, vs, rfl, hs, _⟩ := br_obj h
    have f := cf c rfl
    exact .base (.ins hs f.cl f.ha f.hn f.tk f.hm)
  | ptr n => cases e
/-- isinstance(e, C), isinstance(e, (C, ..)): isa tells the answer by the class of the data -/
def eIsi (isa : String ⊕ Nat → Option Bool) (m : M Loc) : M Loc := op1 (fun d => match tyN d with | some k => (isa k).map .bl | none => none) m
theorem je_isi {cv : V} {cu : Value} {cl : Expr} {isa : String ⊕ Nat → Option Bool} (hg : Gl X "isinstance") (hm : X.mg "isinstance" = none) (he : JE X ca W e te m) (hcl : PE X cl (tC cv)) (hk : ClsV cv cu)
    (hi : ∀ k b, isa k = some b → (∀ c, k = .inr c → ClF X.K (ca c)) ∧ PySem.W.kitOne X.K (tyT ca k) cu = some b)
    (h1 : starEach [e, cl] X.env = (false, eval e X.env) :: starEach [cl] X.env := by rfl) (h2 : starEach [cl] X.env = [(false, eval cl X.env)] := by rfl) (hpl : (backTo pos (starEach [cl] X.env)).any (·.1) = false := by rfl) :
    JE X ca W (.Call (.Name "isinstance" p) [e, cl] [] pos) (tCB (rIsi X.K) (tCons te (tCons (tC cv) tNil))) (eIsi isa m) := by
  refine ⟨pe_callB call_isi hg hm (by decide +kernel) (pa_cons he.pe (pa_cons hcl pa_nil (by rw [h2]; rfl)) h1) (by decide) (by decide) h1 hpl, fun S0 ρ s σ H Q t hp => ?_⟩
  refine he.ev _ _ _ _ _ _ t (post_bind hp fun l s1 _ v H1 ρ1 t1 n1 r1 hp1 => post_cont t1 r1 hp1 fun d bd hp2 => post_opt t1 hp2 fun d' e' q => ?_)
  cases z : tyN d with
  | none => simp only [z] at e'; cases e'
  | some k =>
    simp only [z] at e'
    cases z2 : isa k with
    | none => rw [z2] at e'; cases e'
    | some b =>
      rw [z2] at e'
      cases e'
      obtain ⟨cf, kk⟩ := hi k b z2
      exact ⟨v, cv, tyT ca k, cu, b, rfl, hk, ty_br bd z cf, kk, q _ _ .refl .bl⟩
theorem je_isiT {cvs : List V} {cus : List Value} {cls : List Expr} {tk : TA} {k2 : Nat} {pt : Pos} {isa : String ⊕ Nat → Option Bool} (hg : Gl X "isinstance") (hm : X.mg "isinstance" = none) (he : JE X ca W e te m) (hcl : PA X cls tk) (htk : ∀ σ H Q, tk σ H Q = Q cvs H) (hk : Paired ClsV cvs cus) (hlen : cvs.length ≤ 100)
    (hi : ∀ k b, isa k = some b → (∀ c, k = .inr c → ClF X.K (ca c)) ∧ PySem.W.kitAny X.K (tyT ca k) cus = some b)
    (h1 : starEach [e, .Tuple cls k2 pt] X.env = (false, eval e X.env) :: starEach [.Tuple cls k2 pt] X.env := by rfl) (h2 : starEach [.Tuple cls k2 pt] X.env = [(false, eval (.Tuple cls k2 pt) X.env)] := by rfl) (hpl : (backTo pos (starEach [.Tuple cls k2 pt] X.env)).any (·.1) = false := by rfl) :
    JE X ca W (.Call (.Name "isinstance" p) [e, .Tuple cls k2 pt] [] pos) (tCB (rIsiT X.K) (tCons te (tCons (tTup tk) tNil))) (eIsi isa m) := by
  refine ⟨pe_callB call_isiT hg hm (by decide +kernel) (pa_cons he.pe (pa_cons (pe_tup hcl) pa_nil (by rw [h2]; rfl)) h1) (by decide) (by decide) h1 hpl, fun S0 ρ s σ H Q t hp => ?_⟩
  refine he.ev _ _ _ _ _ _ t (post_bind hp fun l s1 _ v H1 ρ1 t1 n1 r1 hp1 => post_cont t1 r1 hp1 fun d bd hp2 => post_opt t1 hp2 fun d' e' q => ?_)
  cases z : tyN d with
  | none => simp only [z] at e'; cases e'
  | some k =>
    simp only [z] at e'
    cases z2 : isa k with
    | none => rw [z2] at e'; cases e'
    | some b =>
      rw [z2] at e'
      cases e'
      obtain ⟨cf, kk⟩ := hi k b z2
      have bd' : ∀ {p : Addr} {o : HO}, H1 p = none → BR ⟨X.K, ca⟩ (Wa S0 ρ1 s1.e σ) ρ1 (upd H1 p o) v d := fun {p o} n => by
        rcases bd with r | ⟨a, ea, r⟩
        · exact .inl (r.ext (.new n))
        · obtain ⟨u, hu⟩ := r.some
          exact .inr ⟨a, ea, r.mono (S0 := fun _ => False) (Ext.kp (.new n)) (List.prefix_refl _) (upd_ne (ne_of_none hu n))⟩
      show tk σ H1 _
      rw [htk]
      refine ⟨lim_line (Nat.le_trans hlen (by decide)), fun p n => ?_⟩
      exact ⟨v, p, cvs, tyT ca k, cus, b, rfl, upd_same, hk, ty_br (bd' n) z cf, kk, q _ _ (.new n) .bl⟩
def strsD : List D → Option (List Str)
  | [] => some []
  | .str x :: r => (strsD r).map (x :: ·)
  | _ => none
theorem reps_strs {W : Addr → Prop} {ρ : List Addr} {H : Hp} : ∀ {vs : List V} {ds : List D} {xs : List Str}, Reps G W ρ H vs ds → strsD ds = some xs → vs = xs.map V.str
  | _, _, _, .nil, e => by cases e; rfl
  | _, d :: ds, xs, .cons r t, e => by
    cases d with
    | str x =>
      have e : (strsD ds).map (x :: ·) = some xs := e
      cases z : strsD ds with
      | none => rw [z] at e; cases e
      | some ms =>
        rw [z] at e
        cases e
        obtain rfl := br_str (.inl r)
        rw [reps_strs t z]
        rfl
    | _ => cases e
def joinS (a : Str) (ds : List D) : Option D := match strsD ds with
  | some xs => if (xs.map (·.length)).sum + xs.length * a.length ≤ lim then some (.str (Txt.join a xs)) else none
  | none => none
def joinD : D → List D → Option D
  | .str a, [.lst ds] => joinS a ds
  | .str a, [.tup ds] => joinS a ds
  | _, _ => none
def rJoin (K : PySem.W.Frag) : V → List V → Hp → VK → Prop := fun x xs H Q => ∃ a p, ∃ ys : List Str, x = .str a ∧ xs = [.ref p] ∧ (SqL K H p (ys.map V.str) ∨ SqT K H p (ys.map V.str)) ∧ (ys.map (·.length)).sum + ys.length * a.length ≤ 16777216 ∧ Q (.str (Txt.join a ys)) H
theorem sp_joinS {W : Addr → Prop} {ρ : List Addr} {H : Hp} {a : Str} {ds : List D} {d : D} {p : Addr} {vs : List V} {Q : VK} (hs : SqL G.K H p vs ∨ SqT G.K H p vs) (r : Reps G W ρ H vs ds) (e : joinS a ds = some d) (q : ∀ v H', Ext H H' → Rep G W ρ H' v d → Q v H') : rJoin G.K (.str a) [.ref p] H Q := by
  unfold joinS at e
  cases z : strsD ds with
  | none => rw [z] at e; cases e
  | some xs =>
    rw [z] at e
    by_cases hl : (xs.map (·.length)).sum + xs.length * a.length ≤ lim
    · have e : some (D.str (Txt.join a xs)) = some d := (if_pos hl).symm.trans e
      cases e
      rw [reps_strs r z] at hs
      exact ⟨a, p, xs, rfl, rfl, hs, Nat.le_trans hl (by decide), q _ _ .refl .str⟩
    · have e : none = some d := (if_neg hl).symm.trans e
      cases e
theorem sp_join : SpM G (rJoin G.K) joinD := by
  intro W ρ H x xs dx ds d Q tk bx bs e q
  match dx, ds, e with
  | .str a, [.lst ds], e => obtain ⟨y, rfl, b1⟩ := brs1 bs; obtain rfl := br_str bx; obtain ⟨p, vs, rfl, hs, r⟩ := br_lst b1; exact sp_joinS (.inl (.inl (.inl hs))) r e q
  | .str a, [.tup ds], e => obtain ⟨y, rfl, b1⟩ := brs1 bs; obtain rfl := br_str bx; obtain ⟨p, vs, rfl, hs, r, _⟩ := br_tup b1; exact sp_joinS (.inr hs) r e q
/-- a built-in's method that changes nothing -/
def eMe (kd : D → Bool) (f : D → List D → Option D) (mo : M Loc) (ma : M (List Loc)) : M Loc := bnd mo fun l => bnd (cont l) fun c0 => if kd c0 = true then bnd ma fun ls => bnd (cont l) fun c => bnd (conts ls) fun ds => opt (f c ds) else stk
theorem ev_me {T : String} {r : V → List V → Hp → VK → Prop} {kd : D → Bool} {f : D → List D → Option D} {to : TE} {mo : M Loc} (sp : SpM G r f) (hty : ∀ W ρ H v c, BR G W ρ H v c → kd c = true → tyV G.K T v H) (ho : Ev G W (LRep G) to mo) (ha : Ev G W (LReps G) tA mA) : Ev G W (LRep G) (tBM G.K T r to tA) (eMe kd f mo mA) := by
  intro S0 ρ s σ H Q t hp
  refine ho _ _ _ _ _ _ t (post_bind hp fun l s1 _ v H1 ρ1 t1 n1 r1 hp1 => ?_)
  refine post_cont t1 r1 hp1 fun c0 b0 hp1 => ?_
  have hp1 : Post G W (LRep G) S0 ρ1 s1 σ H1 ((if kd c0 = true then bnd mA fun ls => bnd (cont l) fun c => bnd (conts ls) fun ds => opt (f c ds) else stk) s1) Q := hp1
  by_cases hk : kd c0 = true
  · refine ⟨hty _ _ _ _ _ b0 hk, ?_⟩
    rw [if_pos hk] at hp1
    refine ha _ _ _ _ _ _ t1 (post_bind hp1 fun ls s2 _ us H2 ρ2 t2 n2 r2 hp2 => ?_)
    refine post_cont t2 (stab_L r1 n2.k n2.p) hp2 fun c bc hp3 => post_conts t2 r2 hp3 fun ds bs hp4 => post_opt t2 hp4 fun d e q => ?_
    exact sp _ _ _ _ _ _ _ _ _ t2.tk bc bs e q
  · rw [if_neg hk] at hp1; exact hp1.elim
theorem je_me {T id : String} {name : Str} {r : V → List V → Hp → VK → Prop} {kd : D → Bool} {f : D → List D → Option D} {o : Expr} {to : TE} {mo : M Loc} {apos cpos : Pos} (pa : PlainAttrs T) (slot : PySem.Slot T name id) (hty : typeOf (.builtin id) = pure (.type "method_descriptor")) (hm : MtR X id r) (sp : SpM ⟨X.K, ca⟩ r f) (hk : ∀ W ρ H v c, BR ⟨X.K, ca⟩ W ρ H v c → kd c = true → tyV X.K T v H) (ho : JE X ca W o to mo) (ha : JA X ca W (e :: es) tA mA) (hbase : attributeBase o name X.env (eval o X.env) = eval o X.env := by rfl)
    (hfew : ((backTo cpos (starEach (e :: es) X.env)).all (fun x => !x.1) && (backToKw cpos (keywordEach [] X.env)).all (fun x => x.1.isSome) && decide ((e :: es).length + ([] : List Keyword).length + (if ([] : List Keyword).isEmpty then 0 else 1) < 30)) = true := by rfl) (hline : (apos.endLine == cpos.line) = true := by rfl)
    (hs : starEach (e :: es) X.env = (false, eval e X.env) :: starEach es X.env := by rfl) (hplain : (backTo cpos (starEach es X.env)).any (·.1) = false := by rfl) : JE X ca W (.Call (.Attribute o name apos) (e :: es) [] cpos) (tBM X.K T r to tA) (eMe kd f mo mA) :=
  ⟨pe_bm pa slot hty hm ho.pe ha.pa hbase hfew hline hs hplain, ev_me sp hk ho.ev ha.ev⟩
def isStr : D → Bool | .str _ => true | _ => false
theorem ty_str : ∀ W ρ H v c, BR G W ρ H v c → isStr c = true → tyV G.K "str" v H := fun W ρ H v c b k => by
  cases c with
  | str x => rw [br_str b]; rfl
  | _ => cases k
end
end Mi

namespace Mi
open PySem PySem.Spec PyProof.Rows L2

section
variable {G : Gc} {X : Cx} {ca : Nat → Addr} {W : WX} {e o a b : Expr} {es : List Expr} {te to ta tb : TE} {tA tk : TA} {m mo ma mb : M Loc} {mA mK : M (List Loc)} {pos p pos' : Pos} {nf : Nat} {k : Nat} {f : Addr} {fd : FuncData} {ps : List Str} {x : Str} {g : List D → M D} {c : Nat}

/-! ### constants of the module that are tuples, dicts of words -/
theorem je_gtup {a : Addr} {vs : List V} {ds : List D} (hg : Gl X x) (hm : X.mg x = some (.ref a)) (hk : Kt X.K a vs) (r : ∀ W ρ H, Reps ⟨X.K, ca⟩ W ρ H vs ds) (hd : (x == ("__debug__" : Str)) = false := by decide) : JE X ca W (.Name x pos) (tC (.ref a)) (kk (.tup ds)) :=
  ⟨pe_glob hg hm rfl hd, ev_c fun _ _ _ => .tupK hk (r _ _ _)⟩
/-- a dict of the module whose keys are these words -/
structure KWords (K : PySem.W.Frag) (w : World) (d : Addr) (ws : List Str) : Prop where
  at_ : ∃ es n, KDict K w d es n
  has : ∀ z, ∃ r, PySem.W.nsIn K d z = some r ∧ r.isSome = decide (z ∈ ws)
def inWD (neg : Bool) (ws : List Str) : D → Option D
  | .str z => some (.bl (neg ^^ decide (z ∈ ws)))
  | _ => none
def eInW (neg : Bool) (ws : List Str) (m : M Loc) : M Loc := bnd m fun l => bnd (cont l) fun d => opt (inWD neg ws d)
theorem ev_inW {d : Addr} {es : Array DictEntry} {n : Nat} {ws : List Str} {w : World} {neg : Bool} (Kw : KWords G.K w d ws) (he : Ev G W (LRep G) te m) :
    Ev G W (LRep G) (tOp (fun x y H Q => ∃ (z : Str) (r : Option Value), x = .str z ∧ y = .ref d ∧ PySem.W.nsIn G.K d z = some r ∧ Q (.bl (neg ^^ r.isSome)) H) te (tC (.ref d))) (eInW neg ws m) := by
  intro S0 ρ s σ H Q t hp
  refine he _ _ _ _ _ _ t (post_bind hp fun l s1 _ v H1 ρ1 t1 n1 r1 hp1 => post_cont t1 r1 hp1 fun dd bd hp2 => post_opt t1 hp2 fun d' e' q => ?_)
  cases dd with
  | str z =>
    cases e'
    obtain rfl := br_str bd
    obtain ⟨r, h1, h2⟩ := Kw.has z
    exact ⟨z, r, rfl, rfl, h1, by rw [h2]; exact q _ _ .refl .bl⟩
  | _ => cases e'
theorem op_in_kw {d : Addr} {ws : List Str} (Kw : KWords X.K X.w d ws) : OpR X (compareOp .In) (fun x y H Q => ∃ (z : Str) (r : Option Value), x = .str z ∧ y = .ref d ∧ PySem.W.nsIn X.K d z = some r ∧ Q (.bl (false ^^ r.isSome)) H) := by
  obtain ⟨es, n, D⟩ := Kw.at_
  intro pins s σ H x y v u Q I rx ry ⟨z, r, e1, e2, e3, q⟩
  exact op_in_kd D pins s σ H x y v u Q I rx ry ⟨z, r, e1, e2, e3, by simpa using q⟩
theorem op_notin_kw {d : Addr} {ws : List Str} (Kw : KWords X.K X.w d ws) : OpR X (compareOp .NotIn) (fun x y H Q => ∃ (z : Str) (r : Option Value), x = .str z ∧ y = .ref d ∧ PySem.W.nsIn X.K d z = some r ∧ Q (.bl (true ^^ r.isSome)) H) := by
  obtain ⟨es, n, D⟩ := Kw.at_
  intro pins s σ H x y v u Q I rx ry ⟨z, r, e1, e2, e3, q⟩
  exact op_notIn_kd D pins s σ H x y v u Q I rx ry ⟨z, r, e1, e2, e3, by simpa using q⟩
theorem jt_inW {d : Addr} {ws : List Str} {xn : Str} {pn : Pos} (Kw : KWords X.K X.w d ws) (hg : Gl X xn) (hm : X.mg xn = some (.ref d)) (he : JE X ca W e te m) (hb : behindInMarks .In (.Name xn pn) = false := by rfl) (hd : (xn == ("__debug__" : Str)) = false := by decide) :
    JT X ca W (.Compare e [.In] [.Name xn pn] pos) (tTest (tOp (fun x y H Q => ∃ (z : Str) (r : Option Value), x = .str z ∧ y = .ref d ∧ PySem.W.nsIn X.K d z = some r ∧ Q (.bl (false ^^ r.isSome)) H) te (tC (.ref d)))) (tstB (eInW false ws m)) :=
  ⟨pt_cmpR (op_in_kw Kw) he.pe (pe_glob hg hm rfl hd) hb, ev_tstB (ev_inW (es := #[]) (n := 0) (w := X.w) Kw he.ev)⟩
theorem jt_notinW {d : Addr} {ws : List Str} {xn : Str} {pn : Pos} (Kw : KWords X.K X.w d ws) (hg : Gl X xn) (hm : X.mg xn = some (.ref d)) (he : JE X ca W e te m) (hb : behindInMarks .NotIn (.Name xn pn) = false := by rfl) (hd : (xn == ("__debug__" : Str)) = false := by decide) :
    JT X ca W (.Compare e [.NotIn] [.Name xn pn] pos) (tTest (tOp (fun x y H Q => ∃ (z : Str) (r : Option Value), x = .str z ∧ y = .ref d ∧ PySem.W.nsIn X.K d z = some r ∧ Q (.bl (true ^^ r.isSome)) H) te (tC (.ref d)))) (tstB (eInW true ws m)) :=
  ⟨pt_cmpR (op_notin_kw Kw) he.pe (pe_glob hg hm rfl hd) hb, ev_tstB (ev_inW (es := #[]) (n := 0) (w := X.w) Kw he.ev)⟩

/-! ### fields -/
theorem look_f {G : Gc} {W : Addr → Prop} {ρ : List Addr} {H : Hp} {fn : Str} : ∀ {vs : List (Str × V)} {ds : List (Str × D)} {d : D}, vs.map (·.1) = ds.map (·.1) → Reps G W ρ H (vs.map (·.2)) (ds.map (·.2)) → ds.lookup fn = some d → ∃ v, vs.lookup fn = some v ∧ Rep G W ρ H v d
  | [], [], d, _, _, e => by cases e
  | [], _ :: _, _, e, _, _ => by cases e
  | _ :: _, [], _, e, _, _ => by cases e
  | (j, v) :: vs, (j', d') :: ds, d, e, .cons r t, q => by
    rw [List.map_cons, List.map_cons] at e
    injection e with e1 e2
    have e1 : j = j' := e1
    subst e1
    rw [List.lookup_cons] at q ⊢
    cases z : (fn == j) with
    | true => rw [z] at q; cases q; exact ⟨v, rfl, r⟩
    | false => rw [z] at q; exact look_f e2 t q
theorem look_none {G : Gc} {W : Addr → Prop} {ρ : List Addr} {H : Hp} {fn : Str} : ∀ {vs : List (Str × V)} {ds : List (Str × D)}, vs.map (·.1) = ds.map (·.1) → ds.lookup fn = none → vs.lookup fn = none
  | [], [], _, e => rfl
  | [], _ :: _, e, _ => by cases e
  | _ :: _, [], e, _ => by cases e
  | (j, v) :: vs, (j', d') :: ds, e, q => by
    rw [List.map_cons, List.map_cons] at e
    injection e with e1 e2
    have e1 : j = j' := e1
    subst e1
    rw [List.lookup_cons] at q ⊢
    cases z : (fn == j) with
    | true => rw [z] at q; cases q
    | false => rw [z] at q; exact look_none (G := G) (W := W) (ρ := ρ) (H := H) e2 q
def fldD (c : Nat) (fn : Str) : D → Option D
  | .obj c' fs => if c' = c then fs.lookup fn else none
  | _ => none
def eFld (c : Nat) (fn : Str) (m : M Loc) : M Loc := op1 (fldD c fn) m
theorem je_fld {fn : Str} (cl : Cls X.K (ca c)) (na : NoAttr X.K (ca c) fn) (he : JE X ca W e te m) (hb : attributeBase e fn X.env (eval e X.env) = eval e X.env := by rfl) : JE X ca W (.Attribute e fn pos) (tFld X.K te fn) (eFld c fn m) := by
  refine ⟨pe_fld he.pe hb, fun S0 ρ s σ H Q t hp => ?_⟩
  refine he.ev _ _ _ _ _ _ t (post_bind hp fun l s1 _ v H1 ρ1 t1 n1 r1 hp1 => post_cont t1 r1 hp1 fun d bd hp2 => post_opt t1 hp2 fun d' e' q => ?_)
  cases d with
  | obj c' fs =>
    have e2 : (if c' = c then fs.lookup fn else none) = some d' := e'
    clear e'
    by_cases hc : c' = c
    · rw [if_pos hc] at e2
      subst hc
      obtain ⟨a, dx, vs, rfl, h, ke, r⟩ := br_obj bd
      obtain ⟨v, e1, r1⟩ := look_f ke r e2
      exact ⟨a, _, dx, vs, v, rfl, h, cl, na, e1, q _ _ .refl r1⟩
    · rw [if_neg hc] at e2; cases e2
  | _ => cases e'
def putFD (fn : Str) (d : D) : List (Str × D) → List (Str × D)
  | [] => [(fn, d)]
  | (g, x) :: r => if g = fn then (g, d) :: r else (g, x) :: putFD fn d r
theorem putF_reps {G : Gc} {W : Addr → Prop} {ρ : List Addr} {H : Hp} {fn : Str} {v : V} {d : D} (rv : Rep G W ρ H v d) : ∀ {vs : List (Str × V)} {ds : List (Str × D)}, vs.map (·.1) = ds.map (·.1) → Reps G W ρ H (vs.map (·.2)) (ds.map (·.2)) →
    (putF fn v vs).map (·.1) = (putFD fn d ds).map (·.1) ∧ Reps G W ρ H ((putF fn v vs).map (·.2)) ((putFD fn d ds).map (·.2))
  | [], [], _, _ => ⟨rfl, .cons rv .nil⟩
  | [], _ :: _, e, _ => by cases e
  | _ :: _, [], e, _ => by cases e
  | (j, v') :: vs, (j', d') :: ds, e, .cons r t => by
    rw [List.map_cons, List.map_cons] at e
    injection e with e1 e2
    have e1 : j = j' := e1
    subst e1
    unfold putF putFD
    by_cases h : j = fn
    · rw [if_pos h, if_pos h]
      exact ⟨by rw [List.map_cons, List.map_cons, e2], .cons rv t⟩
    · rw [if_neg h, if_neg h]
      obtain ⟨i1, i2⟩ := putF_reps rv e2 t
      exact ⟨by rw [List.map_cons, List.map_cons, i1], .cons r i2⟩
def sFldS (c : Nat) (fn : Str) (mv mo : M Loc) : M Fl := bnd mv fun lv => bnd (toVal lv) fun dv => bnd mo fun l => bnd (cont l) fun d => match (match d with | .obj c' fs => if c' = c ∧ fs.length < 1000 then some (D.obj c' (putFD fn dv fs), D.non) else none | _ => none) with
  | some cd => bnd (setc l cd.1) fun _ => ret Fl.nx
  | none => stk
theorem or_obj {G : Gc} {W : Addr → Prop} {ρ : List Addr} {H : Hp} {a : Addr} {c : Nat} {ds : List (Str × D)} (h : ORep G W ρ H a (.obj c ds)) : ∃ dx vs, H a = some (.ins (G.ca c) dx vs) ∧ vs.map (·.1) = ds.map (·.1) ∧ Reps G W ρ H (vs.map (·.2)) (ds.map (·.2)) := by
  cases h with | obj h e r => exact ⟨_, _, h, e, r⟩
theorem js_fld {fn : Str} (cl : Cls X.K (ca c)) (na : NoAttr X.K (ca c) fn) (he : JE X ca W e te m) (ho : JE X ca W o to mo) (hs : swapsWith e (some (.Attribute o fn pos')) pos.line X.env = pure false := by rfl) : JS X ca W nf (.Assign [.Attribute o fn pos'] e pos) (sFld X.K to te fn) (sFldS c fn m mo) := by
  refine ⟨ps_fld ho.pe he.pe hs, fun S0 ρ s σ H E t hp => ?_⟩
  refine he.ev _ _ _ _ _ _ t ((wS (nf := nf) E).bind hp fun lv s1 _ v H1 ρ1 t1 n1 r1 hp1 => (wS (nf := nf) E).toVal t1 r1 hp1 fun dv s2 t2 n2 r2 hp2 => ?_)
  refine ho.ev _ _ _ _ _ _ t2 ((wS (nf := nf) E).bind hp2 fun l s3 _ ov H3 ρ3 t3 n3 r3 hp3 => ?_)
  refine post_upd (wS (nf := nf) E) (fun d => match d with | .obj c' fs => if c' = c ∧ fs.length < 1000 then some (D.obj c' (putFD fn dv fs), D.non) else none | _ => none) (k := fun _ => ret Fl.nx) (us := [v]) (ds := [dv]) t3 r3 (.cons (r2.mono n3.k n3.p) .nil) hp3 fun a c0 c' d ev wa oc z rs up => ?_
  cases c0 with
  | obj c2 fs =>
    by_cases hc : c2 = c ∧ fs.length < 1000
    · simp only [hc, and_self, if_true] at z
      have hc1 := hc.1
      subst hc1
      cases z
      obtain ⟨dx, vs, h, ke, r⟩ := or_obj oc
      have hl : vs.length = fs.length := by have := congrArg List.length ke; simpa using this
      cases rs with
      | cons rv _ =>
        refine ⟨a, _, dx, vs, ev, h, cl, na, by rw [hl]; exact hc.2, ?_⟩
        obtain ⟨i1, i2⟩ := putF_reps (fn := fn) rv ke r
        obtain ⟨s4, t4, n4, hw, hp5⟩ := up (.ins (ca c2) dx (putF fn v vs)) fun S1 kp => .obj upd_same i1 (i2.mono kp (List.prefix_refl _))
        exact PostS.nx (X := W) (E := E) hp5 t4
    · simp only [hc, if_false] at z
      cases z
  | _ => cases z

/-! ### properties -/
def callP (g : List D → M D) (ds : List D) : M Loc := fun s => match g ds ⟨[], s.t⟩ with
  | .ok d s' => .ok (.val d) ⟨s.e, s'.t⟩
  | _ => .stuck
def isCls (c : Nat) (d : D) (s : S) : Bool := match d with
  | .obj c' _ => decide (c' = c)
  | .ptr n => match s.t[n]? with | some (.obj c' _) => decide (c' = c) | _ => false
  | _ => false
def eProp (c : Nat) (g : List D → M D) (m : M Loc) : M Loc := bnd m fun l => bnd (toVal l) fun d => fun s => if isCls c d s = true then callP g [d] s else .stuck
theorem isCls_at {G : Gc} {S0 : Addr → Prop} {ρ : List Addr} {s : S} {σ : L2.St} {H : Hp} {v : V} {d : D} (t : Sat G S0 ρ s σ H) (r : Rep G (Wa S0 ρ s.e σ) ρ H v d) (h : isCls c d s = true) : ∃ a dx fs, v = .ref a ∧ H a = some (.ins (G.ca c) dx fs) := by
  cases d with
  | obj c' fs =>
    have h : c' = c := of_decide_eq_true h
    subst h
    obtain ⟨a, dx, vs, rfl, h, _⟩ := br_obj (.inl r)
    exact ⟨a, dx, vs, rfl, h⟩
  | ptr n =>
    cases r with
    | ptr ha =>
      unfold isCls at h
      cases e0 : s.t[n]? with
      | none => simp only [e0] at h; cases h
      | some d0 =>
        cases d0 with
        | obj c' fs =>
          simp only [e0] at h
          have h : c' = c := of_decide_eq_true h
          subst h
          obtain ⟨dx, vs, h, _⟩ := or_obj (t.sto n _ _ ha e0)
          exact ⟨_, dx, vs, rfl, h⟩
        | _ => simp only [e0] at h; cases h
  | _ => cases h
theorem je_prop {fn : Str} {pa ga : Addr} (cl : Cls X.K (ca c)) (hp : PropOf X.K (ca c) fn pa ga) (F : FnOk X.prog X.w X.K X.mg X.base (L2.CX X.prog X.w) k ga fd ps (spM ⟨X.K, ca⟩ 1 g)) (hr : Room (k + 1) X.A) (hb : Binds X.K fd ps []) (he : JE X ca W e te m)
    (hab : attributeBase e fn X.env (eval e X.env) = eval e X.env := by rfl) : JE X ca W (.Attribute e fn pos) (tProp (ca c) (spM ⟨X.K, ca⟩ 1 g) [] (fun _ _ _ => False) te) (eProp c g m) := by
  refine ⟨pe_prop he.pe cl hp F hr hb .nil (fun _ _ _ _ _ _ _ h => by
    obtain ⟨_, _, _, _, _, _, _, _, _, _, _, _, z⟩ := h
    exact z.elim) hab, fun S0 ρ s σ H Q t hp => ?_⟩
  refine he.ev _ _ _ _ _ _ t (post_bind hp fun l s1 _ v H1 ρ1 t1 n1 r1 hp1 => post_toVal t1 r1 hp1 fun d s2 t2 n2 r2 hp2 => ?_)
  have hp2 : Post ⟨X.K, ca⟩ W (LRep ⟨X.K, ca⟩) S0 ρ1 s2 σ H1 (if isCls c d s2 = true then callP g [d] s2 else .stuck) Q := hp2
  by_cases hc : isCls c d s2 = true
  · rw [if_pos hc] at hp2
    obtain ⟨a, dx, fs, rfl, h⟩ := isCls_at t2 r2 hc
    refine ⟨a, dx, fs, rfl, h, ?_⟩
    refine call_post (X := W0) (n := 1) rfl t2 (.cons r2 .nil) ?_
    show Post ⟨X.K, ca⟩ W0 (LRep ⟨X.K, ca⟩) S0 ρ1 s2 σ H1 (callF g [d] s2) Q
    unfold callF
    unfold callP at hp2
    cases e : g [d] ⟨[], s2.t⟩ with
    | ok d' s' => simp only [e] at hp2 ⊢; exact hp2
    | exc x s' => simp only [e] at hp2; exact hp2.elim
    | stuck => simp only [e] at hp2; exact hp2.elim
  · rw [if_neg hc] at hp2; exact hp2.elim

/-! ### keywords -/
structure JK (X : Cx) (ca : Nat → Addr) (W : WX) (kws : List Keyword) (ta : TA) (m : M (List Loc)) : Prop where
  pk : PK X kws ta
  ev : Ev ⟨X.K, ca⟩ W (LReps ⟨X.K, ca⟩) ta m
  len : ∀ s ls s', m s = .ok ls s' → ls.length = kws.length
theorem jk_nil : JK X ca W [] tNil aNil := ⟨pk_nil, (ja_nil (X := X)).ev, fun s ls s' h => by cases h; rfl⟩
theorem jk_cons {kws : List Keyword} {nm : Option Str} {kp : Pos} (he : JE X ca W e te m) (hr : JK X ca W kws tA mA) : JK X ca W (⟨nm, e, kp⟩ :: kws) (tCons te tA) (aCons m mA) := by
  refine ⟨pk_cons he.pe hr.pk, fun S0 ρ s σ H Q t hp => ?_, fun s ls s' h => ?_⟩
  · refine he.ev _ _ _ _ _ _ t (post_bind hp fun x s1 _ v H1 ρ1 t1 n1 r1 hp1 => ?_)
    refine hr.ev _ _ _ _ _ _ t1 (post_bind hp1 fun y s2 _ u H2 ρ2 t2 n2 r2 hp2 => ?_)
    exact Post.ret (R := LReps ⟨X.K, ca⟩) hp2 t2 (.cons (stab_L r1 n2.k n2.p) r2)
  · have h : ((m s).bind fun x => bnd mA fun xs => ret (x :: xs)) = .ok ls s' := h
    cases e : m s with
    | ok x s1 =>
      rw [e] at h
      have h : ((mA s1).bind fun xs => ret (x :: xs)) = .ok ls s' := h
      cases e2 : mA s1 with
      | ok xs s2 =>
        rw [e2] at h
        cases h
        rw [List.length_cons, List.length_cons, hr.len _ _ _ e2]
      | exc x s2 => rw [e2] at h; cases h
      | stuck => rw [e2] at h; cases h
    | exc x s1 => rw [e] at h; cases h
    | stuck => rw [e] at h; cases h
/-- by keywords alone; pm puts the values in the parameters' order -/
structure KB0 (K : PySem.W.Frag) (fd : FuncData) (ps ks : List Str) (pm : {α : Type} → List α → List α) : Prop where
  to : ∀ (s : Shared) (ws : List Value), K.In s.heap → ws.length = ks.length → BindsTo s fd ⟨[], ks.zip ws⟩ (ps.zip (pm ws))
  rv : ∀ {vs : List V} {us : List Value}, vs.length = ks.length → Vals vs us → Vals (pm vs) (pm us)
  rd : ∀ {G : Gc} {W : Addr → Prop} {ρ : List Addr} {H : Hp} {vs : List V} {ds : List D}, vs.length = ks.length → Reps G W ρ H vs ds → Reps G W ρ H (pm vs) (pm ds)
  ln : ∀ {α : Type} {l : List α}, l.length = ks.length → (pm l).length = ps.length
def eCallK (pm : {α : Type} → List α → List α) (g : List D → M D) (mk : M (List Loc)) : M Loc := bnd mk fun ls => bnd (vals ls) fun ds => callF g (pm ds)
def tCallK0 (n : Nat) (sp : Sp) (pm : {α : Type} → List α → List α) (E : L2.St → XK) (tk : TA) : TE := fun σ H Q => tk σ H fun zs H2 => zs.length = n ∧ sp (pm zs) H2 Q (E σ)
theorem je_callK {kws : List Keyword} {ks : List Str} {pm : {α : Type} → List α → List α} (F : FnOk X.prog X.w X.K X.mg X.base (L2.CX X.prog X.w) k f fd ps (spM ⟨X.K, ca⟩ ps.length g)) (hr : Room k X.A) (hg : Gl X x) (hm : X.mg x = some (.ref f)) (hk : PySem.W.keepIn X.K (.ref f) = true) (hb : KB0 X.K fd ps ks pm) (tkx : Takes X W)
    (hkw : JK X ca W kws tk mK) (hall : (backToKw pos (keywordEach kws X.env)).all (·.1.isSome) = true := by rfl) (hks : (backToKw pos (keywordEach kws X.env)).filterMap (·.1) = ks := by rfl) (hlk : kws.length = ks.length := by rfl)
    (hdb : (x == ("__debug__" : Str)) = false := by decide) (hpl : ((backTo pos (starEach [] X.env)).any (·.1) || (backToKw pos (keywordEach kws X.env)).any (·.1.isNone)) = false := by rfl) :
    JE X ca W (.Call (.Name x p) [] kws pos) (tCallK0 ks.length (spM ⟨X.K, ca⟩ ps.length g) pm (fun σ c dx H' => W c dx σ H') tk) (eCallK pm g mK) := by
  refine ⟨⟨fun pins s σ H Q I h => ?_⟩, fun S0 ρ s σ H Q t hp => ?_⟩
  · refine wpAny_Call_Name_kw (ld_glob I hg hm ?_ hdb)
    refine PySem.W.callWith_KW0 (h₀ := X.base) I.ok.mod.kin hk hall ?_ hpl
    refine thn (hkw.pk.run pos pins s σ H _ I h) fun ws s2 ⟨zs, H2, I2, rz, l2, q2⟩ => ⟨I2.kIn, ?_⟩
    rw [hks]
    refine wpAny_call (codeAny_mono (F.run X.A X.stack s2 H2 ⟨[], ks.zip ws⟩ (pm ws) (pm zs) Q _ hr I2.env0 (hb.to s2 ws I2.kIn (rz.length.symm.trans l2)) (hb.rv l2 rz) q2) fun r s' hq => ?_)
    cases r with
    | error er => exact passAt tkx σ pins H2 s2 er s' I2 hq
    | ok fl =>
      cases fl with
      | ret u => exact I2.after hq
      | next => exact False.elim hq
      | brk => exact False.elim hq
      | cont => exact False.elim hq
  · refine hkw.ev _ _ _ _ _ _ t (post_bind hp fun ls s1 e1 vs H1 ρ1 t1 n1 r1 hp1 => post_vals t1 r1 hp1 fun ds s2 t2 n2 r2 hp2 => ?_)
    have hl : vs.length = ks.length := (Paired.length r1).trans ((hkw.len _ _ _ e1).trans hlk)
    exact ⟨hl, call_post (hb.ln hl) t2 (hb.rd hl r2) hp2⟩

/-! ### instances -/
/-- an __init__ that leaves d -/
def PostI (G : Gc) (S0 : Addr → Prop) (ρ : List Addr) (x : Addr) (H : Hp) (r : Res D) (Q : VK) (E : XK) : Prop := match r with
  | .ok d s' => ∀ H' ρ', Sat G (S1 S0 x) ρ' ⟨[], s'.t⟩ [] H' → Kp S0 (Wa (S1 S0 x) ρ [] []) H (Wa (S1 S0 x) ρ' [] []) H' → ρ <+: ρ' → ORep G (Wa (S1 S0 x) ρ' [] []) ρ' H' x d → Q .non H'
  | .exc y s' => ∀ cv dx H' ρ', Sat G S0 ρ' ⟨[], s'.t⟩ [] H' → Kp S0 (Wa (S1 S0 x) ρ [] []) H (Wa S0 ρ' [] []) H' → ρ <+: ρ' → XRep G (Wa S0 ρ' [] []) ρ' H' cv dx y → E cv dx H'
  | .stuck => False
def spI (G : Gc) (c n : Nat) (g : List D → M D) : Sp := fun vs H Q E => ∃ S0 ρ t ds x dx us, vs = .ref x :: us ∧ us.length = n ∧ Sat G (S1 S0 x) ρ ⟨[], t⟩ [] H ∧ ¬ Wa S0 ρ [] [] x ∧ H x = some (.ins (G.ca c) dx []) ∧ Reps G (Wa (S1 S0 x) ρ [] []) ρ H us ds ∧ PostI G S0 ρ x H (g ds ⟨[], t⟩) Q E
def endI (r : Res Fl) : Res D := match r with
  | .ok fl s' => (match fl with
    | .nx => (match s'.e[(0 : Nat)]? with | some (.own d) => .ok d ⟨[], s'.t⟩ | _ => .stuck)
    | .rt .non => (match s'.e[(0 : Nat)]? with | some (.own d) => .ok d ⟨[], s'.t⟩ | _ => .stuck)
    | _ => .stuck)
  | .exc x s' => .exc x ⟨[], s'.t⟩
  | .stuck => .stuck
def runI (c n : Nat) (body : M Fl) (ds : List D) : M D := fun s => endI (body ⟨.own (.obj c []) :: (ds.map .val ++ List.replicate (n - ds.length) .no), s.t⟩)
end
section
variable {P : Program} {w : World} {K : PySem.W.Frag} {mg : Str → Option Value} {base : Heap}
theorem fn_init {ca : Nat → Addr} {x qual : Str} {st : Stmt} {f : Addr} {fd : FuncData} {n0 p0 : Str} {N ps : List Str} {k c : Nat} {body : M Fl} (F : Fun K x qual st f fd) (Sp : FnScope (n0 :: N) (p0 :: ps) (defScope st))
    (hb : ∀ (cdv : Value) (A : Around) (outer : List PySem.Env) (s : Shared) (H : Hp) (E : XK), Room k (A.deeper (envOfC qual (defScope st) s.heap.objs.size f cdv)) →
      ∃ ts, JB (cxOf (L2.CX P w) P w K mg base (n0 :: N) qual (defScope st) f cdv A outer s H E) ca (fun c d _ H => E c d H) 1 (defBody st) ts body) : FnOk P w K mg base (L2.CX P w) (k + 1) f fd (p0 :: ps) (spI ⟨K, ca⟩ c ps.length (runI c N.length body)) := by
  refine F.okX Sp (fun vs H Q E h => ?_) (fun cdv A outer s H vs Q E hr h => ?_)
  · obtain ⟨_, _, _, _, _, _, us, rfl, hl, _⟩ := h
    show us.length + 1 = ps.length + 1
    rw [hl]
  · obtain ⟨S0, ρ, t, ds, x, dx, us, rfl, hl, ts, nw, hx, r, hp⟩ := h
    obtain ⟨tt, hj⟩ := hb cdv A outer s H E hr
    have hul := r.length
    -- the frame at the start
    have e0 : L2.start (n0 :: N) (V.ref x :: us) = some (V.ref x) :: (us.map some ++ List.replicate (N.length - us.length) none) := by
      unfold L2.start
      rw [List.map_cons, List.cons_append, List.length_cons, List.length_cons, Nat.add_sub_add_right]
    have own0 : ∀ {i : Nat} {d : D}, (Slot.own (.obj c []) :: (ds.map Slot.val ++ List.replicate (N.length - ds.length) .no))[i]? = some (.own d) → i = 0 ∧ d = .obj c [] := fun {i d} e => by
      cases i with
      | zero => cases e; exact ⟨rfl, rfl⟩
      | succ i => exact (slots_no (show (ds.map Slot.val ++ List.replicate (N.length - ds.length) .no)[i]? = some (.own d) from e)).elim
    have hw : Wa S0 ρ (Slot.own (.obj c []) :: (ds.map Slot.val ++ List.replicate (N.length - ds.length) .no)) (L2.start (n0 :: N) (V.ref x :: us)) = Wa (S1 S0 x) ρ [] [] := by
      funext a
      apply propext
      rw [wa_nil]
      constructor
      · rintro (h | h | ⟨i, d, e1, e2⟩)
        · exact .inl (.inl h)
        · exact .inr h
        · obtain ⟨rfl, _⟩ := own0 e1
          rw [e0] at e2
          cases e2
          exact .inl (.inr rfl)
      · rintro ((h | h) | h)
        · exact .inl h
        · subst h
          exact .inr (.inr ⟨0, .obj c [], rfl, by rw [e0]; rfl⟩)
        · exact .inr (.inl h)
    have nS : ¬ S0 x := fun h => nw (wa_nil.mpr (.inl h))
    have nρ : x ∉ ρ := fun h => nw (wa_nil.mpr (.inr h))
    have hp : PostI ⟨K, ca⟩ S0 ρ x H (endI (body ⟨.own (.obj c []) :: (ds.map .val ++ List.replicate (N.length - ds.length) .no), t⟩)) Q E := hp
    have t0 : Sat ⟨K, ca⟩ S0 ρ ⟨.own (.obj c []) :: (ds.map .val ++ List.replicate (N.length - ds.length) .no), t⟩ (L2.start (n0 :: N) (V.ref x :: us)) H := by
      refine ⟨by rw [e0]; simp [hul], fun i d e => ?_, fun i d e => ?_, fun i j a d d' e1 e2 e3 e4 => ?_, ts.rlen, fun n a d e1 e2 => ?_, ts.nd, fun a ha h => ts.rs a ha (.inl h), fun a h => ts.s0 a (.inl h)⟩
      · show ∃ v, (L2.start (n0 :: N) (V.ref x :: us))[i]? = some (some v) ∧ Rep _ (Wa S0 ρ (Slot.own (.obj c []) :: (ds.map Slot.val ++ List.replicate (N.length - ds.length) .no)) (L2.start (n0 :: N) (V.ref x :: us))) ρ H v d
        rw [hw, e0]
        cases i with
        | zero => cases e
        | succ i =>
          have e : (ds.map Slot.val ++ List.replicate (N.length - ds.length) .no)[i]? = some (.val d) := e
          show ∃ v, (us.map some ++ List.replicate (N.length - us.length) none)[i]? = some (some v) ∧ _
          rw [hul]
          exact reps_slots r _ e
      · obtain ⟨rfl, rfl⟩ := own0 e
        refine ⟨x, by rw [e0]; rfl, ?_, nρ, nS⟩
        exact .obj hx rfl .nil
      · rw [(own0 e1).1, (own0 e2).1]
      · show ORep _ (Wa S0 ρ (Slot.own (.obj c []) :: (ds.map Slot.val ++ List.replicate (N.length - ds.length) .no)) (L2.start (n0 :: N) (V.ref x :: us))) ρ H a d
        rw [hw]
        exact ts.sto n a d e1 e2
    refine ⟨tt, hj.pss, hj.ev S0 ρ _ _ H _ t0 ?_⟩
    generalize body ⟨.own (.obj c []) :: (ds.map .val ++ List.replicate (N.length - ds.length) .no), t⟩ = res at hp
    have fin : ∀ {s' : S} {σ' : L2.St} {H' : Hp} {ρ' : List Addr}, Sat ⟨K, ca⟩ S0 ρ' s' σ' H' → Nx S0 ρ (Slot.own (.obj c []) :: (ds.map Slot.val ++ List.replicate (N.length - ds.length) .no)) (L2.start (n0 :: N) (V.ref x :: us)) H ρ' s'.e σ' H' → Fx 1 (L2.start (n0 :: N) (V.ref x :: us)) σ' →
        PostI ⟨K, ca⟩ S0 ρ x H (match s'.e[(0 : Nat)]? with | some (.own d) => .ok d ⟨[], s'.t⟩ | _ => .stuck) Q E → Q .non H' := fun {s' σ' H' ρ'} t' n' f' q => by
      have hx0 : σ'[0]? = some (some (.ref x)) := by rw [f' 0 (by decide), e0]; rfl
      cases z : s'.e[(0 : Nat)]? with
      | none => rw [z] at q; exact q.elim
      | some sl =>
        cases sl with
        | own d =>
          rw [z] at q
          obtain ⟨a, e1, ro, n1, n2⟩ := t'.own 0 d z
          rw [hx0] at e1; cases e1
          have wx : Wa S0 ρ' s'.e σ' x := .inr (.inr ⟨0, d, z, hx0⟩)
          have kp : Kp S0 (Wa S0 ρ' s'.e σ') H' (Wa (S1 S0 x) ρ' [] []) H' := ⟨fun _ _ _ e => e, fun b _ nb _ w => (wa_nil.mp w).elim (fun w => w.elim (fun w => nb (.inl w)) fun w => nb (by rw [w]; exact wx)) fun w => nb (.inr (.inl w)), fun _ _ _ e => e⟩
          have k0 := n'.k
          rw [hw] at k0
          refine q H' ρ' ⟨rfl, fun i d e => by (cases e), fun i d e => by (cases e), fun i j a d d' e => by (cases e), t'.rlen, fun n a d e1 e2 => (t'.sto n a d e1 e2).mono kp (List.prefix_refl _) rfl, t'.nd, fun a ha h => h.elim (t'.rs a ha) fun h => n1 (by rw [← h]; exact ha), fun a h => h.elim (t'.s0 a) fun h => by rw [h]; exact ro.some⟩ (k0.trans kp) n'.p (ro.mono kp (List.prefix_refl _) rfl)
        | no => rw [z] at q; exact q.elim
        | val d => rw [z] at q; exact q.elim
    cases res with
    | stuck => exact hp
    | exc y s' =>
      intro cv dx' σ' H' ρ' t' n' _ xr
      obtain ⟨t2, n2⟩ := t'.drop
      have k0 := n'.k
      rw [hw] at k0
      refine hp cv dx' H' ρ' t2 (k0.trans n2.k) (n'.p.trans n2.p) ⟨xr.1, fun fs hf => ?_⟩
      obtain ⟨a, vs, h1, h2, h3, h4, h5⟩ := xr.2 fs hf
      exact ⟨a, vs, h1, h2, n2.k.wn _ _ h3 h2, h4, h5.mono n2.k n2.p⟩
    | ok fl s' =>
      cases fl with
      | nx => exact fun σ' H' ρ' t' n' f' => fin t' n' f' hp
      | rt d =>
        intro v σ' H' ρ' t' n' f' rr
        cases d with
        | non =>
          obtain rfl := br_non (.inl rr)
          exact fin t' n' f' hp
        | _ => exact hp.elim
      | bk => exact hp.elim
      | ct => exact hp.elim
end
end Mi

namespace Mi
open PySem PySem.Spec PyProof.Rows L2
section
variable {G : Gc} {X : Cx} {ca : Nat → Addr} {W : WX} {e o : Expr} {es : List Expr} {te to : TE} {tA tk : TA} {m mo : M Loc} {mA mK : M (List Loc)} {pos p : Pos} {nf k : Nat} {f : Addr} {fd : FuncData} {ps : List Str} {x p0 : Str} {g : List D → M D} {c : Nat}
/-- C(e, ..): a new instance, then its __init__ -/
def tMakeS (C : Addr) (sp : Sp) (E : L2.St → XK) (t : TA) : TE := fun σ H Q => t σ H fun vs H1 => ∀ x dx, H1 x = none → H1 dx = none → dx ≠ x →
  sp (.ref x :: vs) (upd (upd H1 dx (.own x)) x (.ins C dx [])) (fun v H2 => v = .non ∧ Q (.ref x) H2) (E σ)
theorem run_makeS {C : Addr} {sp : Sp} {E : XK} {pins : List (Addr × Obj)} {σ : L2.St} {H : Hp} {s : Shared} {Q : VK} {us : List Value} {vs : List V} (Mm : Mk X.K C f) (F : FnOk X.prog X.w X.K X.mg X.base (L2.CX X.prog X.w) k f fd ps sp) (hr : Room (k + 1) X.A) (hb : Binds X.K fd ps [])
    (hx : PassesAt (L2.CX X.prog X.w) X σ E) (I : Inv X pins σ H s) (r : Vals vs us)
    (h : ∀ x dx, H x = none → H dx = none → dx ≠ x → sp (.ref x :: vs) (upd (upd H dx (.own x)) x (.ins C dx [])) (fun v H2 => v = .non ∧ Q (.ref x) H2) E) :
    wpAny (model X.prog X.w) X.A (call (.ref C) us) (EP X pins σ Q) X.xe s := by
  have hq := h (s.heap.objs.size + 1) s.heap.objs.size (I.hok.fresh (Nat.le_succ _)) (I.hok.fresh (Nat.le_refl _)) (Nat.ne_of_lt (Nat.lt_succ_self _))
  have J := Inv.made (C := C) I
  have rr : Vals (V.ref (s.heap.objs.size + 1) :: vs) (Value.ref (s.heap.objs.size + 1) :: us) := .cons rfl r
  have hl : (Value.ref (s.heap.objs.size + 1) :: us ++ []).length = ps.length := by
    rw [List.append_nil, ← rr.length]
    exact F.len _ _ _ _ hq
  have hbd := hb _ (Value.ref (s.heap.objs.size + 1) :: us) J.kIn hl
  rw [List.append_nil] at hbd
  refine wpAny_call (make_map (f := f) I.kIn Mm.makes Mm.init (beq_iff_eq.mp Mm.fn) (codeAny_mono (F.run _ X.stack _ _ _ _ _ _ E (hr.make C us []) (J.env0.make C us []) hbd rr hq) fun res s' hres => ?_))
  cases res with
  | error er => exact hx pins _ _ er s' J hres
  | ok fl =>
    cases fl with
    | ret u =>
      obtain ⟨v, H', J3, rv, ev, q3⟩ := J.after hres
      subst ev
      exact ⟨rv, ⟨V.ref (s.heap.objs.size + 1), H', J3, rfl, q3⟩⟩
    | next => exact hres.elim
    | brk => exact hres.elim
    | cont => exact hres.elim
/-- what is left of a call that makes an instance -/
def callI (g : List D → M D) (ds : List D) : M D := fun s => match g ds ⟨[], s.t⟩ with
  | .ok d s' => .ok d ⟨s.e, s'.t⟩
  | .exc x s' => .exc x ⟨s.e, s'.t⟩
  | .stuck => .stuck
def nMake (g : List D → M D) (ma : M (List Loc)) : M D := bnd ma fun ls => bnd (vals ls) fun ds => callI g ds
theorem s1_sc {S0 : Addr → Prop} {e : List Slot} {σ : L2.St} {a : Addr} : S1 (Sc S0 e σ) a = Sc (S1 S0 a) e σ := by
  funext b
  apply propext
  constructor
  · rintro ((h | h) | h)
    · exact .inl (.inl h)
    · exact .inr h
    · exact .inl (.inr h)
  · rintro ((h | h) | h)
    · exact .inl (.inl h)
    · exact .inr h
    · exact .inl (.inr h)
theorem back_gen {G : Gc} {Sa Sb S0 : Addr → Prop} {ρ ρ' : List Addr} {s s' : S} {σ : L2.St} {H H' : Hp} (t : Sat G Sa ρ s σ H) (t' : Sat G (Sc Sb s.e σ) ρ' ⟨[], s'.t⟩ [] H') (k : Kp (Sc S0 s.e σ) (Wa Sa ρ s.e σ) H (Wa Sb ρ' s.e σ) H') (p : ρ <+: ρ') (sub : ∀ a, Sb a → Sa a) :
    Sat G Sb ρ' ⟨s.e, s'.t⟩ σ H' := by
  refine ⟨t.len, fun i d e => let ⟨v, e1, r⟩ := t.val i d e; ⟨v, e1, r.mono k p⟩, fun i d e => ?_, t.inj, t'.rlen, fun m a d e1 e2 => ?_, t'.nd, fun a ha w => t'.rs a ha (.inl w), fun a w => t'.s0 a (.inl w)⟩
  · obtain ⟨a, e1, r, n1, n2⟩ := t.own i d e
    obtain ⟨o, q⟩ := r.some
    exact ⟨a, e1, r.mono k p ((k.s0 a o (.inr ⟨i, d, e, e1⟩) q).trans q.symm), fun ha => t'.rs a ha (.inr ⟨i, d, e, e1⟩), fun h => n2 (sub a h)⟩
  · have q : ORep G (Wa (Sc Sb s.e σ) ρ' [] []) ρ' H' a d := t'.sto m a d e1 e2
    rw [wa_sc] at q; exact q
theorem make_post {G : Gc} {X : WX} {S0 : Addr → Prop} {ρ : List Addr} {s : S} {σ : L2.St} {H : Hp} {n : Nat} {vs : List V} {ds : List D} {Q : VK} (hn : vs.length = n) (t : Sat G S0 ρ s σ H) (r : Reps G (Wa S0 ρ s.e σ) ρ H vs ds) (hp : PostN G X S0 ρ s σ H (callI g ds s) Q) (x dx : Addr) (nx : H x = none) (ndx : H dx = none) (ne : dx ≠ x) :
    spI G c n g (.ref x :: vs) (upd (upd H dx (.own x)) x (.ins (G.ca c) dx [])) (fun v H2 => v = .non ∧ Q (.ref x) H2) (fun cv d H' => X cv d σ H') := by
  have x1 : Ext H (upd H dx (.own x)) := .new ndx
  obtain ⟨t1, k1⟩ := t.grow x1
  have nx1 : (upd H dx (.own x)) x = none := by rw [upd_ne (Ne.symm ne)]; exact nx
  obtain ⟨t2, k2, nw⟩ := t1.laid (o := .ins (G.ca c) dx []) nx1
  have kk := k1.trans k2
  have tc := t2.call
  refine ⟨Sc S0 s.e σ, ρ, s.t, ds, x, dx, vs, rfl, hn, by rw [s1_sc]; exact tc, by rw [wa_sc]; exact nw, upd_same, ?_, ?_⟩
  · rw [s1_sc, wa_sc]
    exact r.mono kk (List.prefix_refl _)
  · unfold callI at hp
    cases e : g ds ⟨[], s.t⟩ with
    | stuck => simp only [e] at hp; exact hp
    | ok d s' =>
      simp only [e] at hp
      intro H' ρ' t' k' p' ro
      rw [s1_sc] at t'
      rw [s1_sc, wa_sc, wa_sc] at k'
      rw [s1_sc, wa_sc] at ro
      have tb := back_gen (S0 := S0) t2 t' k' p' fun _ h => h
      have kf : Kp S0 (Wa S0 ρ s.e σ) H (Wa (S1 S0 x) ρ' s.e σ) H' := kk.trans ⟨k'.keep, k'.wn, fun b o w e => k'.s0 b o (.inl w) e⟩
      refine ⟨rfl, hp x H' ρ' tb kf p' (fun w => ?_) ro⟩
      have hx := tb.rs
      rcases w with w | w | ⟨i, d', e1, e2⟩
      · exact nw (.inl w)
      · exact tb.rs x w (.inr rfl)
      · obtain ⟨b, e3, _, _, nb⟩ := tb.own i d' e1
        rw [e2] at e3; cases e3
        exact nb (.inr rfl)
    | exc y s' =>
      simp only [e] at hp
      intro cv d' H' ρ' t' k' p' xr
      rw [s1_sc, wa_sc, wa_sc] at k'
      rw [wa_sc] at xr
      have tb := back_gen (S0 := S0) t2 t' k' p' fun a h => .inl h
      have kf : Kp S0 (Wa S0 ρ s.e σ) H (Wa S0 ρ' s.e σ) H' := kk.trans ⟨k'.keep, k'.wn, fun b o w e => k'.s0 b o (.inl w) e⟩
      exact hp cv d' H' ρ' tb ⟨kf, p'⟩ xr
theorem jn_make (Mm : Mk X.K (ca c) f) (F : FnOk X.prog X.w X.K X.mg X.base (L2.CX X.prog X.w) k f fd (p0 :: ps) (spI ⟨X.K, ca⟩ c ps.length g)) (hr : Room (k + 1) X.A) (hg : Gl X x) (hm : X.mg x = some (.ref (ca c))) (hb : Binds X.K fd (p0 :: ps) []) (tkx : Takes X W)
    (ha : JA X ca W (e :: es) tA mA) (hn : (e :: es).length = ps.length := by rfl) (hdb : (x == ("__debug__" : Str)) = false := by decide) (he : starEach (e :: es) X.env = (false, eval e X.env) :: starEach es X.env := by rfl) (hpl : (backTo pos (starEach es X.env)).any (·.1) = false := by rfl) :
    JN X ca W (.Call (.Name x p) (e :: es) [] pos) (tMakeS (ca c) (spI ⟨X.K, ca⟩ c ps.length g) (fun σ cv dx H' => W cv dx σ H') tA) (nMake g mA) := by
  refine ⟨⟨fun pins s σ H Q I h => ?_⟩, fun S0 ρ s σ H Q t hp => ?_⟩
  · refine wpAny_Call_Name_kw (ld_glob I hg hm ?_ hdb)
    refine PySem.W.callWith_K (h₀ := X.base) I.ok.mod.kin Mm.kp (thn (ha.pa.run pos pins s σ H _ I h) fun us s1 ⟨vs, H1, I1, r, q⟩ => ⟨I1.kIn, ?_⟩) he hpl
    exact run_makeS Mm F hr hb (passAt tkx σ) I1 r q
  · refine ha.ev _ _ _ _ _ _ t ((wN Q).bind hp fun ls s1 e1 vs H1 ρ1 t1 n1 r1 hp1 => (wN Q).vals t1 r1 hp1 fun ds s2 t2 n2 r2 hp2 x dx nx ndx ne => ?_)
    exact make_post (by rw [← hn, ← ha.len _ _ _ e1]; exact Paired.length r1) t2 r2 hp2 x dx nx ndx ne
/-- an exception of an own class without an __init__, made with nothing -/
def sRaise0 (c : Nat) : M Fl := fun s => .exc ⟨c, none⟩ s
theorem js_raise0 {xp : Expr} (hc : X.calm = true) (tkx : Takes X W) (hm : PMk X xp (fun _ H Q => Q (.ref (ca c)) none H)) : JS X ca W nf (.Raise (some xp) none pos) (fun _ σ H => W (.ref (ca c)) none σ H) (sRaise0 c) :=
  ⟨ps_raise hc tkx hm, fun S0 ρ s σ H E t hp => hp _ _ σ H ρ t .refl .refl ⟨rfl, fun _ h => by cases h⟩⟩
/-- what is never come to -/
def sNever : M Fl := stk
theorem js_never {st : Stmt} : JS X ca W nf st tNever sNever := ⟨ps_never, fun S0 ρ s σ H E t hp => hp⟩
theorem jb_never {st : List Stmt} : JB X ca W nf st tNever sNever := ⟨pss_never, fun S0 ρ s σ H E t hp => hp⟩
end
end Mi

/-! the end: what a law promises, tables of the module. -/
namespace Mi
open PySem PySem.Spec PyProof.Rows L2

/-- a law whose mirror answers True for every short script -/
def spLaw (K : PySem.W.Frag) (n : Nat) : Sp := fun vs H Q E => ∃ (a : Addr) (ns : List Int), vs = [.ref a] ∧ ns.length ≤ n ∧ SqL K H a (ns.map V.int) ∧ ∀ H', Q (.bl true) H'
theorem reps_script {G : Gc} {W : Addr → Prop} {ρ : List Addr} {H : Hp} : ∀ ns : List Int, Reps G W ρ H (ns.map V.int) (ns.map D.int)
  | [] => .nil
  | _ :: r => .cons .int (reps_script r)
theorem sat_nil {G : Gc} {H : Hp} : Sat G (fun _ => False) [] ⟨[], []⟩ [] H where
  len := rfl
  val := fun i d h => by simp at h
  own := fun i d h => by simp at h
  inj := fun i j a d d' h => by simp at h
  rlen := rfl
  sto := fun n a d h => by simp at h
  nd := .nil
  rs := fun a h => by simp at h
  s0 := fun a h => h.elim
theorem law_imp {K : PySem.W.Frag} {ca : Nat → Addr} {g : List D → M D} {n : Nat} (h : ∀ ns : List Int, ns.length ≤ n → ∃ s', g [.lck (ns.map .int)] ⟨[], []⟩ = .ok (.bl true) s') (vs : List V) (H : Hp) (Q : VK) (E : XK) : spLaw K n vs H Q E → spM ⟨K, ca⟩ 1 g vs H Q E := by
  rintro ⟨a, ns, rfl, hl, hS, hQ⟩
  obtain ⟨s', e⟩ := h ns hl
  have nw : ¬ Wa (fun _ => False) [] [] [] a := fun z => by
    rcases z with z | z | ⟨i, d, z, _⟩
    · exact z
    · simp at z
    · simp at z
  refine ⟨fun _ => False, [], [], [.lck (ns.map .int)], rfl, sat_nil, .cons ?_ .nil, ?_⟩
  · rcases hS with hS | hS
    · exact .lck hS nw (reps_script ns)
    · exact .lckK hS (reps_script ns)
  · show PostF _ _ _ _ (g [.lck (ns.map .int)] ⟨[], []⟩) Q E
    rw [e]
    intro v H' ρ' _ _ r
    cases r
    exact hQ H'
theorem fn_law {P : Program} {w : World} {K : PySem.W.Frag} {mg : Str → Option Value} {base : Heap} {ca : Nat → Addr} {k : Nat} {f : Addr} {x : Str} {fd : FuncData} {g : List D → M D} {n : Nat} (h : ∀ ns : List Int, ns.length ≤ n → ∃ s', g [.lck (ns.map .int)] ⟨[], []⟩ = .ok (.bl true) s')
    (F : FnOk P w K mg base (L2.CX P w) k f fd [x] (spM ⟨K, ca⟩ 1 g)) : FnOk P w K mg base (L2.CX P w) k f fd [x] (spLaw K n) := F.imp (law_imp h)

/-! ### a dict of the module, its keys words -/
theorem find_keyOf {P : Params} (z : Str) : ∀ {l : List DictEntry} {ks : List Str}, l.map He.keyOf = He.keysIn P ks → (l.find? (·.key.isStr z)).isSome = decide (z ∈ ks) ∧ l.any (·.refKey) = false
  | [], [], _ => ⟨by simp, rfl⟩
  | [], _ :: _, h => by cases h
  | _ :: _, [], h => by cases h
  | e :: r, k :: ks, h => by
    have h1 : He.keyOf e :: r.map He.keyOf = some (k, PyData.keyHash P k) :: He.keysIn P ks := h
    injection h1 with h2 h3
    obtain ⟨i1, i2⟩ := find_keyOf z h3
    unfold He.keyOf at h2
    split at h2
    · rename_i x t q
      obtain ⟨h5, h6⟩ := Prod.mk.inj (Option.some.inj h2)
      subst h5
      refine ⟨?_, ?_⟩
      · rw [List.find?_cons]
        have e1 : e.key.isStr z = decide (z = x) := by
          rw [q]
          show (x == z) = _
          by_cases c : z = x
          · subst c; simp
          · simp [c]; exact fun y => c y.symm
        rw [e1]
        by_cases c : z = x
        · simp [c]
        · simp [c]; simpa using i1
      · rw [List.any_cons, i2]
        have : e.refKey = false := by unfold DictEntry.refKey; rw [q]
        rw [this]; rfl
    · cases h2
theorem kwords_of {K : PySem.W.Frag} {w : World} {a : Addr} {ks : List Str} {es : Array DictEntry} {n : Nat} (l : K.lookup a = some ⟨.type "dict", none, .dict es n, #[]⟩) (b : (a == sysModules) = false) (h : es.toList.map He.keyOf = He.keysIn w.params ks) : KWords K w a ks := by
  refine ⟨⟨es, n, l, He.keysLit_of h, b⟩, fun z => ?_⟩
  unfold PySem.W.nsIn
  rw [l]
  obtain ⟨i1, i2⟩ := find_keyOf z h
  simp only
  cases e : es.toList.find? (·.key.isStr z) with
  | some y => rw [e] at i1; exact ⟨_, rfl, by simpa using i1⟩
  | none => rw [e] at i1; exact ⟨none, by simp only [i2]; rfl, by simpa using i1⟩
theorem cx_no {P : Program} {w : World} {o : List Env} {H : Hp} {s s' : Shared} {u : Value} : L2.CX P w o H s (fun _ _ _ => False) u s' → False := fun ⟨_, _, _, _, _, _, _, _, _, _, _, _, h⟩ => h
end Mi

/-! methods of own instances; a field changed in place; texts that begin so. -/
namespace Mi
open PySem PySem.Spec PyProof.Rows L2
section
variable {G : Gc} {X : Cx} {ca : Nat → Addr} {W : WX} {e o : Expr} {es : List Expr} {te to ta : TE} {t tA tk : TA} {m mo : M Loc} {mA : M (List Loc)} {pos p apos pos' : Pos} {nf k : Nat} {f : Addr} {fd : FuncData} {ps : List Str} {x mn fn : Str} {g : List D → M D} {c : Nat}
/-- o.m(..), the exceptions by the frame's values -/
def tMethS (C : Addr) (m : Str) (sp : Sp) (E : L2.St → XK) (ta : TE) (t : TA) : TE := fun σ H Q => ta σ H fun x H1 => ∃ a dx fs, (x = .ref a ∧ H1 a = some (.ins C dx fs) ∧ fs.lookup m = none) ∧
  t σ H1 fun vs H2 => sp (.ref a :: vs) H2 Q (E σ)
theorem pe_mS {pl : Sem Bool} {C : Addr} {sp : Sp} {E : L2.St → XK} (he : PE X o ta) (c : Cls X.K C) (hm : Meth X.K C mn f) (F : FnOk X.prog X.w X.K X.mg X.base (L2.CX X.prog X.w) k f fd ps sp) (hr : Room k X.A) (hb : Binds X.K fd ps []) (hx : ∀ σ, PassesAt (L2.CX X.prog X.w) X σ (E σ)) (ha : PA X (e :: es) t)
    (h2 : starEach (e :: es) X.env = (false, eval e X.env) :: starEach es X.env) (h3 : (backTo pos (starEach es X.env)).any (·.1) = false)
    (ht : eval (.Call (.Attribute o mn apos) (e :: es) [] pos) X.env = (do
      let ov ← eval o X.env
      standAt apos.atName
      let (fv, first) ← holding [ov] (getMethod ov mn pl)
      callWith pos fv first (backTo pos (starEach (e :: es) X.env)) (backToKw pos (keywordEach [] X.env)))) : PE X (.Call (.Attribute o mn apos) (e :: es) [] pos) (tMethS C mn sp E ta t) := by
  refine ⟨fun pins s σ H Q I h => PySem.W.methodCall_KW (pl := pl) (thn (he.run pins s σ H _ I h) fun u s1 h1 => ?_) ht⟩
  obtain ⟨x, H1, I1, rx, a, dx, fs, ⟨ex, ea, l⟩, q⟩ := h1
  subst ex
  have hu : u = Value.ref a := rx
  subst hu
  refine getmeth_ok I1 ea c hm l ?_
  refine PySem.W.callWith_K (first := [.ref a]) (h₀ := X.base) I.ok.mod.kin hm.kp ?_ h2 h3
  refine thn (ha.run pos pins s1 σ H1 _ I1 q) fun us s2 z => ?_
  obtain ⟨vs, H2, I2, r, q2⟩ := z
  exact ⟨I2.kIn, run_fnS (us := .ref a :: us) (vs := .ref a :: vs) F hr hb (hx σ) I2 (.cons rfl r) q2⟩
theorem pe_mS0 {pl : Sem Bool} {C : Addr} {sp : Sp} {E : L2.St → XK} (he : PE X o ta) (c : Cls X.K C) (hm : Meth X.K C mn f) (F : FnOk X.prog X.w X.K X.mg X.base (L2.CX X.prog X.w) k f fd ps sp) (hr : Room k X.A) (hb : Binds X.K fd ps []) (hx : ∀ σ, PassesAt (L2.CX X.prog X.w) X σ (E σ))
    (ht : eval (.Call (.Attribute o mn apos) [] [] pos) X.env = (do
      let ov ← eval o X.env
      standAt apos.atName
      let (fv, first) ← holding [ov] (getMethod ov mn pl)
      callWith pos fv first (backTo pos (starEach [] X.env)) (backToKw pos (keywordEach [] X.env)))) : PE X (.Call (.Attribute o mn apos) [] [] pos) (tMethS C mn sp E ta tNil) := by
  refine ⟨fun pins s σ H Q I h => PySem.W.methodCall_KW (pl := pl) (thn (he.run pins s σ H _ I h) fun u s1 h1 => ?_) ht⟩
  obtain ⟨x, H1, I1, rx, a, dx, fs, ⟨ex, ea, l⟩, q⟩ := h1
  subst ex
  have hu : u = Value.ref a := rx
  subst hu
  refine getmeth_ok I1 ea c hm l ?_
  exact PySem.W.callWith_K0 (first := [.ref a]) I1.kIn hm.kp (run_fnS (us := [.ref a]) (vs := [.ref a]) F hr hb (hx σ) I1 (.cons rfl .nil) q)
def hasM (c : Nat) (m : Str) (d : D) (s : S) : Bool := match d with
  | .obj c' fs => decide (c' = c) && (fs.lookup m).isNone
  | .ptr n => match s.t[n]? with | some (.obj c' fs) => decide (c' = c) && (fs.lookup m).isNone | _ => false
  | _ => false
def eMeth (c : Nat) (mn : Str) (g : List D → M D) (mo : M Loc) (ma : M (List Loc)) : M Loc := bnd mo fun l => bnd (toVal l) fun d => fun s => if hasM c mn d s = true then (bnd ma fun ls => bnd (vals ls) fun ds => callF g (d :: ds)) s else .stuck
theorem none_of_isNone {α : Type} {o : Option α} (h : o.isNone = true) : o = none := by cases o <;> first | rfl | cases h
theorem hasM_at {G : Gc} {S0 : Addr → Prop} {ρ : List Addr} {s : S} {σ : L2.St} {H : Hp} {v : V} {d : D} (t : Sat G S0 ρ s σ H) (r : Rep G (Wa S0 ρ s.e σ) ρ H v d) (h : hasM c mn d s = true) : ∃ a dx fs, v = .ref a ∧ H a = some (.ins (G.ca c) dx fs) ∧ fs.lookup mn = none := by
  cases d with
  | obj c' fs =>
    have h : (decide (c' = c) && (fs.lookup mn).isNone) = true := h
    rw [Bool.and_eq_true] at h
    obtain ⟨h1, h2⟩ := h
    have h1 : c' = c := of_decide_eq_true h1
    subst h1
    obtain ⟨a, dx, vs, rfl, h, ek, rr⟩ := br_obj (.inl r)
    exact ⟨a, dx, vs, rfl, h, look_none (G := G) (W := fun _ => True) (ρ := []) (H := H) ek (none_of_isNone h2)⟩
  | ptr n =>
    cases r with
    | ptr ha =>
      unfold hasM at h
      cases e0 : s.t[n]? with
      | none => simp only [e0] at h; cases h
      | some d0 =>
        cases d0 with
        | obj c' fs =>
          simp only [e0] at h
          rw [Bool.and_eq_true] at h
          obtain ⟨h1, h2⟩ := h
          have h1 : c' = c := of_decide_eq_true h1
          subst h1
          obtain ⟨dx, vs, h, ek, rr⟩ := or_obj (t.sto n _ _ ha e0)
          exact ⟨_, dx, vs, rfl, h, look_none (G := G) (W := fun _ => True) (ρ := []) (H := H) ek (none_of_isNone h2)⟩
        | _ => simp only [e0] at h; cases h
  | _ => cases h
theorem ev_meth (ho : Ev ⟨X.K, ca⟩ W (LRep ⟨X.K, ca⟩) to mo) (ha : JA X ca W es tA mA) (n : Nat) (hn : es.length + 1 = n) :
    Ev ⟨X.K, ca⟩ W (LRep ⟨X.K, ca⟩) (tMethS (ca c) mn (spM ⟨X.K, ca⟩ n g) (fun σ c dx H' => W c dx σ H') to tA) (eMeth c mn g mo mA) := by
  intro S0 ρ s σ H Q t hp
  refine ho _ _ _ _ _ _ t (post_bind hp fun l s1 _ v H1 ρ1 t1 n1 r1 hp1 => post_toVal t1 r1 hp1 fun d s2 t2 n2 r2 hp2 => ?_)
  have hp2 : Post ⟨X.K, ca⟩ W (LRep ⟨X.K, ca⟩) S0 ρ1 s2 σ H1 (if hasM c mn d s2 = true then (bnd mA fun ls => bnd (vals ls) fun ds => callF g (d :: ds)) s2 else .stuck) Q := hp2
  by_cases hc : hasM c mn d s2 = true
  · rw [if_pos hc] at hp2
    obtain ⟨a, dx, fs, rfl, h, hl⟩ := hasM_at t2 r2 hc
    refine ⟨a, dx, fs, ⟨rfl, h, hl⟩, ?_⟩
    refine ha.ev _ _ _ _ _ _ t2 (post_bind hp2 fun ls s3 e3 vs H3 ρ3 t3 n3 r3 hp3 => post_vals t3 r3 hp3 fun ds s4 t4 n4 r4 hp4 => ?_)
    refine call_post ?_ t4 (.cons ((r2.mono n3.k n3.p).mono n4.k n4.p) r4) hp4
    rw [← hn, ← ha.len _ _ _ e3]
    exact congrArg (· + 1) (Paired.length r3)
  · rw [if_neg hc] at hp2; exact hp2.elim
theorem je_meth {pl : Sem Bool} (F : FnOk X.prog X.w X.K X.mg X.base (L2.CX X.prog X.w) k f fd ps (spM ⟨X.K, ca⟩ ps.length g)) (hr : Room k X.A) (cl : Cls X.K (ca c)) (hm : Meth X.K (ca c) mn f) (hb : Binds X.K fd ps []) (tk : Takes X W) (ho : JE X ca W o to mo) (ha : JA X ca W (e :: es) tA mA)
    (hn : (e :: es).length + 1 = ps.length := by rfl) (h2 : starEach (e :: es) X.env = (false, eval e X.env) :: starEach es X.env := by rfl) (h3 : (backTo pos (starEach es X.env)).any (·.1) = false := by rfl)
    (ht : eval (.Call (.Attribute o mn apos) (e :: es) [] pos) X.env = (do
      let ov ← eval o X.env
      standAt apos.atName
      let (fv, first) ← holding [ov] (getMethod ov mn pl)
      callWith pos fv first (backTo pos (starEach (e :: es) X.env)) (backToKw pos (keywordEach [] X.env))) := by rfl) :
    JE X ca W (.Call (.Attribute o mn apos) (e :: es) [] pos) (tMethS (ca c) mn (spM ⟨X.K, ca⟩ ps.length g) (fun σ c dx H' => W c dx σ H') to tA) (eMeth c mn g mo mA) :=
  ⟨pe_mS ho.pe cl hm F hr hb (fun σ => passAt tk σ) ha.pa h2 h3 ht, ev_meth ho.ev ha ps.length hn⟩
theorem je_meth0 {pl : Sem Bool} (F : FnOk X.prog X.w X.K X.mg X.base (L2.CX X.prog X.w) k f fd ps (spM ⟨X.K, ca⟩ ps.length g)) (hr : Room k X.A) (cl : Cls X.K (ca c)) (hm : Meth X.K (ca c) mn f) (hb : Binds X.K fd ps []) (tk : Takes X W) (ho : JE X ca W o to mo)
    (hn : 1 = ps.length := by rfl)
    (ht : eval (.Call (.Attribute o mn apos) [] [] pos) X.env = (do
      let ov ← eval o X.env
      standAt apos.atName
      let (fv, first) ← holding [ov] (getMethod ov mn pl)
      callWith pos fv first (backTo pos (starEach [] X.env)) (backToKw pos (keywordEach [] X.env))) := by rfl) :
    JE X ca W (.Call (.Attribute o mn apos) [] [] pos) (tMethS (ca c) mn (spM ⟨X.K, ca⟩ ps.length g) (fun σ c dx H' => W c dx σ H') to tNil) (eMeth c mn g mo aNil) :=
  ⟨pe_mS0 ho.pe cl hm F hr hb (fun σ => passAt tk σ) ht, ev_meth ho.ev ja_nil ps.length hn⟩
end
end Mi

namespace Mi
open PySem PySem.Spec PyProof.Rows L2
section
variable {G : Gc} {X : Cx} {ca : Nat → Addr} {W : WX} {e o : Expr} {es : List Expr} {te to ta : TE} {t tA tk : TA} {m mo : M Loc} {mA : M (List Loc)} {pos p apos pos' tpos : Pos} {nf k : Nat} {f : Addr} {fd : FuncData} {ps : List Str} {x mn fn : Str} {g : List D → M D} {c : Nat}
/-! ### o.f += an int -/
def fldI (c : Nat) (fn : Str) : D → Option Int
  | .obj c' fs => if c' = c then (match fs.lookup fn with | some (.int i) => some i | _ => none) else none
  | _ => none
def updI (c : Nat) (fn : Str) (z : Int) : D → Option (D × D)
  | .obj c' fs => if c' = c ∧ fs.length < 1000 then some (.obj c' (putFD fn (.int z) fs), .non) else none
  | _ => none
def sFldA (c : Nat) (fn : Str) (mo mv : M Loc) : M Fl := bnd mo fun l => bnd (cont l) fun d => match fldI c fn d with
  | some i => bnd mv fun lv => bnd (cont lv) fun dv => match dv with
    | .int j => bnd (cont l) fun d2 => match updI c fn (i + j) d2 with
      | some cd => bnd (setc l cd.1) fun _ => ret Fl.nx
      | none => stk
    | _ => stk
  | none => stk
theorem fldI_at {W : Addr → Prop} {ρ : List Addr} {H : Hp} {v : V} {d : D} {i : Int} (bd : BR G W ρ H v d) (h : fldI c fn d = some i) : ∃ a dx fs, v = .ref a ∧ H a = some (.ins (G.ca c) dx fs) ∧ fs.lookup fn = some (.int i) := by
  cases d with
  | obj c' ds =>
    have h : (if c' = c then (match ds.lookup fn with | some (.int i) => some i | _ => none) else none) = some i := h
    by_cases hc : c' = c
    · subst hc
      rw [if_pos rfl] at h
      obtain ⟨a, dx, vs, rfl, hh, ek, rr⟩ := br_obj bd
      cases e1 : ds.lookup fn with
      | none => rw [e1] at h; cases h
      | some d1 =>
        rw [e1] at h
        cases d1 with
        | int j =>
          cases h
          obtain ⟨v1, l1, r1⟩ := look_f ek rr e1
          have := br_int (.inl r1)
          subst this
          exact ⟨a, dx, vs, rfl, hh, l1⟩
        | _ => cases h
    · rw [if_neg hc] at h; cases h
  | _ => cases h
theorem js_fldA (cl : Cls X.K (ca c)) (na : NoAttr X.K (ca c) fn) (ho : JE X ca W o to mo) (he : JE X ca W e te m) : JS X ca W nf (.AugAssign (.Attribute o fn tpos) .Add e pos) (sFldAug X.K to te rAdd fn) (sFldA c fn mo m) := by
  refine ⟨ps_fldaug ho.pe he.pe in_add, fun S0 ρ s σ H E t hp => ?_⟩
  refine ho.ev _ _ _ _ _ _ t ((wS (nf := nf) E).bind hp fun l s1 _ v H1 ρ1 t1 n1 r1 hp1 => ?_)
  refine (wS (nf := nf) E).cont t1 r1 hp1 fun d bd ec hp2 => ?_
  cases ei : fldI c fn d with
  | none => simp only [ei] at hp2; exact ((wS (nf := nf) E).sk hp2).elim
  | some i =>
    simp only [ei] at hp2
    obtain ⟨a, dx, fs, rfl, hh, hl⟩ := fldI_at (c := c) (fn := fn) bd ei
    refine ⟨a, _, dx, fs, _, rfl, hh, cl, na, hl, ?_⟩
    refine he.ev _ _ _ _ _ _ t1 ((wS (nf := nf) E).bind hp2 fun lv s3 _ y H3 ρ3 t3 n3 r3 hp3 => ?_)
    refine (wS (nf := nf) E).cont t3 r3 hp3 fun dv bv ev hp4 => ?_
    cases dv with
    | int j =>
      have := br_int bv
      subst this
      refine ⟨i, j, rfl, rfl, ?_⟩
      refine post_upd (wS (nf := nf) E) (updI c fn (i + j)) (k := fun _ => ret Fl.nx) (us := []) (ds := []) t3 (stab_L r1 n3.k n3.p) .nil hp4 fun a' c0 c' d ev' wa oc z _ up => ?_
      cases ev'
      cases c0 with
      | obj c2 fs2 =>
        have z : (if c2 = c ∧ fs2.length < 1000 then some (D.obj c2 (putFD fn (.int (i + j)) fs2), D.non) else none) = some (c', d) := z
        by_cases hc : c2 = c ∧ fs2.length < 1000
        · rw [if_pos hc] at z
          obtain ⟨ez1, ez2⟩ := Prod.mk.inj (Option.some.inj z)
          clear z
          subst ez1
          obtain ⟨hc1, hc2⟩ := hc
          subst hc1
          obtain ⟨dx2, vs, h2, ke, r⟩ := or_obj oc
          have hlen : vs.length = fs2.length := by have := congrArg List.length ke; simpa using this
          refine ⟨dx2, vs, h2, by rw [hlen]; exact hc2, ?_⟩
          obtain ⟨i1, i2⟩ := putF_reps (fn := fn) (v := .int (i + j)) .int ke r
          obtain ⟨s4, t4, n4, hw, hp5⟩ := up (.ins (ca c2) dx2 (putF fn (.int (i + j)) vs)) fun S1 kp => .obj upd_same i1 (i2.mono kp (List.prefix_refl _))
          exact PostS.nx (X := W) (E := E) hp5 t4
        · have z : (none : Option (D × D)) = some (c', d) := (if_neg hc).symm.trans z
          cases z
      | _ => have z : (none : Option (D × D)) = some (c', d) := z; cases z
    | _ => exact ((wS (nf := nf) E).sk hp4).elim
/-! ### x.startswith(y, i) -/
def begD : D → List D → Option D
  | .str x, [.str y, .int i] => some (.bl (Txt.startswith3 x y i))
  | _, _ => none
def rBegins : V → List V → Hp → VK → Prop := fun x xs H Q => ∃ (a b : Str) (i : Int), x = .str a ∧ xs = [.str b, .int i] ∧ Q (.bl (Txt.startswith3 a b i)) H
theorem mt_begins : MtR X "str.startswith" rBegins := mt_startswith3
theorem sp_beg : SpM G rBegins begD := by
  intro W ρ H x xs dx ds d Q tk bx bs e q
  match dx, ds, e with
  | .str a, [.str b, .int i], e =>
    cases e
    obtain rfl := br_str bx
    cases bs with
    | cons b1 bs => cases bs with
      | cons b2 bs => cases bs with
        | nil =>
          obtain rfl := br_str b1
          obtain rfl := br_int b2
          exact ⟨a, b, i, rfl, rfl, q _ _ .refl .bl⟩
end
end Mi

namespace Mi
open PySem PySem.Spec PyProof.Rows L2
/-! ### own exceptions, raised and caught -/
theorem pmk_own0 {X : Cx} {C : Addr} {bmB : List Value} {B newId initId : String} {x : Str} {p pos : Pos} (F : ExcBaseFacts B newId initId bmB) (q : PySem.W.excIn X.K C bmB newId = true) (gC : X.mg x = some (.ref C))
    (kC : PySem.W.keepIn X.K (.ref C) = true) (r : Raises X (.ref C)) (hg : Gl X x) (hdb : (x == ("__debug__" : Str)) = false := by decide) :
    PMk X (.Call (.Name x p) [] [] pos) (fun _ H Q => Q (.ref C) none H) := by
  intro pins s σ H Q I h
  refine wpAny_Call_Name_kw (ld_glob I hg gC ?_ hdb)
  refine PySem.W.callWith_K0 I.kIn kC ?_
  show wpAny _ _ (call (.ref C) []) _ _ _
  obtain ⟨bm, N, nm, qn, bs, hdct, sn, sub, ab, col, dd, k0, k1, k2, k3, k5, mN, hC, hN, hni, T⟩ := exc_obj I.kIn q
  refine wpAny_call_exc_subT F T hC hN hni (fun h' e hm => ?_) (Nat.zero_le _)
  exact mk_of I hm r h (I.hok.gone hm.new)
/-- an exception class of the program, over ValueError, without an __init__ -/
structure XCls (K : PySem.W.Frag) (C : Addr) : Prop where
  q : PySem.W.excIn K C [.type "ValueError", .type "Exception", .type "BaseException", .type "object"] "ValueError.__new__" = true
  k : PySem.W.keepIn K (.ref C) = true
  b : PySem.W.subIn K (.ref C) (.type "BaseException") = some true
  t : PySem.W.typeIn K (.ref C) = some (.type "type")
theorem exm_pair {K : PySem.W.Frag} {R S : Addr} {b : Bool} (h1 : PySem.W.subIn K (.ref S) (.type "BaseException") = some true) (h2 : PySem.W.isClsIn K S = true) (h3 : PySem.W.typeIn K (.ref S) = some (.type "type")) (h4 : PySem.W.subIn K (.ref R) (.ref S) = some b) :
    PySem.W.exmOne K (.ref R) (.ref S) = some b := by
  have e1 : (PySem.W.subIn K (.ref S) (.type "BaseException") == some true) = true := by rw [h1]; rfl
  have e2 : ((PySem.W.clsIn K S).isSome && PySem.W.typeIn K (.ref S) == some (.type "type")) = true := by
    have h2' : (PySem.W.clsIn K S).isSome = true := h2
    rw [h2', h3]; rfl
  show (if (PySem.W.subIn K (.ref S) (.type "BaseException") == some true) = true then (if ((PySem.W.clsIn K S).isSome && PySem.W.typeIn K (.ref S) == some (.type "type")) = true then PySem.W.subIn K (.ref R) (.ref S) else none) else none) = some b
  rw [if_pos e1, if_pos e2, h4]
section
variable {X : Cx} {ca : Nat → Addr} {W : WX} {nf c : Nat} {pos p np pos' : Pos} {x : Str}
theorem js_raiseO (hc : X.calm = true) (tkx : Takes X W) (hx : XCls X.K (ca c)) (g : X.mg x = some (.ref (ca c))) (hg : Gl X x) (hdb : (x == ("__debug__" : Str)) = false := by decide) :
    JS X ca W nf (.Raise (some (.Call (.Name x p) [] [] pos)) none pos') (fun _ σ H => W (.ref (ca c)) none σ H) (sRaise0 c) :=
  js_raise0 hc tkx (pmk_own0 PySem.F.excBase_ValueError hx.q g hx.k (raises_own hx.b hx.t) hg hdb)
/-- the mirror as a reading -/
def tMir (G : Gc) (nf : Nat) (m : M Fl) (W : WX) : TS := fun D σ H => ∃ S0 ρ s, Sat G S0 ρ s σ H ∧ PostS G W nf S0 ρ s σ H (m s) D
theorem pss_mir {X' : Cx} {st : List Stmt} {m : M Fl} (h : ∃ ts, JB X' ca W nf st ts m) : PSs X' st (tMir ⟨X'.K, ca⟩ nf m W) := by
  obtain ⟨ts, h⟩ := h
  exact ⟨fun pins s σ H D I ⟨S0, ρ, s0, t, hp⟩ => h.pss.run pins s σ H D I (h.ev S0 ρ s0 σ H D t hp)⟩
def calmR (r : Res Fl) : Res Fl := match r with
  | .ok f s => .ok f s
  | _ => .stuck
/-- the clauses of a try, one after the other: what ex tells of the classes -/
def runH (ex : Nat → Nat → Option Bool) (x : Xn) (s : S) : List (Nat × M Fl) → Res Fl
  | [] => .exc x s
  | (j, m) :: r => match ex x.c j with
    | some true => calmR (m s)
    | some false => runH ex x s r
    | none => .stuck
def sTry (ex : Nat → Nat → Option Bool) (m : M Fl) (hs : List (Nat × M Fl)) : M Fl := fun s => match m s with
  | .exc x s' => runH ex x s' hs
  | r => r
def W0f : WX := fun _ _ _ _ => False
def hdl (G : Gc) (nf : Nat) (hs : List (Nat × M Fl)) : List (Value × (Addr → Value → Option Addr → TS)) := hs.map fun p => (.ref (G.ca p.1), fun _ _ _ => tMir G nf p.2 W0f)
inductive HJ (X : Cx) (ca : Nat → Addr) (nf : Nat) : List ExceptHandler → List (Nat × M Fl) → Prop
  | nil : HJ X ca nf [] []
  | cons {x : Str} {c : Nat} {m : M Fl} {b₀ : Stmt} {suite : List Stmt} {np pos' : Pos} {hds : List ExceptHandler} {l : List (Nat × M Fl)} (hc : Names X x (.ref (ca c)))
      (hsu : ∀ (a : Addr) (pn : List (Addr × Obj)), ∃ ts, JB (X.suite a pn) ca W0f nf (b₀ :: suite) ts m) (r : HJ X ca nf hds l) :
      HJ X ca nf (.ExceptHandler (some (.Name x np)) none (b₀ :: suite) pos' :: hds) ((c, m) :: l)
theorem HJ.ok {hds : List ExceptHandler} {l : List (Nat × M Fl)} (h : HJ X ca nf hds l) : HdsOk X hds (hdl ⟨X.K, ca⟩ nf l) := by
  induction h with
  | nil => exact .nil
  | cons hc hsu r ih => exact .cons hc (fun a oe cls d pn _ _ => pss_mir (X' := X.suite a ((a, oe) :: pn)) (hsu a _)) ih
theorem calm_post {G : Gc} {S0 : Addr → Prop} {ρ : List Addr} {s : S} {σ : L2.St} {H : Hp} {r : Res Fl} {D : Ends} (h : PostS G W nf S0 ρ s σ H (calmR r) D) : PostS G W0f nf S0 ρ s σ H r D := by
  cases r with
  | ok f s' => cases f <;> exact h
  | exc x s' => exact h.elim
  | stuck => exact h
theorem hs_post {G : Gc} {K : PySem.W.Frag} {ex : Nat → Nat → Option Bool} (hex : ∀ i j b, ex i j = some b → PySem.W.exmOne K (.ref (G.ca i)) (.ref (G.ca j)) = some b) {S0 : Addr → Prop} {ρ : List Addr} {s : S} {σ : L2.St} {H : Hp} {D : Ends} {xn : Xn} {dx : Option Addr}
    (t : Sat G S0 ρ s σ H) (xr : XRep G (Wa S0 ρ s.e σ) ρ H (.ref (G.ca xn.c)) dx xn) : ∀ l : List (Nat × M Fl), PostS G W nf S0 ρ s σ H (runH ex xn s l) D → wMany K W D (hdl G nf l) (.ref (G.ca xn.c)) dx σ H
  | [], h => h _ dx σ H ρ t .refl .refl xr
  | (j, m) :: l, h => by
    unfold runH at h
    cases e : ex xn.c j with
    | none => rw [e] at h; exact h.elim
    | some b =>
      rw [e] at h
      cases b with
      | true => exact ⟨true, hex _ _ _ e, fun _ a _ => ⟨S0, ρ, s, t, calm_post h⟩, fun z => Bool.noConfusion z⟩
      | false => exact ⟨false, hex _ _ _ e, fun z => Bool.noConfusion z, fun _ => hs_post hex t xr l h⟩
theorem js_try {body : List Stmt} {h₀ : ExceptHandler} {hds : List ExceptHandler} {mb : M Fl} {l : List (Nat × M Fl)} {ex : Nat → Nat → Option Bool} (hex : ∀ i j b, ex i j = some b → PySem.W.exmOne X.K (.ref (ca i)) (.ref (ca j)) = some b)
    (hs : X.stack = X.env :: X.outer) (hf : X.env.frame = some X.env.locals) (tk : Takes X W)
    (hb : ∀ (W' : WX) (pn : List (Addr × Obj)) (xe : Value → Shared → Prop), Takes (X.tr pn xe) W' → PassesOwn (model X.prog X.w) X.A X.env xe → ∃ ts, JB (X.tr pn xe) ca W' nf body ts mb)
    (hh : HJ X ca nf (h₀ :: hds) l) : JS X ca W nf (.Try body (h₀ :: hds) [] [] pos) (fun D σ H => tMir ⟨X.K, ca⟩ nf mb (wMany X.K W D (hdl ⟨X.K, ca⟩ nf l)) D σ H) (sTry ex mb l) := by
  refine ⟨ps_try_many (tb := fun W' => tMir ⟨X.K, ca⟩ nf mb W') hs hf tk (fun W' pn xe tk' po => pss_mir (X' := X.tr pn xe) (hb W' pn xe tk' po)) hh.ok, fun S0 ρ s σ H D t hp => ⟨S0, ρ, s, t, ?_⟩⟩
  unfold sTry at hp
  cases e : mb s with
  | ok f s' => rw [e] at hp; cases f <;> exact hp
  | stuck => rw [e] at hp; exact hp
  | exc xn s' =>
    rw [e] at hp
    intro c dx σ' H' ρ' t' n' f' xr
    have ec := xr.1
    subst ec
    exact hs_post (G := ⟨X.K, ca⟩) hex t' xr l (hp.fromS n' f')
end
end Mi

namespace Mi
open PySem PySem.Spec PyProof.Rows L2
section
variable {G : Gc} {X : Cx}
/-! ### max(xs), max(i, j), xs.index(i) -/
def maxOf : List Int → Int
  | [] => 0
  | [a] => a
  | a :: b :: r => if a ≤ maxOf (b :: r) then maxOf (b :: r) else a
theorem maxOf_mem : ∀ {ns : List Int}, 0 < ns.length → maxOf ns ∈ ns
  | [a], _ => List.mem_cons_self
  | a :: b :: r, _ => by
    have ih := maxOf_mem (ns := b :: r) (by simp)
    unfold maxOf
    split
    · exact List.mem_cons_of_mem _ ih
    · exact List.mem_cons_self
theorem maxOf_le : ∀ {ns : List Int} {y : Int}, y ∈ ns → y ≤ maxOf ns
  | [a], y, h => by rw [List.mem_singleton.mp h]; exact Int.le_refl _
  | a :: b :: r, y, h => by
    unfold maxOf
    rcases List.mem_cons.mp h with e | e
    · subst e
      split
      · assumption
      · exact Int.le_refl _
    · have ih := maxOf_le (ns := b :: r) e
      split
      · exact ih
      · omega
def maxD1 : List D → Option D
  | [.lst ds] => match intsD ds with
    | some ns => if 0 < ns.length then some (.int (maxOf ns)) else none
    | none => none
  | _ => none
theorem sp_max1 : SpC G (rMax G.K) maxD1 := by
  intro W ρ H xs ds d Q tk b e q
  match ds, e with
  | [.lst ds], e =>
    obtain ⟨x, rfl, b1⟩ := brs1 b; obtain ⟨a, vs, rfl, h, r⟩ := br_lst b1
    have e : (match intsD ds with | some ns => if 0 < ns.length then some (D.int (maxOf ns)) else none | none => none) = some d := e
    cases z : intsD ds with
    | none => rw [z] at e; cases e
    | some ns =>
      rw [z] at e
      simp only at e
      by_cases c : 0 < ns.length
      · rw [if_pos c] at e
        cases e
        refine ⟨a, ns, rfl, .inl (.inl (by rw [← reps_ints r z]; exact h)), c, fun m hm hle => ?_⟩
        have : m = maxOf ns := Int.le_antisymm (maxOf_le hm) (hle _ (maxOf_mem c))
        subst this
        exact q _ _ .refl .int
      · rw [if_neg c] at e; cases e
def maxD2 : List D → Option D
  | [.int i, .int j] => some (.int (if j > i then j else i))
  | _ => none
theorem sp_max2 : SpC G (fun xs H Q => ∃ i j, xs = [.int i, .int j] ∧ Q (.int (if j > i then j else i)) H) maxD2 := by
  intro W ρ H xs ds d Q tk b e q
  match ds, e with
  | [.int i, .int j], e =>
    cases e
    cases b with
    | cons b1 bs => cases bs with
      | cons b2 bs => cases bs with
        | nil =>
          obtain rfl := br_int b1
          obtain rfl := br_int b2
          exact ⟨i, j, rfl, q _ _ .refl .int⟩
def idxD : D → List D → Option D
  | .lst ds, [.int i] => match intsD ds with
    | some ns => if i ∈ ns then some (.int (ns.idxOf i : Nat)) else none
    | none => none
  | _, _ => none
theorem sp_idx : SpM G (rIndex G.K) idxD := by
  intro W ρ H x xs dx ds d Q tk bx bs e q
  match dx, ds, e with
  | .lst es, [.int i], e =>
    obtain ⟨a, vs, rfl, h, r⟩ := br_lst bx
    have e : (match intsD es with | some ns => if i ∈ ns then some (D.int (ns.idxOf i : Nat)) else none | none => none) = some d := e
    cases bs with
    | cons b1 bs => cases bs with
      | nil =>
        obtain rfl := br_int b1
        cases z : intsD es with
        | none => rw [z] at e; cases e
        | some ns =>
          rw [z] at e
          simp only at e
          by_cases c : i ∈ ns
          · rw [if_pos c] at e
            cases e
            have hv := reps_ints r z
            have hl := List.idxOf_lt_length_of_mem c
            refine ⟨a, ns.map V.int, .int i, ns.idxOf i, .int i, rfl, rfl, .inl (.inl (by rw [← hv]; exact h)), rfl, by simp [flatV], ?_, by simp [eqV], ?_, q _ _ .refl .int⟩
            · rw [List.getElem?_map, List.getElem?_eq_getElem hl, List.getElem_idxOf hl]; rfl
            · intro m z' hm hz
              rw [List.getElem?_map] at hz
              obtain ⟨y, hy, rfl⟩ := Option.map_eq_some_iff.mp hz
              obtain ⟨hml, hme⟩ := List.getElem?_eq_some_iff.mp hy
              have ne : y ≠ i := fun z2 => by
                have := List.not_of_lt_findIdx (p := (· == i)) (xs := ns) (i := m) hm
                simp [hme, z2] at this
              simpa [eqV] using ne
          · rw [if_neg c] at e; cases e
end
end Mi

namespace Mi
open PySem PySem.Spec PyProof.Rows L2
section
variable {G : Gc} {S0 W W' : Addr → Prop} {ρ ρ' : List Addr} {H H' : Hp} {a b : Addr} {d : D} {v : V} {s : S} {σ : L2.St}
/-! ### a dict is locked, or let loose again -/
structure Sw (a : Addr) (H H' : Hp) : Prop where
  ne : ∀ b, b ≠ a → H' b = H b
  no : ∀ w, Rd H a w → (∀ kvs, w ≠ .dK kvs) → (∀ o u, w ≠ .frz o u) → False
  rd : ∀ kvs, Rd H a (.dK kvs) → Rd H' a (.dK kvs)
theorem Sw.ex (s : Sw a H H') {w : HO} (h : H b = some w) (n1 : ∀ kvs, w ≠ .dK kvs) (n2 : ∀ o u, w ≠ .frz o u) : H' b = some w := by
  by_cases c : b = a
  · subst c; exact (s.no w (.inl h) n1 n2).elim
  · rw [s.ne b c]; exact h
theorem Sw.rdx (s : Sw a H H') {w : HO} (h : Rd H b w) (n1 : ∀ kvs, w ≠ .dK kvs) (n2 : ∀ o u, w ≠ .frz o u) : Rd H' b w := by
  by_cases c : b = a
  · subst c; exact (s.no w h n1 n2).elim
  · rcases h with h | ⟨o, h⟩
    · exact .inl ((s.ne b c).trans h)
    · exact .inr ⟨o, (s.ne b c).trans h⟩
theorem Sw.rdk (s : Sw a H H') {kvs : List (Key × V)} (h : Rd H b (.dK kvs)) : Rd H' b (.dK kvs) := by
  by_cases c : b = a
  · subst c; exact s.rd kvs h
  · rcases h with h | ⟨o, h⟩
    · exact .inl ((s.ne b c).trans h)
    · exact .inr ⟨o, (s.ne b c).trans h⟩
mutual
theorem Rep.sw (k : Sw a H H') : ∀ {v : V} {d : D}, Rep G W ρ H v d → Rep G W ρ H' v d
  | _, _, .non => .non
  | _, _, .bl => .bl
  | _, _, .int => .int
  | _, _, .str => .str
  | _, _, .tup h n r => .tup (k.rdx h (by intro _ z; cases z) (by intro _ _ z; cases z)) n (Reps.sw k r)
  | _, _, .tupK h r => .tupK h (Reps.sw k r)
  | _, _, .lst h n r => .lst (k.ex h (by intro _ z; cases z) (by intro _ _ z; cases z)) n (Reps.sw k r)
  | _, _, .lck h n r => .lck (k.rdx h (by intro _ z; cases z) (by intro _ _ z; cases z)) n (Reps.sw k r)
  | _, _, .lckK h r => .lckK h (Reps.sw k r)
  | _, _, .dic h n e r => .dic (k.rdk h) n e (Reps.sw k r)
  | _, _, .dit h n e r => .dit (k.ex h (by intro _ z; cases z) (by intro _ _ z; cases z)) n e (Reps.sw k r)
  | _, _, .obj h n e r => .obj (k.ex h (by intro _ z; cases z) (by intro _ _ z; cases z)) n e (Reps.sw k r)
  | _, _, .ptr h => .ptr h
theorem Reps.sw (k : Sw a H H') : ∀ {vs : List V} {ds : List D}, Reps G W ρ H vs ds → Reps G W ρ H' vs ds
  | _, _, .nil => .nil
  | _, _, .cons h r => .cons (Rep.sw k h) (Reps.sw k r)
end
theorem ORep.sw (k : Sw a H H') (n : b ≠ a) (h : ORep G W ρ H b d) : ORep G W ρ H' b d := by
  have e := k.ne b n
  cases h with
  | lst h r => exact .lst (e.trans h) (r.sw k)
  | dic h q r => exact .dic (e.trans h) q (r.sw k)
  | dit h q r => exact .dit (e.trans h) q (r.sw k)
  | obj h q r => exact .obj (e.trans h) q (r.sw k)
theorem Sat.sw (k : Sw a H H') (n : ¬ Wa S0 ρ s.e σ a) (h : Sat G S0 ρ s σ H) : Sat G S0 ρ s σ H' := by
  refine ⟨h.len, fun i d e => ?_, fun i d e => ?_, h.inj, h.rlen, fun m b d e1 e2 => ?_, h.nd, h.rs, fun b w => ?_⟩
  · obtain ⟨v, e1, r⟩ := h.val i d e
    exact ⟨v, e1, r.sw k⟩
  · obtain ⟨b, e1, r, q⟩ := h.own i d e
    exact ⟨b, e1, r.sw k (fun z => n (by rw [← z]; exact .inr (.inr ⟨i, d, e, e1⟩))), q⟩
  · exact (h.sto m b d e1 e2).sw k (fun z => n (by rw [← z]; exact .inr (.inl (List.mem_of_getElem? e1))))
  · obtain ⟨o, q⟩ := h.s0 b w
    exact ⟨o, (k.ne b (fun z => n (by rw [← z]; exact .inl w))).trans q⟩
theorem sw_lock {od : Obj} {kvs : List (Key × V)} (h : H a = some (.dK kvs)) : Sw a H (upd H a (.frz od (.dK kvs))) := by
  refine ⟨fun b n => upd_ne n, fun w r n1 n2 => ?_, fun k2 r => ?_⟩
  · rcases r with r | ⟨o, r⟩
    · rw [h] at r; cases r; exact n1 _ rfl
    · rw [h] at r; cases r
  · rcases r with r | ⟨o, r⟩
    · rw [h] at r; cases r; exact .inr ⟨od, upd_same⟩
    · rw [h] at r; cases r
theorem sw_loose {od : Obj} {kvs : List (Key × V)} (h : H a = some (.frz od (.dK kvs))) : Sw a H (upd H a (.dK kvs)) := by
  refine ⟨fun b n => upd_ne n, fun w r n1 n2 => ?_, fun k2 r => ?_⟩
  · rcases r with r | ⟨o, r⟩
    · rw [h] at r; cases r; exact n2 _ _ rfl
    · rw [h] at r; cases r; exact n1 _ rfl
  · rcases r with r | ⟨o, r⟩
    · rw [h] at r; cases r
    · rw [h] at r; cases r; exact .inl upd_same
/-- what a step under the lock keeps is kept when it is let loose -/
theorem nx_loose {e e' : List Slot} {σ' : L2.St} {od : Obj} {kvs : List (Key × V)} (h : H a = some (.dK kvs)) (n : ¬ Wa S0 ρ e σ a) (x : Nx S0 ρ e σ (upd H a (.frz od (.dK kvs))) ρ' e' σ' H') :
    H' a = some (.frz od (.dK kvs)) ∧ ¬ Wa S0 ρ' e' σ' a ∧ Nx S0 ρ e σ H ρ' e' σ' (upd H' a (.dK kvs)) := by
  have h1 := x.k.keep a _ n upd_same
  have h2 := x.k.wn a _ n upd_same
  refine ⟨h1, h2, ⟨⟨fun b o w q => ?_, fun b o w q => ?_, fun b o w q => ?_⟩, x.p⟩⟩
  · by_cases c : b = a
    · subst c; rw [h] at q; cases q; exact upd_same
    · rw [upd_ne c]; exact x.k.keep b o w (by rw [upd_ne c]; exact q)
  · by_cases c : b = a
    · subst c; exact h2
    · exact x.k.wn b o w (by rw [upd_ne c]; exact q)
  · by_cases c : b = a
    · subst c; exact absurd (.inl w) n
    · rw [upd_ne c]; exact x.k.s0 b o w (by rw [upd_ne c]; exact q)
end
/-! ### for k in d -/
def kD : Key → D
  | .inl i => .int i
  | .inr x => .str x
theorem room65 {A : Around} {k : Nat} (hr : Room k A) : A.units + 64 + 1 < cLine := by have := hr.un; omega
theorem rep_kD {G : Gc} {W : Addr → Prop} {ρ : List Addr} {H : Hp} (k : Key) : Rep G W ρ H (kV k) (kD k) := by
  cases k with
  | inl i => exact .int
  | inr x => exact .str
def calmE (r : Res Fl) : Res Fl := match r with
  | .ok f s => .ok f s
  | _ => .stuck
/-- a walk over the keys -/
def keysF (ks : List Key) (tg : TgF) (body : M Fl) : Nat → Nat → M Fl
  | 0, _ => stk
  | n + 1, i => match ks[i]? with
    | none => ret .nx
    | some k => fun s => match tg (kD k) s with
      | none => .stuck
      | some s' => (calmE (body s')).bind (aft (keysF ks tg body n (i + 1)))
def sForK (i : Nat) (tg : TgF) (body : M Fl) : M Fl := fun s => match s.e[i]? with
  | some (.val (.dic kvs)) => keysF (kvs.map (·.1)) tg body lim 0 s
  | _ => .stuck
section
variable {nf i : Nat} {G : Gc} {X : Cx} {ca : Nat → Addr} {W : WX} {tg : Expr} {body : List Stmt} {g : TG} {a : TgF} {tb : TS} {mb : M Fl} {pos p : Pos} {x : Str}
theorem upd_back {H : Hp} {d : Addr} {u w : HO} (h : H d = some w) : upd (upd H d u) d w = H := by
  funext b
  by_cases c : b = d
  · subst c; rw [upd_same, h]
  · rw [upd_ne c, upd_ne c]
theorem keys_core {S0 : Addr → Prop} {d : Addr} {od : Obj} {vs : List (Key × V)} {L : Hp → Hp} {E D : Ends} (hg : JG X ca nf tg g a) (hb : JB X ca W nf body tb mb)
    (p1 : ∀ {ρ s σ H}, H d = some (.frz od (.dK vs)) → ¬ Wa S0 ρ s.e σ d → Sat ⟨X.K, ca⟩ S0 ρ s σ H → Sat ⟨X.K, ca⟩ S0 ρ s σ (L H))
    (p2 : ∀ {ρ e σ H ρ' e' σ' H'}, H d = some (.frz od (.dK vs)) → ¬ Wa S0 ρ e σ d → Nx S0 ρ e σ H ρ' e' σ' H' → Nx S0 ρ e σ (L H) ρ' e' σ' (L H'))
    (p3 : ∀ {Wr ρ H v dd}, H d = some (.frz od (.dK vs)) → Rep ⟨X.K, ca⟩ Wr ρ H v dd → Rep ⟨X.K, ca⟩ Wr ρ (L H) v dd)
    (hnx : ∀ σ' H', H' d = some (.frz od (.dK vs)) → E.nx σ' (L H') → D.nx σ' H') (hrt : ∀ v H', H' d = some (.frz od (.dK vs)) → E.rt v (L H') → D.rt v H')
    {ρ : List Addr} {s : S} {σ : L2.St} {H : Hp} (t : Sat ⟨X.K, ca⟩ S0 ρ s σ H) (hd : H d = some (.frz od (.dK vs))) (nw : ¬ Wa S0 ρ s.e σ d) (hp : PostS ⟨X.K, ca⟩ W nf S0 ρ s σ (L H) (keysF (vs.map (·.1)) a mb lim 0 s) E) :
    ∃ Wm : Nat → Nat → L2.St → Hp → Prop, (∃ m, Wm 0 m σ H) ∧ ∀ i m σ H, Wm i m σ H → ((Itk d od vs).stop i H ∧ D.nx σ H) ∨ ((Itk d od vs).go i H ∧ ∃ N : L2.St → Hp → Prop, (∀ σ' H', N σ' H' → ∃ m', m' < m ∧ Wm (i + 1) m' σ' H') ∧ ∀ x H', (Itk d od vs).yld i H x H' → g x σ H' fun σ2 H2 => tb { D with nx := N, ct := N, bk := D.nx } σ2 H2) := by
  refine ⟨fun j m σ' H' => ∃ ρ' s', Sat ⟨X.K, ca⟩ S0 ρ' s' σ' H' ∧ H' d = some (.frz od (.dK vs)) ∧ ¬ Wa S0 ρ' s'.e σ' d ∧ PostS ⟨X.K, ca⟩ W nf S0 ρ' s' σ' (L H') (keysF (vs.map (·.1)) a mb m j s') E, ⟨lim, ρ, s, t, hd, nw, hp⟩, ?_⟩
  rintro j m σ2 H2 ⟨ρ2, s2, t2, hd2, nw2, hp2⟩
  cases m with
  | zero => exact hp2.elim
  | succ m =>
    unfold keysF at hp2
    rw [List.getElem?_map] at hp2
    cases e : vs[j]? with
    | none =>
      rw [e] at hp2
      refine .inl ⟨⟨hd2, List.getElem?_eq_none_iff.mp e⟩, hnx _ _ hd2 ?_⟩
      exact PostS.nx (X := W) (G := ⟨X.K, ca⟩) (nf := nf) hp2 (p1 hd2 nw2 t2)
    | some kv =>
      rw [e] at hp2
      obtain ⟨k, w⟩ := kv
      refine .inr ⟨⟨hd2, (List.getElem?_eq_some_iff.mp e).1⟩, fun σ' H' => ∃ ρ' s', Sat ⟨X.K, ca⟩ S0 ρ' s' σ' H' ∧ H' d = some (.frz od (.dK vs)) ∧ ¬ Wa S0 ρ' s'.e σ' d ∧ PostS ⟨X.K, ca⟩ W nf S0 ρ' s' σ' (L H') (keysF (vs.map (·.1)) a mb m (j + 1) s') E, fun σ' H' n => ⟨m, Nat.lt_succ_self _, n⟩, fun x H' hy => ?_⟩
      obtain ⟨rfl, k', v', e', rfl⟩ := hy
      rw [e] at e'
      cases e'
      have hp2 : PostS ⟨X.K, ca⟩ W nf S0 ρ2 s2 σ2 (L H') (match a (kD k) s2 with
        | none => .stuck
        | some s' => (calmE (mb s')).bind (aft (keysF (vs.map (·.1)) a mb m (j + 1)))) E := hp2
      cases ea : a (kD k) s2 with
      | none => rw [ea] at hp2; exact hp2.elim
      | some s3 =>
        rw [ea] at hp2
        refine hg.ev _ _ _ _ _ _ _ _ _ t2 (rep_kD k) ea fun σ3 t3 n3 f3 => ?_
        refine hb.ev _ _ _ _ _ _ t3 ?_
        have n3' := p2 hd2 nw2 n3
        have hp2 : PostS ⟨X.K, ca⟩ W nf S0 ρ2 s3 σ3 (L H') ((calmE (mb s3)).bind (aft (keysF (vs.map (·.1)) a mb m (j + 1)))) E := PostS.fromS hp2 n3' f3
        have hd3 := hd2
        have nw3 : ¬ Wa S0 ρ2 s3.e σ3 d := n3.k.wn d _ nw2 hd2
        cases em : mb s3 with
        | stuck => rw [em] at hp2; exact hp2
        | exc xn s4 => rw [em] at hp2; exact hp2.elim
        | ok f s4 =>
          rw [em] at hp2
          cases f with
          | nx =>
            intro σ' H4 ρ4 t4 n4 f4
            have hd4 := n4.k.keep d _ nw3 hd3
            have nw4 := n4.k.wn d _ nw3 hd3
            exact ⟨ρ4, s4, t4, hd4, nw4, PostS.fromS (r := keysF (vs.map (·.1)) a mb m (j + 1) s4) hp2 (p2 hd3 nw3 n4) f4⟩
          | ct =>
            intro σ' H4 ρ4 t4 n4 f4
            have hd4 := n4.k.keep d _ nw3 hd3
            have nw4 := n4.k.wn d _ nw3 hd3
            exact ⟨ρ4, s4, t4, hd4, nw4, PostS.fromS (r := keysF (vs.map (·.1)) a mb m (j + 1) s4) hp2 (p2 hd3 nw3 n4) f4⟩
          | bk =>
            intro σ' H4 ρ4 t4 n4 f4
            have hd4 := n4.k.keep d _ nw3 hd3
            have nw4 := n4.k.wn d _ nw3 hd3
            exact hnx _ _ hd4 (hp2 σ' (L H4) ρ4 (p1 hd4 nw4 t4) (p2 hd3 nw3 n4) f4)
          | rt dd =>
            intro v σ' H4 ρ4 t4 n4 f4 r4
            have hd4 := n4.k.keep d _ nw3 hd3
            have nw4 := n4.k.wn d _ nw3 hd3
            exact hrt _ _ hd4 (hp2 v σ' (L H4) ρ4 (p1 hd4 nw4 t4) (p2 hd3 nw3 n4) f4 (p3 hd4 r4))
theorem js_forK (hpo : PassesOwn (model X.prog X.w) X.A X.env X.xe) (hc : X.calm = true) (hx : X.N[i]? = some x) (hv : Vis X.env.scope x) (hg : JG X ca nf tg g a) (hb : JB X ca W nf body tb mb) (hs : ∀ u, foldedSetIterable (.Name x p) X.env u = pure u := by intro _; rfl)
    (hdb : (x == ("__debug__" : Str)) = false := by decide) (hcd : (x == ("__classdict__" : Str)) = false := by decide) :
    JS X ca W nf (.For tg (.Name x p) body [] pos) (fun D σ H => tLock (tFor (iKeys (tVar i)) g tb) D σ H ∨ tFor (iKeys (tVar i)) g tb D σ H) (sForK i a mb) := by
  have ps := ps_for hpo hc (pi_keys (pe_var (pos := p) hx hv hdb hcd)) hg.pg hb.pss hs (pos := pos)
  refine ⟨⟨fun pins s σ H D I h => h.elim (fun h => (ps_lock ps).run pins s σ H D I h) (fun h => ps.run pins s σ H D I h)⟩, fun S0 ρ s σ H E t hp => ?_⟩
  unfold sForK at hp
  cases e0 : s.e[i]? with
  | none => simp only [e0] at hp; exact hp.elim
  | some sl =>
    cases sl with
    | val dd =>
      cases dd with
      | dic kvs =>
        simp only [e0] at hp
        obtain ⟨v, ev, rv⟩ := t.val i _ e0
        cases rv with
        | @dic d vs _ h n e r =>
          rw [← e] at hp
          rcases h with h | ⟨od, h⟩
          · refine .inl ⟨d, .dK vs, h, trivial, fun od => ?_⟩
            have t1 := t.sw (sw_lock (od := od) h) n
            have hb1 : upd (upd H d (.frz od (.dK vs))) d (.dK vs) = H := upd_back h
            refine ⟨_, ev, d, od, rfl, .inl ⟨vs, upd_same, ?_⟩⟩
            refine keys_core (L := fun H' => upd H' d (.dK vs)) (E := E) (D := ⟨fun σ' H' => H' d = some (.frz od (.dK vs)) ∧ E.nx σ' (upd H' d (.dK vs)), fun v H' => H' d = some (.frz od (.dK vs)) ∧ E.rt v (upd H' d (.dK vs)), fun σ' H' => H' d = some (.frz od (.dK vs)) ∧ E.bk σ' (upd H' d (.dK vs)), fun σ' H' => H' d = some (.frz od (.dK vs)) ∧ E.ct σ' (upd H' d (.dK vs))⟩) hg hb (fun h1 w1 t1 => t1.sw (sw_loose h1) w1) (fun h1 w1 x1 => ?_) (fun h1 r1 => r1.sw (sw_loose h1)) (fun σ' H' h1 q => ⟨h1, q⟩) (fun v' H' h1 q => ⟨h1, q⟩) t1 upd_same n (by
              show PostS ⟨X.K, ca⟩ W nf S0 ρ s σ (upd (upd H d (.frz od (.dK vs))) d (.dK vs)) _ E
              rw [hb1]; exact hp)
            rename_i ρa ea σa Ha ρb eb σb Hb
            have hq : upd (upd Ha d (.dK vs)) d (.frz od (.dK vs)) = Ha := upd_back h1
            exact (nx_loose (od := od) (H := upd Ha d (.dK vs)) upd_same w1 (by rw [hq]; exact x1)).2.2
          · refine .inr ⟨_, ev, d, od, rfl, .inl ⟨vs, h, ?_⟩⟩
            exact keys_core (L := fun H' => H') (E := E) hg hb (fun _ _ t1 => t1) (fun _ _ x1 => x1) (fun _ r1 => r1) (fun _ _ _ q => q) (fun _ _ _ q => q) t h n hp
      | _ => simp only [e0] at hp; exact hp.elim
    | own dd => simp only [e0] at hp; exact hp.elim
    | no => simp only [e0] at hp; exact hp.elim
end
end Mi

namespace PySem.W
open PySem PyProof.Rows
section
variable {prog : Program} {w : World} {A : Around} {E : Value → Shared → Prop} {s : Shared} {K : Frag} {x C f : Addr} {ox : Obj} {od : Option Obj} {b : Value}
/-- a special method that a built-in type gives -/
theorem ifBound_B {M : Model} {name : Str} {id T : String} {args : List Value} {Q : Option Value → Shared → Prop} (X : K.In s.heap) (I : InstAt s.heap x ox C od) (hs : findIn K (.ref C) name = some (some (.builtin id))) (S : Slot T name id)
    (h : wpAny M A (call (.builtin id) (.ref x :: args)) (fun v => Q (some v)) E s) : wpAny M A (callSpecialIfBound? (.ref x) name args) Q E s := by
  simp only [callSpecialIfBound?, bindSpecialIfBound?]
  refine wpAny_holding (wpAny_bind (wpAny_bind (wpAny_bind (I.type.here ((looks_findIn X hs).here ?_)))))
  simp only [S.bind]
  refine wpAny_bind (wpAny_askSetting (wpAny_ite ?_))
  have fin : wpAny M A (call (.builtin id) ([.ref x] ++ args) >>= fun v => pure (some v)) Q E s := wpAny_bind (wpAny_mono h (fun v s' h' => wpAny_pure h') fun _ _ h' => h')
  split
  · exact wpAny_bind (wpAny_pure (wpAny_pure fin))
  · exact wpAny_tryCatch (wpAny_bind (wpAny_pure (wpAny_pure fin)))
theorem ne_body (X : K.In s.heap) (I : InstAt s.heap x ox C od) (he : findIn K (.ref C) "__eq__" = some (some (.ref f))) (hf : isFn K (.ref f) = true) (hu : A.units < cLine) {Q : Fin → Shared → Prop}
    (hcall : wpAny (model prog w) A (call (.ref f) [.ref x, b]) (fun v s' => ∃ k, v = .bool k ∧ Q (.done (.ret (.bool (!k)))) s') E s) : wpAny (model prog w) A (Builtin.«object.__ne__» ⟨[.ref x, b], []⟩) Q E s := by
  unfold Builtin.«object.__ne__»
  repeat (first
    | with_reducible refine wpAny_cRoomFor hu ?_
    | (refine wpAny_bind (m := callSpecialIfBound? (.ref x) (Str.ofString "__eq__") [b])
        (ifBound_K X I he hf (wpAny_mono hcall (fun r s' hr => by
          obtain ⟨k, rfl, hq⟩ := hr
          repeat (first | exact hq | exact wpAny_pure hq | exact wpAny_truthy_bool hq | (refine wpAny_bind (m := truthy (.bool _)) (wpAny_truthy_bool ?_)) | wp_step)) fun _ _ e => e)))
    | wp_step)
theorem ne_own {tb : Value} (X : K.In s.heap) (I : InstAt s.heap x ox C od) (hb : Looks (model prog w) s.heap (typeOf b) tb) (hn : notFirst K C tb = true) (hne : findIn K (.ref C) "__ne__" = some (some (.builtin "object.__ne__"))) (he : findIn K (.ref C) "__eq__" = some (some (.ref f))) (hf : isFn K (.ref f) = true)
    (hob : mroIn K C (.type "object") = some true) (hu : A.units + 1 < cLine) {Q : Value → Shared → Prop}
    (hcall : wpAny (model prog w) A.in1 (call (.ref f) [.ref x, b]) (fun v s' => ∃ k, v = .bool k ∧ Q (.bool (!k)) s') E s) : wpAny (model prog w) A (compareOp .NotEq (.ref x) b) Q E s := by
  have one : wpAny (model prog w) A (tryCompare (.ref x) "__ne__" b) (fun r s' => ∃ v, r = some v ∧ Q v s') E s := by
    unfold tryCompare
    refine wpAny_bind (ifBound_B X I hne PySem.F.cmp_object.ne ?_)
    have sub : Looks (model prog w) s.heap (isInstance (.ref x) (.type "object")) true := I.type.andThen (looks_mroIn X hob)
    refine wpAny_call (codeAny_call_builtin PySem.F.cmp_object.ne.plain PySem.F.cmpEntry_ne (check_slot PySem.F.cmpKind_ne PySem.F.cmpSplit_ne sub (PySem.F.cmpArgs_ne _ _) ?_))
    refine ne_body (A := A.in1) X I he hf hu (wpAny_mono hcall (fun v s' hv => ?_) fun _ _ e => e)
    obtain ⟨k, rfl, hq⟩ := hv
    exact ⟨k, rfl, wpAny_pure ⟨_, rfl, hq⟩⟩
  unfold compareOp
  show wpAny _ _ (richCompare .NotEq (.ref x) b) _ _ _
  unfold richCompare
  simp only [oneThing_ref]
  refine wpAny_holding (wpAny_bind (wpAny_cRoomFor (Nat.lt_of_succ_lt hu) ?_))
  rw [cmpInfo_NotEq]
  dsimp only
  refine wpAny_bind (I.type.here (wpAny_bind (hb.here ?_)))
  split
  · rename_i q
    have e : subIn K tb (.ref C) = some false := by
      rcases Bool.or_eq_true_iff.mp hn with e | e
      · rw [beq_iff_eq.mp e] at q; simp at q
      · exact beq_iff_eq.mp e
    refine wpAny_bind ((looks_subIn X e).here ?_)
    simp only [Bool.false_eq_true, if_false]
    refine wpAny_bind (wpAny_mono one (fun r s' z => ?_) fun _ _ e => e)
    obtain ⟨v, rfl, hq⟩ := z
    exact wpAny_pure hq
  · refine wpAny_bind (wpAny_pure ?_)
    simp only [Bool.false_eq_true, if_false]
    refine wpAny_bind (wpAny_mono one (fun r s' z => ?_) fun _ _ e => e)
    obtain ⟨v, rfl, hq⟩ := z
    exact wpAny_pure hq
end
end PySem.W

namespace Mi
open PySem PySem.Spec PyProof.Rows L2
/-! ### a != b, both of an own class with __eq__ -/
structure EqOwn (K : PySem.W.Frag) (C f : Addr) : Prop where
  ne : PySem.W.findIn K (.ref C) "__ne__" = some (some (.builtin "object.__ne__"))
  eq : PySem.W.findIn K (.ref C) "__eq__" = some (some (.ref f))
  fn : PySem.W.isFn K (.ref f) = true
  ob : PySem.W.mroIn K C (.type "object") = some true
def rNeO (C : Addr) (sp : Sp) : R2 := fun x y H2 Q => ∃ a b dx fs dy gs, x = .ref a ∧ y = .ref b ∧ H2 a = some (.ins C dx fs) ∧ H2 b = some (.ins C dy gs) ∧
  sp [.ref a, .ref b] H2 (fun v H3 => ∃ k, v = .bl k ∧ Q (.bl !k) H3) (fun _ _ _ => False)
section
variable {X : Cx} {ca : Nat → Addr} {W : WX} {e o a b : Expr} {ta tb te to : TE} {m mo ma mb : M Loc} {pos p apos cpos : Pos} {c k : Nat} {f : Addr} {fd : FuncData} {ps : List Str} {g : List D → M D} {sp : Sp}
theorem op_neO {C : Addr} (q : EqOwn X.K C f) (F : FnOk X.prog X.w X.K X.mg X.base (L2.CX X.prog X.w) k f fd ps sp) (hr : Room (k + 1) X.A) (hbn : Binds X.K fd ps []) : OpR X (compareOp .NotEq) (rNeO C sp) := by
  intro pins s2 σ H2 x y v u Q I2 r1 r2 ⟨a, b, dx, fs, dy, gs, ex, ey, ea, eb, q2⟩
  subst ex; subst ey
  obtain rfl : v = Value.ref a := r1
  obtain rfl : u = Value.ref b := r2
  obtain ⟨mA, J, _⟩ := ins_get I2.hok ea
  obtain ⟨mB, J', _⟩ := ins_get I2.hok eb
  obtain ⟨od, J, _⟩ := J.look
  obtain ⟨od', J', _⟩ := J'.look
  refine PySem.W.ne_own (tb := .ref C) I2.kIn J J'.type (by simp [PySem.W.notFirst]) q.ne q.eq q.fn q.ob (hu_of hr) ?_
  have e0 : Env0 X.prog X.w X.K X.mg X.base X.A.in1 X.stack s2 H2 := by
    have e := I2.env0
    exact ⟨e.frames, e.mod, e.bs, e.bsz, e.funs, e.frf, e.hok, e.bare⟩
  have hl := F.len _ _ _ _ q2
  have r2 : Vals [V.ref a, V.ref b] [Value.ref a, Value.ref b] := .cons rfl (.cons rfl .nil)
  refine wpAny_call (codeAny_mono (F.run X.A.in1 X.stack s2 H2 ⟨[.ref a, .ref b], []⟩ [.ref a, .ref b] [.ref a, .ref b] _ (fun _ _ _ => False) hr.in1 e0 (by
    have := hbn s2 [.ref a, .ref b] I2.kIn (by simpa using hl)
    simpa using this) r2 q2) fun r s' hq => ?_)
  cases r with
  | error e =>
    obtain ⟨_, _, _, _, _, _, _, _, _, _, _, _, z⟩ := hq
    exact z.elim
  | ok fl =>
    cases fl with
    | ret w =>
      obtain ⟨z, H', I', rz, k, ez, qq⟩ := I2.after hq
      subst ez
      cases rz
      exact ⟨k, rfl, .bl (!k), H', I', rfl, qq⟩
    | next => exact False.elim hq
    | brk => exact False.elim hq
    | cont => exact False.elim hq
def notL (l : Loc) : M Loc := fun s => match l with | .val (.bl k) => .ok (.val (.bl !k)) s | _ => .stuck
def eNeO (c : Nat) (g : List D → M D) (ma mb : M Loc) : M Loc := bnd ma fun x => bnd mb fun y => bnd (toVal x) fun dx => bnd (toVal y) fun dy => fun s => if (isCls c dx s && isCls c dy s) = true then (callP g [dx, dy] s).bind notL else .stuck
theorem ev_neO (ha : Ev ⟨X.K, ca⟩ W (LRep ⟨X.K, ca⟩) ta ma) (hb : Ev ⟨X.K, ca⟩ W (LRep ⟨X.K, ca⟩) tb mb) : Ev ⟨X.K, ca⟩ W (LRep ⟨X.K, ca⟩) (tOp (rNeO (ca c) (spM ⟨X.K, ca⟩ 2 g)) ta tb) (eNeO c g ma mb) := by
  intro S0 ρ s σ H Q t hp
  refine ha _ _ _ _ _ _ t (post_bind hp fun l s1 _ v H1 ρ1 t1 n1 r1 hp1 => ?_)
  refine hb _ _ _ _ _ _ t1 (post_bind hp1 fun l2 s2 _ u H2 ρ2 t2 n2 r2 hp2 => ?_)
  have r1 := stab_L r1 n2.k n2.p
  refine post_toVal t2 r1 hp2 fun dx s3 t3 n3 r3 hp3 => ?_
  have r2' : LRep ⟨X.K, ca⟩ (Wa S0 ρ2 s3.e σ) ρ2 H2 σ u l2 := stab_L r2 n3.k n3.p
  refine post_toVal t3 r2' hp3 fun dy s4 t4 n4 r4 hp4 => ?_
  have r3 := r3.mono n4.k n4.p
  have hp4 : Post ⟨X.K, ca⟩ W (LRep ⟨X.K, ca⟩) S0 ρ2 s4 σ H2 (if (isCls c dx s4 && isCls c dy s4) = true then (callP g [dx, dy] s4).bind notL else .stuck) Q := hp4
  by_cases hc : (isCls c dx s4 && isCls c dy s4) = true
  · rw [if_pos hc] at hp4
    rw [Bool.and_eq_true] at hc
    obtain ⟨a, dx', fs, rfl, h⟩ := isCls_at t4 r3 hc.1
    obtain ⟨b, dy', gs, rfl, h'⟩ := isCls_at t4 r4 hc.2
    refine ⟨a, b, dx', fs, dy', gs, rfl, rfl, h, h', ?_⟩
    refine call_post (X := W0) (n := 2) rfl t4 (.cons r3 (.cons r4 .nil)) ?_
    show Post ⟨X.K, ca⟩ W0 (LRep ⟨X.K, ca⟩) S0 ρ2 s4 σ H2 (callF g [dx, dy] s4) _
    unfold callF
    unfold callP at hp4
    cases e : g [dx, dy] ⟨[], s4.t⟩ with
    | ok d' s' =>
      simp only [e] at hp4 ⊢
      intro v H' ρ' t' n' r'
      have hp5 := hp4
      have hp5 : Post ⟨X.K, ca⟩ W (LRep ⟨X.K, ca⟩) S0 ρ2 s4 σ H2 (notL (.val d') ⟨s4.e, s'.t⟩) Q := hp5
      cases d' with
      | bl k =>
        obtain rfl := br_bl (.inl (show Rep ⟨X.K, ca⟩ _ _ _ v (.bl k) from r'))
        exact ⟨k, rfl, hp5 _ H' ρ' t' n' .bl⟩
      | _ => exact hp5.elim
    | exc x s' => simp only [e] at hp4; exact hp4.elim
    | stuck => simp only [e] at hp4; exact hp4.elim
  · rw [if_neg hc] at hp4; exact hp4.elim
theorem je_neO (q : EqOwn X.K (ca c) f) (F : FnOk X.prog X.w X.K X.mg X.base (L2.CX X.prog X.w) k f fd ps (spM ⟨X.K, ca⟩ 2 g)) (hr : Room (k + 1) X.A) (hbn : Binds X.K fd ps []) (ha : JE X ca W a ta ma) (hb : JE X ca W b tb mb) (hm : behindInMarks .NotEq b = false) :
    JE X ca W (.Compare a [.NotEq] [b] pos) (tOp (rNeO (ca c) (spM ⟨X.K, ca⟩ 2 g)) ta tb) (eNeO c g ma mb) := ⟨pe_cmpR (op_neO q F hr hbn) ha.pe hb.pe hm, ev_neO ha.ev hb.ev⟩
theorem jt_neO (q : EqOwn X.K (ca c) f) (F : FnOk X.prog X.w X.K X.mg X.base (L2.CX X.prog X.w) k f fd ps (spM ⟨X.K, ca⟩ 2 g)) (hr : Room (k + 1) X.A) (hbn : Binds X.K fd ps []) (ha : JE X ca W a ta ma) (hb : JE X ca W b tb mb) (hm : behindInMarks .NotEq b = false) :
    JT X ca W (.Compare a [.NotEq] [b] pos) (tTest (tOp (rNeO (ca c) (spM ⟨X.K, ca⟩ 2 g)) ta tb)) (tstB (eNeO c g ma mb)) := ⟨pt_cmpR (op_neO q F hr hbn) ha.pe hb.pe hm, ev_tstB (ev_neO ha.ev hb.ev)⟩
end
/-! ### d == e, d != e: dicts that are equal -/
def rEqDD (K : PySem.W.Frag) (neg : Bool) : R2 := fun x y H Q => ∃ a b ks ls, x = .ref a ∧ y = .ref b ∧ Rd H a (.dK ks) ∧ Rd H b (.dK ls) ∧ ks.length = ls.length ∧
  (∀ p ∈ ks, ∃ u d e, valV ls p.1 = some u ∧ Dp K H p.2 d ∧ Dp K H u e ∧ SeqAt.shaped d = true ∧ SeqAt.shaped e = true ∧ PyData.eqv d e = true) ∧ Q (.bl neg) H
section
variable {X : Cx} {pins : List (Addr × Obj)} {σ : L2.St} {H : Hp} {s : Shared}
theorem hits_dp (hu : X.A.in1.units + 64 < cLine) (I : Inv X pins σ H s) {ls : List (Key × V)} {vb : List (Key × Value)} (rb : KV ls vb) {ks : List (Key × V)} {va : List (Key × Value)} (ra : KV ks va) :
    (∀ p ∈ ks, ∃ u d e, valV ls p.1 = some u ∧ Dp X.K H p.2 d ∧ Dp X.K H u e ∧ SeqAt.shaped d = true ∧ SeqAt.shaped e = true ∧ PyData.eqv d e = true) → PySem.W.KeqHits X.A.in1 s vb va true := by
  unfold KV at ra
  induction ra with
  | nil => intro _; exact .nil
  | @cons p q ps qs h t ih =>
    intro hp
    obtain ⟨h1, h2⟩ := h
    obtain ⟨u, d, e, e1, dd, de, sd, se, ee⟩ := hp p List.mem_cons_self
    have rr : RelO (some u) (valueAt vb p.1) := by rw [← e1]; exact rb.val p.1
    obtain ⟨y, hy, ry⟩ := rr.some_of
    obtain ⟨k, v⟩ := q
    have h1' : p.1 = k := h1
    rw [h1'] at hy
    show PySem.W.KeqHits X.A.in1 s vb ((k, v) :: qs) (true && true)
    obtain ⟨as, q1⟩ := Dp.reads I d _ v dd h2
    obtain ⟨bs, q2⟩ := Dp.reads I e _ y de ry
    have ka := PySem.W.keq_at (A := X.A) q1 q2 sd se hu
    rw [ee] at ka
    exact .hit hy ka (ih fun p' hm => hp p' (List.mem_cons_of_mem _ hm))
theorem op_neDD (hu : X.A.units + 64 + 1 < cLine) : OpR X (compareOp .NotEq) (rEqDD X.K false) := by
  intro pins s σ H x y v u Q I rx ry h
  obtain ⟨a, b, ks, ls, rfl, rfl, ea, eb, hlen, hp, q⟩ := h
  obtain rfl : v = Value.ref a := rx
  obtain rfl : u = Value.ref b := ry
  obtain ⟨_, ya, va, ra, da⟩ := dk_rd I.hok ea
  obtain ⟨_, yb, vb, rb, db⟩ := dk_rd I.hok eb
  have hl : va.length = vb.length := by rw [← ra.length, ← rb.length]; exact hlen
  exact PySem.W.keq_ne (knd := mixKind X.prog X.w) (r := true) ya yb da db (by omega) (fun _ => hits_dp (show X.A.units + 1 + 64 < cLine by omega) I rb ra hp) (fin_bl I q (by simp [hl]))
theorem op_eqDD (hu : X.A.units + 64 + 1 < cLine) : OpR X (compareOp .Eq) (rEqDD X.K true) := by
  intro pins s σ H x y v u Q I rx ry h
  obtain ⟨a, b, ks, ls, rfl, rfl, ea, eb, hlen, hp, q⟩ := h
  obtain rfl : v = Value.ref a := rx
  obtain rfl : u = Value.ref b := ry
  obtain ⟨_, ya, va, ra, da⟩ := dk_rd I.hok ea
  obtain ⟨_, yb, vb, rb, db⟩ := dk_rd I.hok eb
  have hl : va.length = vb.length := by rw [← ra.length, ← rb.length]; exact hlen
  exact PySem.W.keq_eq (knd := mixKind X.prog X.w) (r := true) ya yb da db (by omega) (fun _ => hits_dp (show X.A.units + 1 + 64 < cLine by omega) I rb ra hp) (fin_bl I q (by simp [hl]))
end
def allHit : List (Key × D) → List (Key × D) → Bool
  | [], _ => true
  | (k, d) :: r, ls => (match lookK ls k with | some u => (match eqD false d u with | some (.bl true) => true | _ => false) | none => false) && allHit r ls
def eqDD (neg : Bool) : D → D → Option D
  | .dic ks, .dic ls => if (decide (ks.length = ls.length) && allHit ks ls) = true then some (.bl neg) else none
  | _, _ => none
section
variable {G : Gc} {W : Addr → Prop} {ρ : List Addr} {H : Hp}
theorem allHit_dp {ls : List (Key × D)} {us : List (Key × V)} (k2 : us.map (·.1) = ls.map (·.1)) (r2 : Reps G W ρ H (us.map (·.2)) (ls.map (·.2))) : ∀ {ks : List (Key × D)} {vs : List (Key × V)}, vs.map (·.1) = ks.map (·.1) → Reps G W ρ H (vs.map (·.2)) (ks.map (·.2)) → allHit ks ls = true →
    ∀ p ∈ vs, ∃ u d e, valV us p.1 = some u ∧ Dp G.K H p.2 d ∧ Dp G.K H u e ∧ SeqAt.shaped d = true ∧ SeqAt.shaped e = true ∧ PyData.eqv d e = true
  | [], [], _, _, _ => fun p hp => by cases hp
  | [], _ :: _, e, _, _ => by cases e
  | _ :: _, [], e, _, _ => by cases e
  | (k, d) :: ks, (k', v) :: vs, e, .cons r t, h => by
    intro p hp
    rw [List.map_cons, List.map_cons] at e
    injection e with e1 e2
    have e1 : k' = k := e1
    subst e1
    unfold allHit at h
    rw [Bool.and_eq_true] at h
    rcases List.mem_cons.mp hp with rfl | hp
    · have h1 := h.1
      rcases look_reps (k := k') k2 r2 with ⟨_, z⟩ | ⟨u, d2, z1, z2, z3⟩
      · rw [z] at h1; cases h1
      · rw [z2] at h1
        have h1 : (match eqD false d d2 with | some (.bl true) => true | _ => false) = true := h1
        unfold eqD at h1
        cases y1 : toPy d with
        | none => rw [y1] at h1; cases h1
        | some p1 =>
          cases y2 : toPy d2 with
          | none => rw [y1, y2] at h1; cases h1
          | some p2 =>
            rw [y1, y2] at h1
            by_cases hs : (SeqAt.shaped p1 && SeqAt.shaped p2) = true
            · have h1 : (match (if (SeqAt.shaped p1 && SeqAt.shaped p2) = true then some (D.bl (false ^^ PyData.eqv p1 p2)) else none) with | some (.bl true) => true | _ => false) = true := h1
              rw [if_pos hs] at h1
              rw [Bool.and_eq_true] at hs
              refine ⟨u, p1, p2, z1, dp_of r y1, dp_of z3 y2, hs.1, hs.2, ?_⟩
              cases q : PyData.eqv p1 p2 with
              | true => rfl
              | false => rw [q] at h1; cases h1
            · have h1 : (match (if (SeqAt.shaped p1 && SeqAt.shaped p2) = true then some (D.bl (false ^^ PyData.eqv p1 p2)) else none) with | some (.bl true) => true | _ => false) = true := h1
              rw [if_neg hs] at h1; cases h1
    · exact allHit_dp k2 r2 e2 t h.2 p hp
theorem sp_eqDD {neg : Bool} : Sp2 G (rEqDD G.K neg) (eqDD neg) := by
  intro W ρ H x y dx dy d Q tk bx bby e q
  cases dx with
  | dic ks =>
    cases dy with
    | dic ls =>
      have e : (if (decide (ks.length = ls.length) && allHit ks ls) = true then some (D.bl neg) else none) = some d := e
      by_cases h : (decide (ks.length = ls.length) && allHit ks ls) = true
      · rw [if_pos h] at e
        cases e
        rw [Bool.and_eq_true] at h
        obtain ⟨a, vs, rfl, ha, k1, r1⟩ := br_dic bx
        obtain ⟨b, us, rfl, hb, k2, r2⟩ := br_dic bby
        have l1 : vs.length = ks.length := by have := congrArg List.length k1; simpa using this
        have l2 : us.length = ls.length := by have := congrArg List.length k2; simpa using this
        exact ⟨a, b, vs, us, rfl, rfl, ha, hb, by rw [l1, l2]; exact of_decide_eq_true h.1, allHit_dp k2 r2 k1 r1 h.2, q _ _ .refl .bl⟩
      · rw [if_neg h] at e; cases e
    | _ => cases e
  | _ => cases e
end
/-! ### d.copy() -/
def tCopy (to : TE) : TE := fun σ H Q => to σ H fun x H1 => ∃ a kvs, x = .ref a ∧ Rd H1 a (.dK kvs) ∧ ∀ p, H1 p = none → Q (.ref p) (upd H1 p (.dK kvs))
section
variable {X : Cx} {ca : Nat → Addr} {W : WX} {o : Expr} {to : TE} {mo : M Loc} {apos cpos : Pos}
theorem pe_copy (ho : PE X o to) (hbase : attributeBase o "copy" X.env (eval o X.env) = eval o X.env := by rfl) (hline : (apos.endLine == cpos.line) = true := by rfl) : PE X (.Call (.Attribute o "copy" apos) [] [] cpos) (tCopy to) := by
  refine ⟨fun pins s σ H Q I h => ?_⟩
  refine wpAny_Call_method0_late hbase hline (thn (ho.run pins s σ H _ I h) fun v s1 ⟨x, H1, I1, r1, a, kvs, ex, ea, q1⟩ => ?_)
  subst ex
  obtain rfl : v = Value.ref a := r1
  obtain ⟨z, hd, vs, rel, dd⟩ := dk_rd I1.hok ea
  have dd' := dd
  obtain ⟨ob, es, ep, e, ex, _⟩ := dd'
  refine ⟨"dict", "dict.copy", PySem.F.plainAttrs_dict, PySem.F.slot_dict_copy, PySem.F.type_dict_copy, ⟨ob, e, ex.1⟩, fun a e2 => ?_, Calls.callWith_builtin rfl (PySem.evalArgs_none ?_)⟩
  · cases e2; exact ⟨ob, e, ex.2.1⟩
  · refine call_meetsIn PySem.F.slot_dict_copy dd.typeIs PySem.F.entry_dict_copy (PySem.F.args_dict_copy_1 _) (meets_dict_copy (mixKind X.prog X.w) a hd) ⟨vs, dd, by rw [← rel.length]; exact z, fun h' d1 d2 hk => ?_⟩
    exact ⟨.ref s1.heap.objs.size, _, I1.laid (a := s1.heap.objs.size) (o := .dK kvs) (t' := s1.toks) hk (Nat.le_refl _) (dk_new z (beq_eq_false_iff_ne.mpr (Ne.symm (Nat.ne_of_lt I1.big))) rel d1), rfl, q1 _ (I1.hok.fresh (Nat.le_refl _))⟩
def nCopy (mo : M Loc) : M D := bnd mo fun l => bnd (cont l) fun c => fun s => match c with | .dic kvs => .ok (.dic kvs) s | _ => .stuck
theorem jn_copy (ho : JE X ca W o to mo) (hbase : attributeBase o "copy" X.env (eval o X.env) = eval o X.env := by rfl) (hline : (apos.endLine == cpos.line) = true := by rfl) : JN X ca W (.Call (.Attribute o "copy" apos) [] [] cpos) (tCopy to) (nCopy mo) := by
  refine ⟨pe_copy ho.pe hbase hline, fun S0 ρ s σ H Q t hp => ?_⟩
  refine ho.ev _ _ _ _ _ _ t ((wN Q).bind hp fun l s1 _ v H1 ρ1 t1 n1 r1 hp1 => (wN Q).cont t1 r1 hp1 fun d bd _ hp2 => ?_)
  cases d with
  | dic kvs =>
    obtain ⟨a, vs, rfl, ha, k1, rr⟩ := br_dic bd
    refine ⟨a, vs, rfl, ha, fun p n => ?_⟩
    obtain ⟨t2, k2, nw⟩ := t1.laid (o := .dK vs) n
    exact hp2 p _ ρ1 t2 k2 (List.prefix_refl _) nw (.dic upd_same k1 (rr.mono k2 (List.prefix_refl _)))
  | _ => exact hp2.elim
end
end Mi

namespace Mi
open PySem PySem.Spec PyProof.Rows L2
/-! ### i in range(n), i not in range(n) -/
section
variable {X : Cx}
theorem cr_range1 : CallR X (.type "range") (fun vs H Q => ∃ n, vs = [V.int n] ∧ ∀ p, H p = none → Q (.ref p) (upd H p (.rng 0 n))) := by
  intro pins s σ H vs us Q I r h
  obtain ⟨n, rfl, q⟩ := h
  obtain ⟨u, rfl, ru⟩ := vals1 r
  obtain ⟨t, rfl⟩ := ru
  refine call_range_1 ⟨.ref s.heap.objs.size, upd H s.heap.objs.size (.rng 0 n), I.laid (t' := s.toks + 1 + 1) (fun b o e => Heap.get?_push_of_some _ e) (Nat.le_refl _) ?_, rfl, q _ (I.hok.fresh (Nat.le_refl _))⟩
  exact ⟨s.toks, t, s.toks + 1, Heap.get?_push_size _ rfl⟩
def rInRng (neg : Bool) : R2 := fun x y H Q => ∃ i a lo hi, x = V.int i ∧ y = V.ref a ∧ H a = some (.rng lo hi) ∧ Q (.bl (neg ^^ decide (lo ≤ i ∧ i < hi))) H
theorem op_inRng : OpR X (compareOp .In) (rInRng false) := fun pins s σ H x y v u Q I rx ry ⟨i, a, lo, hi, e1, e2, e3, q⟩ => op_in_rng pins s σ H x y v u Q I rx ry ⟨i, a, lo, hi, e1, e2, e3, by simpa using q⟩
theorem op_notInRng : OpR X (compareOp .NotIn) (rInRng true) := by
  intro pins s σ H x y v u Q I rx ry h
  obtain ⟨i, a, lo, hi, rfl, rfl, ha, q⟩ := h
  obtain ⟨k, rfl⟩ := rx
  obtain rfl : u = Value.ref a := ry
  obtain ⟨t1, t2, t3, ho⟩ := I.hok a _ ha
  show wpAny _ _ (do return Value.bool (!(← contains (Value.ref a) (Value.int i k)))) _ _ s
  refine wpAny_bind (wpAny_contains_slot (T := "range") ⟨_, ho, rfl⟩ F.slot_range_contains (call_meets F.slot_range_contains ⟨_, ho, rfl⟩ F.entry_range_contains (F.args_range_contains_2 _ _) (q_contains a lo hi i t1 t2 t3 k)
    ⟨ho, wpAny_truthy_bool (wpAny_pure ⟨.bl _, H, I, rfl, ?_⟩)⟩))
  rw [place1]
  simpa using q
end
def rRng1 : List V → Hp → VK → Prop := fun vs H Q => ∃ n, vs = [V.int n] ∧ ∀ p, H p = none → Q (.ref p) (upd H p (.rng 0 n))
def eInRng (neg : Bool) (mx : M Loc) (mA : M (List Loc)) : M Loc := bnd mx fun x => bnd mA fun ls => fun s => match x, ls with
  | .val (.int i), [.val (.int j)] => .ok (.val (.bl (neg ^^ decide (0 ≤ i ∧ i < j)))) s
  | _, _ => .stuck
section
variable {X : Cx} {ca : Nat → Addr} {W : WX} {e a b : Expr} {ta tb te : TE} {tA : TA} {m ma : M Loc} {mA : M (List Loc)} {pos p pc : Pos} {neg : Bool}
theorem ev_inRng (ha : Ev ⟨X.K, ca⟩ W (LRep ⟨X.K, ca⟩) ta ma) (hA : Ev ⟨X.K, ca⟩ W (LReps ⟨X.K, ca⟩) tA mA) : Ev ⟨X.K, ca⟩ W (LRep ⟨X.K, ca⟩) (tOp (rInRng neg) ta (tCB rRng1 tA)) (eInRng neg ma mA) := by
  intro S0 ρ s σ H Q t hp
  refine ha _ _ _ _ _ _ t (post_bind hp fun l s1 _ v H1 ρ1 t1 n1 r1 hp1 => ?_)
  refine hA _ _ _ _ _ _ t1 (post_bind hp1 fun ls s2 _ vs H2 ρ2 t2 n2 r2 hp2 => ?_)
  have r1 := stab_L r1 n2.k n2.p
  match l, ls, hp2 with
  | .val (.int i), [.val (.int j)], hp2 =>
    cases r2 with
    | cons r rr =>
      cases rr
      obtain rfl := br_int (.inl (show Rep ⟨X.K, ca⟩ _ _ _ _ (.int j) from r))
      obtain rfl := br_int (.inl (show Rep ⟨X.K, ca⟩ _ _ _ _ (.int i) from r1))
      refine ⟨j, rfl, fun p n => ⟨i, p, 0, j, rfl, rfl, upd_same, ?_⟩⟩
      have hp2 : Post ⟨X.K, ca⟩ W (LRep ⟨X.K, ca⟩) S0 ρ2 s2 σ H2 (.ok (.val (.bl (neg ^^ decide (0 ≤ i ∧ i < j)))) s2) Q := hp2
      exact hp2 _ _ ρ2 (t2.grow (Ext.new n)).1 ⟨(t2.grow (Ext.new n)).2, List.prefix_refl _⟩ .bl
  | .own _, _, hp2 => exact hp2.elim
  | .val .non, _, hp2 => exact hp2.elim
  | .val (.bl _), _, hp2 => exact hp2.elim
  | .val (.str _), _, hp2 => exact hp2.elim
  | .val (.tup _), _, hp2 => exact hp2.elim
  | .val (.lst _), _, hp2 => exact hp2.elim
  | .val (.lck _), _, hp2 => exact hp2.elim
  | .val (.dic _), _, hp2 => exact hp2.elim
  | .val (.dit _), _, hp2 => exact hp2.elim
  | .val (.obj _ _), _, hp2 => exact hp2.elim
  | .val (.ptr _), _, hp2 => exact hp2.elim
  | .val (.int _), [], hp2 => exact hp2.elim
  | .val (.int _), .own _ :: _, hp2 => exact hp2.elim
  | .val (.int _), .val .non :: _, hp2 => exact hp2.elim
  | .val (.int _), .val (.bl _) :: _, hp2 => exact hp2.elim
  | .val (.int _), .val (.str _) :: _, hp2 => exact hp2.elim
  | .val (.int _), .val (.tup _) :: _, hp2 => exact hp2.elim
  | .val (.int _), .val (.lst _) :: _, hp2 => exact hp2.elim
  | .val (.int _), .val (.lck _) :: _, hp2 => exact hp2.elim
  | .val (.int _), .val (.dic _) :: _, hp2 => exact hp2.elim
  | .val (.int _), .val (.dit _) :: _, hp2 => exact hp2.elim
  | .val (.int _), .val (.obj _ _) :: _, hp2 => exact hp2.elim
  | .val (.int _), .val (.ptr _) :: _, hp2 => exact hp2.elim
  | .val (.int _), .val (.int _) :: _ :: _, hp2 => exact hp2.elim
theorem je_inRng {op : CmpOp} (ho : OpR X (compareOp op) (rInRng neg)) (hg : Gl X "range") (hm : X.mg "range" = none) (ha : JE X ca W a ta ma) (hA : JA X ca W [b] tA mA) (hmk : behindInMarks op (.Call (.Name "range" p) [b] [] pos) = false)
    (hs : starEach [b] X.env = (false, eval b X.env) :: starEach [] X.env := by rfl) : JE X ca W (.Compare a [op] [.Call (.Name "range" p) [b] [] pos] pc) (tOp (rInRng neg) ta (tCB rRng1 tA)) (eInRng neg ma mA) :=
  ⟨pe_cmpR ho ha.pe (pe_callTy cr_range1 hg hm (by decide +kernel) hA.pa (by decide) (by decide) hs rfl) hmk, ev_inRng ha.ev hA.ev⟩
theorem jt_inRng {op : CmpOp} (ho : OpR X (compareOp op) (rInRng neg)) (hg : Gl X "range") (hm : X.mg "range" = none) (ha : JE X ca W a ta ma) (hA : JA X ca W [b] tA mA) (hmk : behindInMarks op (.Call (.Name "range" p) [b] [] pos) = false)
    (hs : starEach [b] X.env = (false, eval b X.env) :: starEach [] X.env := by rfl) : JT X ca W (.Compare a [op] [.Call (.Name "range" p) [b] [] pos] pc) (tTest (tOp (rInRng neg) ta (tCB rRng1 tA))) (tstB (eInRng neg ma mA)) :=
  ⟨pt_cmpR ho ha.pe (pe_callTy cr_range1 hg hm (by decide +kernel) hA.pa (by decide) (by decide) hs rfl) hmk, ev_tstB (ev_inRng ha.ev hA.ev)⟩
end
/-! ### x in a list of data -/
def rInDp (K : PySem.W.Frag) (neg : Bool) : R2 := fun x y H Q => ∃ d ds, Dp K H x d ∧ Dp K H y (.list ds) ∧ SeqAt.shaped d = true ∧ SeqAt.shaped (.list ds) = true ∧ Q (.bl (neg ^^ ds.any fun y => PyData.eqv y d)) H
section
variable {X : Cx}
theorem op_inDp (hu : X.A.units + 65 < cLine) : OpR X (compareOp .In) (rInDp X.K false) := by
  intro pins s σ H x y v u Q I rx ry h
  obtain ⟨d, ds, hd, he, sd, se, q⟩ := h
  obtain ⟨as, r1⟩ := Dp.reads I d x v hd rx
  obtain ⟨bs, r2⟩ := Dp.reads I _ y u he ry
  exact SeqAt.in_list_reads r2 r1 (SeqAt.canLay_of_shaped se) (SeqAt.canLay_of_shaped sd) (room_in_shaped sd hu) ⟨.bl _, H, I, rfl, by simpa using q⟩
theorem op_notInDp (hu : X.A.units + 65 < cLine) : OpR X (compareOp .NotIn) (rInDp X.K true) := by
  intro pins s σ H x y v u Q I rx ry h
  obtain ⟨d, ds, hd, he, sd, se, q⟩ := h
  obtain ⟨as, r1⟩ := Dp.reads I d x v hd rx
  obtain ⟨bs, r2⟩ := Dp.reads I _ y u he ry
  exact SeqAt.notIn_list_reads r2 r1 (SeqAt.canLay_of_shaped se) (SeqAt.canLay_of_shaped sd) (room_in_shaped sd hu) ⟨.bl _, H, I, rfl, by simpa using q⟩
end
def inDpD (neg : Bool) (a b : D) : Option D := match toPy a, toPy b with
  | some p, some (.list qs) => if (SeqAt.shaped p && SeqAt.shaped (.list qs)) = true then some (.bl (neg ^^ qs.any fun y => PyData.eqv y p)) else none
  | _, _ => none
theorem sp_inDp {G : Gc} {neg : Bool} : Sp2 G (rInDp G.K neg) (inDpD neg) := by
  intro W ρ H x y dx dy d Q tk bx bby e q
  unfold inDpD at e
  cases z1 : toPy dx with
  | none => rw [z1] at e; cases e
  | some p =>
    cases z2 : toPy dy with
    | none => rw [z1, z2] at e; cases e
    | some p2 =>
      rw [z1, z2] at e
      cases p2 with
      | list qs =>
        have e : (if (SeqAt.shaped p && SeqAt.shaped (.list qs)) = true then some (D.bl (neg ^^ qs.any fun y => PyData.eqv y p)) else none) = some d := e
        by_cases h : (SeqAt.shaped p && SeqAt.shaped (.list qs)) = true
        · rw [if_pos h] at e
          cases e
          rw [Bool.and_eq_true] at h
          exact ⟨p, qs, dp_br bx z1, dp_br bby z2, h.1, h.2, q _ _ Ext.refl .bl⟩
        · rw [if_neg h] at e; cases e
      | _ => cases e
/-! ### o.f, o.g = a tuple -/
def gFldT (K : PySem.W.Frag) (to : TE) (f : Str) : TG := fun v σ H Q => to σ H fun x H2 => ∃ a C dx fs, x = .ref a ∧ H2 a = some (.ins C dx fs) ∧ Cls K C ∧ NoAttr K C f ∧ fs.length < 1000 ∧ Q σ (upd H2 a (.ins C dx (putF f v fs)))
section
variable {X : Cx} {ca : Nat → Addr} {W : WX} {nf c n : Nat} {o e : Expr} {es : List Expr} {to te : TE} {mo m : M Loc} {gs : TGs} {fs : List Str} {fn : Str} {pos pos' : Pos}
theorem pg_fldT (ho : PE X o to) : PG X (.Attribute o fn pos) (gFldT X.K to fn) := by
  refine ⟨fun pins s σ H v u Q I r h => ?_⟩
  rw [assign_Attribute]
  refine wpAny_bind (wpAny_holding (thn (ho.run pins s σ H _ I h) fun ov s1 ⟨x, H1, I1, r1, a, C, dx, gs, ex, ea, c, na, l, q⟩ => ?_))
  subst ex
  obtain rfl : ov = Value.ref a := r1
  refine wpAny_bind (wpAny_standAt (wpAny_bind (wpAny_holding (setattr_ok I1 ea c na l r fun s2 I2 => ?_))))
  exact wpAny_release ⟨σ, _, I2, q⟩
def putO (c : Nat) (fn : Str) (dv : D) : D → Option (D × D) := fun d => match d with | .obj c' fs => if c' = c ∧ fs.length < 1000 then some (D.obj c' (putFD fn dv fs), D.non) else none | _ => none
def setFs (c : Nat) (mo : M Loc) : List Str → List D → M Fl
  | [], [] => ret Fl.nx
  | f :: fs, d :: ds => bnd mo fun l => bnd (cont l) fun x => match putO c f d x with
    | some cd => bnd (setc l cd.1) fun _ => setFs c mo fs ds
    | none => stk
  | _, _ => stk
structure JFs (X : Cx) (ca : Nat → Addr) (W : WX) (nf c : Nat) (mo : M Loc) (es : List Expr) (gs : TGs) (fs : List Str) : Prop where
  pgs : PGs X es gs
  ev : ∀ S0 ρ s σ H vs ds E, Sat ⟨X.K, ca⟩ S0 ρ s σ H → Reps ⟨X.K, ca⟩ (Wa S0 ρ s.e σ) ρ H vs ds → PostS ⟨X.K, ca⟩ W nf S0 ρ s σ H (setFs c mo fs ds s) E → gs vs σ H E.nx
theorem jfs_nil : JFs X ca W nf c mo [] gNil [] := ⟨pgs_nil, fun S0 ρ s σ H vs ds E t r hp => by
  cases r with
  | nil => exact ⟨rfl, PostS.nx hp t⟩
  | cons _ _ => exact hp.elim⟩
theorem jfs_cons (cl : Cls X.K (ca c)) (na : NoAttr X.K (ca c) fn) (ho : JE X ca W o to mo) (h : JFs X ca W nf c mo es gs fs) (hs : (assignEach (.Attribute o fn pos :: es) X.env).map (·.2) = assign (.Attribute o fn pos) X.env :: (assignEach es X.env).map (·.2) := by rfl) :
    JFs X ca W nf c mo (.Attribute o fn pos :: es) (gCons (gFldT X.K to fn) gs) (fn :: fs) := by
  refine ⟨pgs_cons (pg_fldT ho.pe) h.pgs hs, fun S0 ρ s σ H vs ds E t r hp => ?_⟩
  cases r with
  | nil => exact hp.elim
  | @cons v d vs ds r rr =>
    refine ⟨v, vs, rfl, ?_⟩
    have hp : PostS ⟨X.K, ca⟩ W nf S0 ρ s σ H ((mo s).bind fun l => bnd (cont l) fun x => match putO c fn d x with
      | some cd => bnd (setc l cd.1) fun _ => setFs c mo fs ds
      | none => stk) E := hp
    refine ho.ev _ _ _ _ _ _ t ((wS (nf := nf) E).bind hp fun l s3 _ ov H3 ρ3 t3 n3 r3 hp3 => ?_)
    refine post_upd (wS (nf := nf) E) (putO c fn d) (k := fun _ => setFs c mo fs ds) (us := v :: vs) (ds := d :: ds) t3 r3 (.cons (r.mono n3.k n3.p) (rr.mono n3.k n3.p)) hp3 fun a c0 c' d' ev wa oc z rs up => ?_
    cases c0 with
    | obj c2 gs' =>
      unfold putO at z
      by_cases hc : c2 = c ∧ gs'.length < 1000
      · simp only [hc, and_self, if_true] at z
        have hc1 := hc.1
        subst hc1
        cases z
        obtain ⟨dx, us, hh, ke, ru⟩ := or_obj oc
        have hl : us.length = gs'.length := by have := congrArg List.length ke; simpa using this
        cases rs with
        | cons rv rrv =>
          refine ⟨a, _, dx, us, ev, hh, cl, na, by rw [hl]; exact hc.2, ?_⟩
          obtain ⟨i1, i2⟩ := putF_reps (fn := fn) rv ke ru
          obtain ⟨s4, t4, n4, hw, hp5⟩ := up (.ins (ca c2) dx (putF fn v us)) fun S1 kp => .obj upd_same i1 (i2.mono kp (List.prefix_refl _))
          exact h.ev _ _ _ _ _ _ _ _ t4 (rrv.mono n4.k n4.p) hp5
      · simp only [hc, if_false] at z
        cases z
    | _ => cases z
def sAsgF (c : Nat) (mo : M Loc) (fs : List Str) (n : Nat) (m : M Loc) : M Fl := bnd m fun l => bnd (toVal l) fun d => match d with
  | .tup ds => if ds.length = n then setFs c mo fs ds else stk
  | _ => stk
theorem js_asgF {k : Nat} (hc : X.calm = true) (he : JE X ca W e te m) (h : JFs X ca W nf c mo es gs fs) (hn : (assignEach es X.env).length = n := by rfl) (hst : (assignEach es X.env).findIdx? (·.1) = none := by rfl)
    (hs : swapsWithSole [.Tuple es k pos'] e pos.line X.env = pure false := by rfl) (hw : swappedStores [.Tuple es k pos'] e X.env = pure none := by rfl)
    (h1 : (assignEach [.Tuple es k pos'] X.env).map (·.2) = [assign (.Tuple es k pos') X.env] := by rfl) : JS X ca W nf (.Assign [.Tuple es k pos'] e pos) (tAsg te (gTup X.K n gs)) (sAsgF c mo fs n m) := by
  refine ⟨ps_asg he.pe (pg_tup hc h.pgs hn hst) hs hw h1, fun S0 ρ s σ H E t hp => ?_⟩
  refine he.ev _ _ _ _ _ _ t ((wS (nf := nf) E).bind hp fun l s1 _ v H1 ρ1 t1 n1 r1 hp1 => (wS (nf := nf) E).toVal t1 r1 hp1 fun d s2 t2 n2 r2 hp2 => ?_)
  cases d with
  | tup ds =>
    have hp2 : PostS ⟨X.K, ca⟩ W nf S0 ρ1 s2 σ H1 ((if ds.length = n then setFs c mo fs ds else stk) s2) E := hp2
    by_cases hl : ds.length = n
    · rw [if_pos hl] at hp2
      obtain ⟨a, vs, rfl, hs, rr, _⟩ := br_tup (.inl r2)
      exact ⟨a, vs, rfl, hs, by rw [rr.length]; exact hl, h.ev _ _ _ _ _ _ _ _ t2 rr hp2⟩
    · rw [if_neg hl] at hp2; exact hp2.elim
  | _ => exact hp2.elim
/-! ### a, b = x, y by names -/
def sPar (i j : Nat) (mA : M (List Loc)) : M Fl := bnd mA fun ls => bnd (vals ls) fun ds => fun s => match ds with
  | [d1, d2] => (match gN i d1 s with | none => .stuck | some s' => (match gN j d2 s' with | none => .stuck | some s2 => .ok .nx s2))
  | _ => .stuck
theorem js_par {i j : Nat} {x y : Str} {a b : Expr} {tA : TA} {mA : M (List Loc)} {px py pt : Pos} {kt k2 pt2} (hc : X.calm = true) (hN : X.N.Nodup) (hi : X.N[i]? = some x) (hj : X.N[j]? = some y) (hij : i ≠ j)
    (hx : X.env.scope.names.lookup x = some .local) (hy : X.env.scope.names.lookup y = some .local) (hA : JA X ca W [a, b] tA mA)
    (hw : swappedStores [.Tuple [.Name x px, .Name y py] kt pt] (.Tuple [a, b] k2 pt2) X.env = pure (some [x, y]))
    (hs : swapsWithSole [.Tuple [.Name x px, .Name y py] kt pt] (.Tuple [a, b] k2 pt2) pos.line X.env = pure false := by rfl) (hni : nf ≤ i := by decide) (hnj : nf ≤ j := by decide) :
    JS X ca W nf (.Assign [.Tuple [.Name x px, .Name y py] kt pt] (.Tuple [a, b] k2 pt2) pos) (tPar i j tA) (sPar i j mA) := by
  refine ⟨ps_par hc hN hi hj hij hx hy hA.pa hw hs, fun S0 ρ s σ H E t hp => ?_⟩
  refine hA.ev _ _ _ _ _ _ t ((wS (nf := nf) E).bind hp fun ls s1 _ vs H1 ρ1 t1 n1 r1 hp1 => (wS (nf := nf) E).vals t1 r1 hp1 fun ds s2 t2 n2 r2 hp2 => ?_)
  match ds, hp2 with
  | [d1, d2], hp2 =>
    have hp2 : PostS ⟨X.K, ca⟩ W nf S0 ρ1 s2 σ H1 (match gN i d1 s2 with | none => .stuck | some s' => (match gN j d2 s' with | none => .stuck | some s2 => .ok .nx s2)) E := hp2
    cases r2 with
    | @cons v _ _ _ rv rr =>
      cases rr with
      | @cons w _ _ _ rw rz =>
        cases rz
        refine ⟨v, w, rfl, ?_⟩
        cases z1 : gN i d1 s2 with
        | none => rw [z1] at hp2; exact hp2.elim
        | some s3 =>
          rw [z1] at hp2
          have hp2 : PostS ⟨X.K, ca⟩ W nf S0 ρ1 s2 σ H1 (match gN j d2 s3 with | none => .stuck | some s2 => .ok .nx s2) E := hp2
          refine ev_name (G := ⟨X.K, ca⟩) (nf := nf) hni S0 ρ1 s2 σ H1 v d1 s3 (fun σ' H' => E.nx (σ'.set j (some w)) H') t2 rv z1 fun σ3 t3 n3 f3 => ?_
          cases z2 : gN j d2 s3 with
          | none => rw [z2] at hp2; exact hp2.elim
          | some s4 =>
            rw [z2] at hp2
            refine ev_name (G := ⟨X.K, ca⟩) (nf := nf) hnj S0 ρ1 s3 σ3 H1 w d2 s4 E.nx t3 (rw.mono n3.k n3.p) z2 fun σ4 t4 n4 f4 => ?_
            exact hp2 σ4 H1 ρ1 t4 (n3.trans n4) (f3.trans f4)
  | [], hp2 => exact hp2.elim
  | [_], hp2 => exact hp2.elim
  | _ :: _ :: _ :: _, hp2 => exact hp2.elim
end
end Mi


namespace Mi
open PySem PySem.Spec PyProof.Rows L2
def exm_tab : Nat → Nat → Option Bool := fun i j => match i, j with | 2, 2 => some true | 3, 2 => some false | 3, 3 => some true | 4, 2 => some false | 4, 3 => some false | 4, 4 => some true | 5, 2 => some false | 5, 3 => some false | 5, 4 => some false | 5, 5 => some true | _, _ => none
def NAMES_ds : List D := [.str ("x" : Str), .str ("y" : Str)]
def BINDING_ds : List D := [.str ("each" : Str), .str ("some" : Str)]
def JOINING_ds : List D := [.str ("and" : Str), .str ("or" : Str)]
def KEPT_WORDS_ws : List Str := [("x" : Str), ("y" : Str), ("true" : Str), ("not" : Str), ("and" : Str), ("or" : Str), ("each" : Str), ("some" : Str)]
def isa_bool : String ⊕ Nat → Option Bool := fun k => match k with | .inl s => ([("NoneType", false), ("bool", true), ("int", false), ("str", false), ("tuple", false), ("list", false), ("dict", false)] : List (String × Bool)).lookup s | .inr _ => none
theorem isa_bool_ok {K : PySem.W.Frag} {ca : Nat → Addr} : ∀ k b, isa_bool k = some b → (∀ c, k = .inr c → ClF K (ca c)) ∧ PySem.W.kitOne K (tyT ca k) (.type "bool") = some b := by
  intro k b h
  cases k with
  | inr c => cases h
  | inl s =>
    have nr : ∀ c, (Sum.inl s : String ⊕ Nat) = .inr c → ClF K (ca c) := fun c z => nomatch z
    simp only [isa_bool, List.lookup] at h
    split at h
    · rename_i z; have e := eq_of_beq z; subst e; cases h; exact ⟨nr, rfl⟩
    · split at h
      · rename_i z; have e := eq_of_beq z; subst e; cases h; exact ⟨nr, rfl⟩
      · split at h
        · rename_i z; have e := eq_of_beq z; subst e; cases h; exact ⟨nr, rfl⟩
        · split at h
          · rename_i z; have e := eq_of_beq z; subst e; cases h; exact ⟨nr, rfl⟩
          · split at h
            · rename_i z; have e := eq_of_beq z; subst e; cases h; exact ⟨nr, rfl⟩
            · split at h
              · rename_i z; have e := eq_of_beq z; subst e; cases h; exact ⟨nr, rfl⟩
              · split at h
                · rename_i z; have e := eq_of_beq z; subst e; cases h; exact ⟨nr, rfl⟩
                · cases h

def isa_int : String ⊕ Nat → Option Bool := fun k => match k with | .inl s => ([("NoneType", false), ("bool", true), ("int", true), ("str", false), ("tuple", false), ("list", false), ("dict", false)] : List (String × Bool)).lookup s | .inr _ => none
theorem isa_int_ok {K : PySem.W.Frag} {ca : Nat → Addr} : ∀ k b, isa_int k = some b → (∀ c, k = .inr c → ClF K (ca c)) ∧ PySem.W.kitOne K (tyT ca k) (.type "int") = some b := by
  intro k b h
  cases k with
  | inr c => cases h
  | inl s =>
    have nr : ∀ c, (Sum.inl s : String ⊕ Nat) = .inr c → ClF K (ca c) := fun c z => nomatch z
    simp only [isa_int, List.lookup] at h
    split at h
    · rename_i z; have e := eq_of_beq z; subst e; cases h; exact ⟨nr, rfl⟩
    · split at h
      · rename_i z; have e := eq_of_beq z; subst e; cases h; exact ⟨nr, rfl⟩
      · split at h
        · rename_i z; have e := eq_of_beq z; subst e; cases h; exact ⟨nr, rfl⟩
        · split at h
          · rename_i z; have e := eq_of_beq z; subst e; cases h; exact ⟨nr, rfl⟩
          · split at h
            · rename_i z; have e := eq_of_beq z; subst e; cases h; exact ⟨nr, rfl⟩
            · split at h
              · rename_i z; have e := eq_of_beq z; subst e; cases h; exact ⟨nr, rfl⟩
              · split at h
                · rename_i z; have e := eq_of_beq z; subst e; cases h; exact ⟨nr, rfl⟩
                · cases h

def isa_list_tuple : String ⊕ Nat → Option Bool := fun k => match k with | .inl s => ([("NoneType", false), ("bool", false), ("int", false), ("str", false), ("tuple", true), ("list", true), ("dict", false)] : List (String × Bool)).lookup s | .inr _ => none
theorem isa_list_tuple_ok {K : PySem.W.Frag} {ca : Nat → Addr} : ∀ k b, isa_list_tuple k = some b → (∀ c, k = .inr c → ClF K (ca c)) ∧ PySem.W.kitAny K (tyT ca k) [.type "list", .type "tuple"] = some b := by
  intro k b h
  cases k with
  | inr c => cases h
  | inl s =>
    have nr : ∀ c, (Sum.inl s : String ⊕ Nat) = .inr c → ClF K (ca c) := fun c z => nomatch z
    simp only [isa_list_tuple, List.lookup] at h
    split at h
    · rename_i z; have e := eq_of_beq z; subst e; cases h; exact ⟨nr, rfl⟩
    · split at h
      · rename_i z; have e := eq_of_beq z; subst e; cases h; exact ⟨nr, rfl⟩
      · split at h
        · rename_i z; have e := eq_of_beq z; subst e; cases h; exact ⟨nr, rfl⟩
        · split at h
          · rename_i z; have e := eq_of_beq z; subst e; cases h; exact ⟨nr, rfl⟩
          · split at h
            · rename_i z; have e := eq_of_beq z; subst e; cases h; exact ⟨nr, rfl⟩
            · split at h
              · rename_i z; have e := eq_of_beq z; subst e; cases h; exact ⟨nr, rfl⟩
              · split at h
                · rename_i z; have e := eq_of_beq z; subst e; cases h; exact ⟨nr, rfl⟩
                · cases h

def isa_own_Tongue : String ⊕ Nat → Option Bool := fun k => match k with | .inr j => if j = 0 then some true else none | _ => none
theorem isa_own_Tongue_ok {K : PySem.W.Frag} {ca : Nat → Addr} (f : ClF K (ca 0)) : ∀ k b, isa_own_Tongue k = some b → (∀ c, k = .inr c → ClF K (ca c)) ∧ PySem.W.kitOne K (tyT ca k) (.ref (ca 0)) = some b := by
  intro k b h
  cases k with
  | inl s => cases h
  | inr j =>
    have h : (if j = 0 then some true else none) = some b := h
    by_cases e : j = 0
    · subst e
      rw [if_pos rfl] at h
      cases h
      exact ⟨fun c e => by cases e; exact f, if_pos (by simp [tyT])⟩
    · rw [if_neg e] at h; cases h

def isa_str : String ⊕ Nat → Option Bool := fun k => match k with | .inl s => ([("NoneType", false), ("bool", false), ("int", false), ("str", true), ("tuple", false), ("list", false), ("dict", false)] : List (String × Bool)).lookup s | .inr _ => none
theorem isa_str_ok {K : PySem.W.Frag} {ca : Nat → Addr} : ∀ k b, isa_str k = some b → (∀ c, k = .inr c → ClF K (ca c)) ∧ PySem.W.kitOne K (tyT ca k) (.type "str") = some b := by
  intro k b h
  cases k with
  | inr c => cases h
  | inl s =>
    have nr : ∀ c, (Sum.inl s : String ⊕ Nat) = .inr c → ClF K (ca c) := fun c z => nomatch z
    simp only [isa_str, List.lookup] at h
    split at h
    · rename_i z; have e := eq_of_beq z; subst e; cases h; exact ⟨nr, rfl⟩
    · split at h
      · rename_i z; have e := eq_of_beq z; subst e; cases h; exact ⟨nr, rfl⟩
      · split at h
        · rename_i z; have e := eq_of_beq z; subst e; cases h; exact ⟨nr, rfl⟩
        · split at h
          · rename_i z; have e := eq_of_beq z; subst e; cases h; exact ⟨nr, rfl⟩
          · split at h
            · rename_i z; have e := eq_of_beq z; subst e; cases h; exact ⟨nr, rfl⟩
            · split at h
              · rename_i z; have e := eq_of_beq z; subst e; cases h; exact ⟨nr, rfl⟩
              · split at h
                · rename_i z; have e := eq_of_beq z; subst e; cases h; exact ⟨nr, rfl⟩
                · cases h

def isa_tuple : String ⊕ Nat → Option Bool := fun k => match k with | .inl s => ([("NoneType", false), ("bool", false), ("int", false), ("str", false), ("tuple", true), ("list", false), ("dict", false)] : List (String × Bool)).lookup s | .inr _ => none
theorem isa_tuple_ok {K : PySem.W.Frag} {ca : Nat → Addr} : ∀ k b, isa_tuple k = some b → (∀ c, k = .inr c → ClF K (ca c)) ∧ PySem.W.kitOne K (tyT ca k) (.type "tuple") = some b := by
  intro k b h
  cases k with
  | inr c => cases h
  | inl s =>
    have nr : ∀ c, (Sum.inl s : String ⊕ Nat) = .inr c → ClF K (ca c) := fun c z => nomatch z
    simp only [isa_tuple, List.lookup] at h
    split at h
    · rename_i z; have e := eq_of_beq z; subst e; cases h; exact ⟨nr, rfl⟩
    · split at h
      · rename_i z; have e := eq_of_beq z; subst e; cases h; exact ⟨nr, rfl⟩
      · split at h
        · rename_i z; have e := eq_of_beq z; subst e; cases h; exact ⟨nr, rfl⟩
        · split at h
          · rename_i z; have e := eq_of_beq z; subst e; cases h; exact ⟨nr, rfl⟩
          · split at h
            · rename_i z; have e := eq_of_beq z; subst e; cases h; exact ⟨nr, rfl⟩
            · split at h
              · rename_i z; have e := eq_of_beq z; subst e; cases h; exact ⟨nr, rfl⟩
              · split at h
                · rename_i z; have e := eq_of_beq z; subst e; cases h; exact ⟨nr, rfl⟩
                · cases h

def b__law_pool : M Fl :=
  (sSeq (sAsg (gN 1) (op2 addD (op2 addD (op2 modD (opC intD (aCons (opC sumD (aCons (eSl (vr 0) pNo (pSo (kk (.int (1 : Int))))) aNil)) aNil)) (kk (.int (1000003 : Int)))) (opC lenD (aCons (vr 0) aNil))) (kk (.int (1 : Int)))))
    (sSeq (sFor (iSeq (eSl (vr 0) pNo (pSo (kk (.int (63 : Int)))))) (gN 2)
    (sAsg (gN 1) (op2 modD (opC intD (aCons (op2 addD (op2 addD (op2 mulD (vr 1) (kk (.int (48271 : Int)))) (op2 modD (opC intD (aCons (vr 2) aNil)) (kk (.int (2147483629 : Int))))) (kk (.int (11 : Int)))) aNil)) (kk (.int (2147483647 : Int))))))
    (sRet (ePtr (nLst (aCons (vr 1) (aCons (kk (.int (0 : Int))) (aCons (ePtr (nLc (iSeq (eSl (vr 0) pNo (pSo (kk (.int (63 : Int)))))) (gN 2) (tstB (op2 (cmpD fun i j => decide (j ≤ i)) (opC absD (aCons (vr 2) aNil)) (op2 powD (kk (.int (10 : Int))) (kk (.int (18 : Int)))))) (opC absD (aCons (vr 2) aNil)) [2])) aNil))))))))
def g__law_pool : List D → M D := runB 3 b__law_pool

def b__law_draw : M Fl :=
  (sSeq (sSub setD (op2 addD (op2 ixD (vr 0) (kk (.int (1 : Int)))) (kk (.int (1 : Int)))) (vr 0) (kk (.int (1 : Int))))
    (sSeq (sAsg (gN 2) (op2 ixD (vr 0) (kk (.int (2 : Int)))))
    (sSeq (sIf (tstB (op2 (cmpD fun i j => decide (j < i)) (opC lenD (aCons (vr 2) aNil)) (kk (.int (0 : Int)))))
    (sSeq (sAsg (gN 4) (op2 modD (opC intD (aCons (op2 ixD (vr 2) (kk (.int (0 : Int)))) aNil)) (vr 1)))
    (sSeq (sSub setD (op2 fdivD (opC intD (aCons (op2 ixD (vr 2) (kk (.int (0 : Int)))) aNil)) (vr 1)) (vr 2) (kk (.int (0 : Int))))
    (sSeq (sIf (tstB (op2 (eqD false) (op2 ixD (vr 2) (kk (.int (0 : Int)))) (kk (.int (0 : Int)))))
    (sExpr (eMu isLst popAtD (vr 2) (aCons (kk (.int (0 : Int))) aNil)))
    sNx)
    (sRet (vr 4)))))
    sNx)
    (sSeq (sAsg (gN 3) (op2 modD (opC intD (aCons (op2 mulD (op2 addD (op2 ixD (vr 0) (kk (.int (0 : Int)))) (op2 mulD (kk (.int (7919 : Int))) (op2 ixD (vr 0) (kk (.int (1 : Int)))))) (kk (.int (48271 : Int)))) aNil)) (kk (.int (2147483647 : Int)))))
    (sSeq (sAsg (gN 3) (op2 modD (opC intD (aCons (op2 mulD (vr 3) (op2 addD (op2 fdivD (vr 3) (kk (.int (1009 : Int)))) (kk (.int (69621 : Int))))) aNil)) (kk (.int (2147483647 : Int)))))
    (sSeq (sAsg (gN 3) (op2 modD (opC intD (aCons (op2 mulD (vr 3) (op2 addD (op2 fdivD (vr 3) (kk (.int (2003 : Int)))) (kk (.int (40692 : Int))))) aNil)) (kk (.int (2147483399 : Int)))))
    (sRet (op2 modD (opC intD (aCons (op2 fdivD (vr 3) (kk (.int (16 : Int)))) aNil)) (vr 1)))))))))
def g__law_draw : List D → M D := runB 5 b__law_draw

def b__law_names : M Fl :=
  (sSeq (sAsg (gN 2) (eCall g__law_draw (aCons (vr 0) (aCons (kk (.int (3 : Int))) aNil))))
    (sSeq (sAsg (gN 3) (eCall g__law_draw (aCons (vr 0) (aCons (kk (.int (26 : Int))) aNil))))
    (sSeq (sAsg (gN 4) (op2 ixD (eFrz (nLst (aCons (kk (.int (1 : Int))) (aCons (kk (.int (3 : Int))) (aCons (kk (.int (5 : Int))) (aCons (kk (.int (7 : Int))) (aCons (kk (.int (9 : Int))) (aCons (kk (.int (11 : Int))) (aCons (kk (.int (15 : Int))) (aCons (kk (.int (17 : Int))) (aCons (kk (.int (19 : Int))) (aCons (kk (.int (21 : Int))) (aCons (kk (.int (23 : Int))) (aCons (kk (.int (25 : Int))) aNil)))))))))))))) (eCall g__law_draw (aCons (vr 0) (aCons (kk (.int (12 : Int))) aNil)))))
    (sSeq (sAsg (gN 5) (kk (.str ("abcdefghijklmnopqrstuvwxyz" : Str))))
    (sSeq (sOwn 6 (nLst aNil))
    (sSeq (sFor (iRng1 (aCons (vr 1) aNil)) (gN 7)
    (sSeq (sOwn 8 (nLc (iRng1 (aCons (op2 addD (op2 addD (vr 2) (kk (.int (1 : Int)))) (eCall g__law_draw (aCons (vr 0) (aCons (op2 subD (kk (.int (3 : Int))) (vr 2)) aNil)))) aNil)) (gN 10) (ret true) (op2 ixD (vr 5) (eCall g__law_draw (aCons (vr 0) (aCons (kk (.int (26 : Int))) aNil)))) [10]))
    (sSeq (sSub setD (op2 ixD (vr 5) (op2 modD (opC intD (aCons (op2 addD (vr 3) (op2 mulD (vr 4) (vr 7))) aNil)) (kk (.int (26 : Int))))) (vr 8) (vr 2))
    (sSeq (sAsg (gN 9) (eMe isStr joinD (kk (.str ("" : Str))) (aCons (vr 8) aNil)))
    (sSeq (sIf (tstB (op2 (inD false) (vr 9) (eFrz (nLst (aCons (kk (.str ("x" : Str))) (aCons (kk (.str ("y" : Str))) (aCons (kk (.str ("not" : Str))) (aCons (kk (.str ("and" : Str))) (aCons (kk (.str ("or" : Str))) aNil)))))))))
    (sAsg (gN 9) (op2 addD (vr 9) (kk (.str ("q" : Str)))))
    sNx)
    (sExpr (eMu isLst appD (vr 6) (aCons (vr 9) aNil))))))))
    (sRet (vr 6))))))))
def g__law_names : List D → M D := runB 11 b__law_names

def b__law_shape : M Fl :=
  (sSeq (sAsg (gN 2) (op2 ixD (vr 1) (eCall g__law_draw (aCons (vr 0) (aCons (opC lenD (aCons (vr 1) aNil)) aNil)))))
    (sSeq (sAsg (gN 3) (eCall g__law_names (aCons (vr 0) (aCons (kk (.int (5 : Int))) aNil))))
    (sSeq (sAsg (gN 4) (opC tupleD (aCons (eSl (vr 3) (pSo (kk (.int (3 : Int)))) (pSo (op2 addD (kk (.int (3 : Int))) (op2 ixD (vr 2) (kk (.int (1 : Int))))))) aNil)))
    (sSeq (sAsg (gN 5) (eTup aNil))
    (sSeq (sIf (tstB (op2 (cmpD fun i j => decide (j < i)) (opC lenD (aCons (vr 2) aNil)) (kk (.int (2 : Int)))))
    (sAsg (gN 5) (eSl (vr 4) pNo (pSo (op2 ixD (vr 2) (kk (.int (2 : Int)))))))
    sNx)
    (sRet (eTup (aCons (opC tupleD (aCons (eSl (vr 3) pNo (pSo (op2 ixD (vr 2) (kk (.int (0 : Int)))))) aNil)) (aCons (vr 4) (aCons (vr 5) aNil))))))))))
def g__law_shape : List D → M D := runB 6 b__law_shape

def b__law_small_shape : M Fl :=
  (sRet (eCall g__law_shape (aCons (vr 0) (aCons (eFrz (nLst (aCons (eTup (aCons (kk (.int (1 : Int))) (aCons (kk (.int (0 : Int))) aNil))) (aCons (eTup (aCons (kk (.int (2 : Int))) (aCons (kk (.int (0 : Int))) aNil))) (aCons (eTup (aCons (kk (.int (0 : Int))) (aCons (kk (.int (1 : Int))) aNil))) (aCons (eTup (aCons (kk (.int (1 : Int))) (aCons (kk (.int (1 : Int))) aNil))) (aCons (eTup (aCons (kk (.int (0 : Int))) (aCons (kk (.int (1 : Int))) aNil))) (aCons (eTup (aCons (kk (.int (0 : Int))) (aCons (kk (.int (2 : Int))) aNil))) aNil)))))))) aNil))))
def g__law_small_shape : List D → M D := runB 1 b__law_small_shape

def b_is_sequence : M Fl :=
  (sRet (eIsi isa_list_tuple (vr 0)))
def g_is_sequence : List D → M D := runB 1 b_is_sequence

def b_is_word : M Fl :=
  (sSeq (sIf (mOr (mNot (tst (eIsi isa_str (vr 0)))) (mNot (tstB (chn (cmpD fun i j => decide (i ≤ j)) (cmpD fun i j => decide (i ≤ j)) (kk (.int (1 : Int))) (opC lenD (aCons (vr 0) aNil)) (kk (.int (6 : Int)))))))
    (sRet (kk (.bl false)))
    sNx)
    (sSeq (sFor (iSeq (vr 0)) (gN 1)
    (sIf (tstB (op2 (inD true) (vr 1) (kk (.str ("abcdefghijklmnopqrstuvwxyz" : Str)))))
    (sRet (kk (.bl false)))
    sNx))
    (sRet (kk (.bl true)))))
def g_is_word : List D → M D := runB 2 b_is_word

def b_are_names : M Fl :=
  (sSeq (sIf (mOr (mNot (tst (eCall g_is_sequence (aCons (vr 0) aNil)))) (tstB (op2 (cmpD fun i j => decide (j < i)) (opC lenD (aCons (vr 0) aNil)) (vr 1))))
    (sRet (kk (.bl false)))
    sNx)
    (sSeq (sOwn 3 (ret (.dic [])))
    (sSeq (sFor (iSeq (vr 0)) (gN 4)
    (sSeq (sIf (mOr (mNot (tst (eCall g_is_word (aCons (vr 4) aNil)))) (mOr (tstB (eInW false KEPT_WORDS_ws (vr 4))) (mOr (tstB (op2 (inD false) (vr 4) (vr 2))) (tstB (op2 (inD false) (vr 4) (vr 3))))))
    (sRet (kk (.bl false)))
    sNx)
    (sSub setD (kk (.bl true)) (vr 3) (vr 4))))
    (sRet (kk (.bl true))))))
def g_are_names : List D → M D := runB 5 b_are_names

def b_is_key : M Fl :=
  (sRet (eAnd (eIsi isa_str (vr 0)) (op2 (inD false) (vr 0) (vr 1))))
def g_is_key : List D → M D := runB 2 b_is_key

def b_are_functions : M Fl :=
  (sSeq (sIf (mOr (mNot (tst (eCall g_is_sequence (aCons (vr 0) aNil)))) (tstB (op2 (cmpD fun i j => decide (j < i)) (opC lenD (aCons (vr 0) aNil)) (kk (.int (1 : Int))))))
    (sRet (kk (.bl false)))
    sNx)
    (sSeq (sFor (iSeq (vr 0)) (gN 2)
    (sIf (mNot (tst (eCall g_is_key (aCons (vr 2) (aCons (vr 1) aNil)))))
    (sRet (kk (.bl false)))
    sNx))
    (sRet (kk (.bl true)))))
def g_are_functions : List D → M D := runB 3 b_are_functions

def b_Tongue___init__ : M Fl :=
  (sSeq (sIf (mNot (tst (eCall g_are_names (aCons (vr 1) (aCons (kk (.int (3 : Int))) (aCons (eTup aNil) aNil))))))
    sNever
    sNx)
    (sSeq (sIf (mNot (tst (eCall g_are_names (aCons (vr 2) (aCons (kk (.int (2 : Int))) (aCons (vr 1) aNil))))))
    sNever
    sNx)
    (sSeq (sIf (mNot (tst (eCall g_are_functions (aCons (vr 3) (aCons (opC tupleD (aCons (vr 2) aNil)) aNil)))))
    sNever
    sNx)
    (sSeq (sFldS 0 ("kept_marks" : Str) (opC tupleD (aCons (vr 1) aNil)) (vr 0))
    (sSeq (sFldS 0 ("kept_ties" : Str) (opC tupleD (aCons (vr 2) aNil)) (vr 0))
    (sFldS 0 ("functions" : Str) (opC tupleD (aCons (vr 3) aNil)) (vr 0)))))))
def g_Tongue___init__ : List D → M D := runI 0 3 b_Tongue___init__

def b__law_tongue : M Fl :=
  (sRet (eFrz (nMake g_Tongue___init__ (aCons (op2 ixD (vr 0) (kk (.int (0 : Int)))) (aCons (op2 ixD (vr 0) (kk (.int (1 : Int)))) (aCons (op2 ixD (vr 0) (kk (.int (2 : Int)))) aNil))))))
def g__law_tongue : List D → M D := runB 1 b__law_tongue

def b_check_plain : M Fl :=
  (sIf (tst (eFld 0 ("functions" : Str) (vr 0)))
    sNever
    sNx)
def g_check_plain : List D → M D := runB 1 b_check_plain

def b_Hall___init__ : M Fl :=
  (sSeq (sExpr (eCall g_check_plain (aCons (vr 1) aNil)))
    (sSeq (sFldS 1 ("kept_tongue" : Str) (vr 1) (vr 0))
    (sSeq (sFldS 1 ("kept" : Str) (eFrz (nLst aNil)) (vr 0))
    (sSeq (sFldS 1 ("scale" : Str) (eFrz (ret (.dic []))) (vr 0))
    (sFldS 1 ("past" : Str) (ePtr (nLst aNil)) (vr 0))))))
def g_Hall___init__ : List D → M D := runI 1 1 b_Hall___init__

def b__law_due : M Fl :=
  (sSeq (sAsg (gT (gsC (gN 3) (gsC (gN 4) gsN)) 2) (op2 ixD (vr 0) (op1 negD (kk (.int (1 : Int))))))
    (sSeq (sIf (tstB (op2 (eqD false) (op2 ixD (vr 1) (kk (.int (0 : Int)))) (kk (.str ("back" : Str)))))
    (sSeq (sIf (tstB (op2 (eqD false) (opC lenD (aCons (vr 0) aNil)) (kk (.int (1 : Int)))))
    (sRet (kk (.str ("undo" : Str))))
    sNx)
    (sSeq (sExpr (eMu isLst popD (vr 0) aNil))
    (sRet (kk .non))))
    sNx)
    (sSeq (sIf (tstB (op2 (eqD false) (op2 ixD (vr 1) (kk (.int (0 : Int)))) (kk (.str ("say" : Str)))))
    (sSeq (sIf (tstB (op2 (eqD false) (opC lenD (aCons (vr 3) aNil)) (kk (.int (3 : Int)))))
    (sRet (kk (.str ("many" : Str))))
    sNx)
    (sExpr (eMu isLst appD (vr 0) (aCons (eTup (aCons (op2 addD (vr 3) (eFrz (nLst (aCons (op2 ixD (vr 1) (kk (.int (1 : Int)))) aNil)))) (aCons (vr 4) aNil))) aNil))))
    (sIf (tstB (op2 (eqD false) (op2 ixD (vr 1) (kk (.int (0 : Int)))) (kk (.str ("drop" : Str)))))
    (sSeq (sIf (tstB (eInRng true (op2 ixD (vr 1) (kk (.int (1 : Int)))) (aCons (opC lenD (aCons (vr 3) aNil)) aNil)))
    (sRet (kk (.str ("said" : Str))))
    sNx)
    (sExpr (eMu isLst appD (vr 0) (aCons (eTup (aCons (op2 addD (eSl (vr 3) pNo (pSo (op2 ixD (vr 1) (kk (.int (1 : Int)))))) (eSl (vr 3) (pSo (op2 addD (op2 ixD (vr 1) (kk (.int (1 : Int)))) (kk (.int (1 : Int))))) pNo)) (aCons (vr 4) aNil))) aNil))))
    (sSeq (sIf (mOr (tstB (op2 (inD true) (op2 ixD (vr 1) (kk (.int (1 : Int)))) (vr 2))) (tstB (op2 (inDpD true) (op2 ixD (vr 1) (kk (.int (2 : Int)))) (eFrz (nLst (aCons (eTup (aCons (kk (.int (1 : Int))) (aCons (kk (.int (2 : Int))) aNil))) (aCons (eTup (aCons (kk (.int (3 : Int))) (aCons (kk (.int (1 : Int))) aNil))) (aCons (eTup (aCons (kk (.int (0 : Int))) (aCons (kk (.int (1 : Int))) aNil))) (aCons (eTup (aCons (kk (.int (5 : Int))) (aCons (kk (.int (4 : Int))) aNil))) aNil)))))))))
    (sRet (kk (.str ("weights" : Str))))
    sNx)
    (sSeq (sOwn 5 (nCopy (vr 4)))
    (sSeq (sSub setD (op2 ixD (vr 1) (kk (.int (2 : Int)))) (vr 5) (op2 ixD (vr 1) (kk (.int (1 : Int)))))
    (sExpr (eMu isLst appD (vr 0) (aCons (eTup (aCons (vr 3) (aCons (vr 5) aNil))) aNil))))))))
    (sRet (kk .non)))))
def g__law_due : List D → M D := runB 6 b__law_due

def b_is_tuple : M Fl :=
  (sRet (eAnd (eIsi isa_tuple (vr 0)) (op2 (eqD false) (opC lenD (aCons (vr 0) aNil)) (vr 1))))
def g_is_tuple : List D → M D := runB 2 b_is_tuple

def b_is_headed : M Fl :=
  (sRet (eAnd (eCall g_is_tuple (aCons (vr 0) (aCons (vr 2) aNil))) (eAnd (eIsi isa_str (op2 ixD (vr 0) (kk (.int (0 : Int))))) (op2 (eqD false) (op2 ixD (vr 0) (kk (.int (0 : Int)))) (vr 1)))))
def g_is_headed : List D → M D := runB 3 b_is_headed

def b_is_name : M Fl :=
  (sRet (eCall g_is_key (aCons (vr 0) (aCons (kk (.tup NAMES_ds)) aNil))))
def g_is_name : List D → M D := runB 1 b_is_name

def b_Tongue_marks : M Fl :=
  (sRet (eFld 0 ("kept_marks" : Str) (vr 0)))
def g_Tongue_marks : List D → M D := runB 1 b_Tongue_marks

def b_Tongue_ties : M Fl :=
  (sRet (eFld 0 ("kept_ties" : Str) (vr 0)))
def g_Tongue_ties : List D → M D := runB 1 b_Tongue_ties

def b_is_test : M Fl :=
  (sSeq (sIf (tst (eCall g_is_headed (aCons (vr 1) (aCons (kk (.str ("true" : Str))) (aCons (kk (.int (1 : Int))) aNil)))))
    (sRet (kk (.bl true)))
    sNx)
    (sSeq (sIf (tst (eCall g_is_headed (aCons (vr 1) (aCons (kk (.str ("mark" : Str))) (aCons (kk (.int (3 : Int))) aNil)))))
    (sRet (eAnd (eCall g_is_key (aCons (op2 ixD (vr 1) (kk (.int (1 : Int)))) (aCons (eProp 0 g_Tongue_marks (vr 0)) aNil))) (eCall g_is_name (aCons (op2 ixD (vr 1) (kk (.int (2 : Int)))) aNil))))
    sNx)
    (sSeq (sIf (tst (eCall g_is_headed (aCons (vr 1) (aCons (kk (.str ("tie" : Str))) (aCons (kk (.int (4 : Int))) aNil)))))
    (sRet (eAnd (eCall g_is_key (aCons (op2 ixD (vr 1) (kk (.int (1 : Int)))) (aCons (eProp 0 g_Tongue_ties (vr 0)) aNil))) (eAnd (eCall g_is_name (aCons (op2 ixD (vr 1) (kk (.int (2 : Int)))) aNil)) (eCall g_is_name (aCons (op2 ixD (vr 1) (kk (.int (3 : Int)))) aNil)))))
    sNx)
    (sRet (eAnd (eCall g_is_headed (aCons (vr 1) (aCons (kk (.str ("same" : Str))) (aCons (kk (.int (3 : Int))) aNil)))) (eAnd (eCall g_is_name (aCons (op2 ixD (vr 1) (kk (.int (1 : Int)))) aNil)) (eCall g_is_name (aCons (op2 ixD (vr 1) (kk (.int (2 : Int)))) aNil))))))))
def g_is_test : List D → M D := runB 2 b_is_test

def b_parts_of : M Fl :=
  (sSeq (sIf (tst (eCall g_is_test (aCons (vr 0) (aCons (vr 1) aNil))))
    (sRet (eFrz (nLst aNil)))
    sNx)
    (sSeq (sIf (tst (eCall g_is_headed (aCons (vr 1) (aCons (kk (.str ("not" : Str))) (aCons (kk (.int (2 : Int))) aNil)))))
    (sRet (eFrz (nLst (aCons (op2 ixD (vr 1) (kk (.int (1 : Int)))) aNil))))
    sNx)
    (sSeq (sIf (mOr (mNot (tst (eCall g_is_tuple (aCons (vr 1) (aCons (kk (.int (3 : Int))) aNil))))) (mNot (tst (eIsi isa_str (op2 ixD (vr 1) (kk (.int (0 : Int))))))))
    (sRet (kk .non))
    sNx)
    (sSeq (sIf (tstB (op2 (inD false) (op2 ixD (vr 1) (kk (.int (0 : Int)))) (kk (.tup JOINING_ds))))
    (sRet (eFrz (nLst (aCons (op2 ixD (vr 1) (kk (.int (1 : Int)))) (aCons (op2 ixD (vr 1) (kk (.int (2 : Int)))) aNil)))))
    sNx)
    (sSeq (sIf (mAnd (tstB (op2 (inD false) (op2 ixD (vr 1) (kk (.int (0 : Int)))) (kk (.tup BINDING_ds)))) (tst (eCall g_is_name (aCons (op2 ixD (vr 1) (kk (.int (1 : Int)))) aNil))))
    (sRet (eFrz (nLst (aCons (op2 ixD (vr 1) (kk (.int (2 : Int)))) aNil))))
    sNx)
    (sRet (kk .non)))))))
def g_parts_of : List D → M D := runB 2 b_parts_of

def b_is_saying : M Fl :=
  (sSeq (sOwn 2 (nLst (aCons (eTup (aCons (vr 1) (aCons (kk (.int (1 : Int))) aNil))) aNil)))
    (sSeq (sAsg (gN 3) (kk (.int (0 : Int))))
    (sSeq (sWhile (tst (vr 2))
    (sSeq (sAsg (gT (gsC (gN 6) (gsC (gN 7) gsN)) 2) (eMu isLst popD (vr 2) aNil))
    (sSeq (sAug 3 addI (kk (.int (1 : Int))))
    (sSeq (sAsg (gN 4) (eCall g_parts_of (aCons (vr 0) (aCons (vr 6) aNil))))
    (sSeq (sIf (mOr (tstB (op2 (isNonD false) (vr 4) (kk .non))) (mOr (tstB (op2 (cmpD fun i j => decide (j < i)) (vr 3) (kk (.int (100 : Int))))) (tstB (op2 (cmpD fun i j => decide (j < i)) (vr 7) (kk (.int (20 : Int)))))))
    (sRet (kk (.bl false)))
    sNx)
    (sFor (iSeq (vr 4)) (gN 5)
    (sExpr (eMu isLst appD (vr 2) (aCons (eTup (aCons (vr 5) (aCons (op2 addD (vr 7) (kk (.int (1 : Int)))) aNil))) aNil)))))))))
    (sRet (kk (.bl true))))))
def g_is_saying : List D → M D := runB 8 b_is_saying

def b_check_saying : M Fl :=
  (sIf (mNot (tst (eCall g_is_saying (aCons (vr 0) (aCons (vr 1) aNil)))))
    sNever
    sNx)
def g_check_saying : List D → M D := runB 2 b_check_saying

def b_own_names : M Fl :=
  (sSeq (sIf (tstB (op2 (eqD false) (op2 ixD (vr 0) (kk (.int (0 : Int)))) (kk (.str ("mark" : Str)))))
    (sRet (eTup (aCons (op2 ixD (vr 0) (kk (.int (2 : Int)))) aNil)))
    sNx)
    (sSeq (sIf (tstB (op2 (eqD false) (op2 ixD (vr 0) (kk (.int (0 : Int)))) (kk (.str ("tie" : Str)))))
    (sRet (eTup (aCons (op2 ixD (vr 0) (kk (.int (2 : Int)))) (aCons (op2 ixD (vr 0) (kk (.int (3 : Int)))) aNil))))
    sNx)
    (sSeq (sIf (tstB (op2 (eqD false) (op2 ixD (vr 0) (kk (.int (0 : Int)))) (kk (.str ("same" : Str)))))
    (sRet (eTup (aCons (op2 ixD (vr 0) (kk (.int (1 : Int)))) (aCons (op2 ixD (vr 0) (kk (.int (2 : Int)))) aNil))))
    sNx)
    (sRet (eTup aNil)))))
def g_own_names : List D → M D := runB 1 b_own_names

def b_sayings_in : M Fl :=
  (sSeq (sIf (tstB (op2 (eqD false) (op2 ixD (vr 0) (kk (.int (0 : Int)))) (kk (.str ("not" : Str)))))
    (sRet (eTup (aCons (op2 ixD (vr 0) (kk (.int (1 : Int)))) aNil)))
    sNx)
    (sSeq (sIf (tstB (op2 (inD false) (op2 ixD (vr 0) (kk (.int (0 : Int)))) (kk (.tup JOINING_ds))))
    (sRet (eTup (aCons (op2 ixD (vr 0) (kk (.int (1 : Int)))) (aCons (op2 ixD (vr 0) (kk (.int (2 : Int)))) aNil))))
    sNx)
    (sSeq (sIf (tstB (op2 (inD false) (op2 ixD (vr 0) (kk (.int (0 : Int)))) (kk (.tup BINDING_ds))))
    (sRet (eTup (aCons (op2 ixD (vr 0) (kk (.int (2 : Int)))) aNil)))
    sNx)
    (sRet (eTup aNil)))))
def g_sayings_in : List D → M D := runB 1 b_sayings_in

def b_free_names (G_free_names : List D → M D) : M Fl :=
  (sSeq (sOwn 1 (ret (.dic [])))
    (sSeq (sFor (iSeq (eCall g_own_names (aCons (vr 0) aNil))) (gN 2)
    (sSub setD (kk (.bl true)) (vr 1) (vr 2)))
    (sSeq (sFor (iSeq (eCall g_sayings_in (aCons (vr 0) aNil))) (gN 3)
    (sFor (iSeq (eCall (G_free_names) (aCons (vr 3) aNil))) (gN 2)
    (sIf (mOr (tstB (op2 (inD true) (op2 ixD (vr 0) (kk (.int (0 : Int)))) (kk (.tup BINDING_ds)))) (tstB (op2 (eqD true) (vr 2) (op2 ixD (vr 0) (kk (.int (1 : Int)))))))
    (sSub setD (kk (.bl true)) (vr 1) (vr 2))
    sNx)))
    (sRet (opC tupleD (aCons (eFrz (nLc (iSeq (kk (.tup NAMES_ds))) (gN 2) (tstB (op2 (inD false) (vr 2) (vr 1))) (vr 2) [2])) aNil))))))
def g_free_names : Nat → List D → M D
  | 0 => fun _ => stk
  | n + 1 => runB 4 (b_free_names (g_free_names n))

def b_check_closed : M Fl :=
  (sSeq (sExpr (eCall g_check_saying (aCons (vr 0) (aCons (vr 1) aNil))))
    (sIf (tst (eCall (g_free_names 22) (aCons (vr 1) aNil)))
    sNever
    sNx))
def g_check_closed : List D → M D := runB 2 b_check_closed

def b_Hall_change : M Fl :=
  (sSeq (sExpr (eMu isLst appD (eFld 1 ("past" : Str) (vr 0)) (aCons (eTup (aCons (eFld 1 ("kept" : Str) (vr 0)) (aCons (eFld 1 ("scale" : Str) (vr 0)) aNil))) aNil)))
    (sSeq (sFldS 1 ("kept" : Str) (vr 1) (vr 0))
    (sFldS 1 ("scale" : Str) (vr 2) (vr 0))))
def g_Hall_change : List D → M D := runB 3 b_Hall_change

def b_Hall_say : M Fl :=
  (sSeq (sExpr (eCall g_check_closed (aCons (eFld 1 ("kept_tongue" : Str) (vr 0)) (aCons (vr 1) aNil))))
    (sSeq (sIf (tstB (op2 (eqD false) (opC lenD (aCons (eFld 1 ("kept" : Str) (vr 0)) aNil)) (kk (.int (3 : Int)))))
    (sRaise0 2)
    sNx)
    (sExpr (eMeth 1 ("change" : Str) g_Hall_change (vr 0) (aCons (op2 addD (eFld 1 ("kept" : Str) (vr 0)) (eFrz (nLst (aCons (vr 1) aNil)))) (aCons (eFld 1 ("scale" : Str) (vr 0)) aNil))))))
def g_Hall_say : List D → M D := runB 2 b_Hall_say

def b_is_integer : M Fl :=
  (sRet (eAnd (eIsi isa_int (vr 0)) (eNot (eIsi isa_bool (vr 0)))))
def g_is_integer : List D → M D := runB 1 b_is_integer

def b_is_within : M Fl :=
  (sRet (eAnd (eCall g_is_integer (aCons (vr 0) aNil)) (chn (cmpD fun i j => decide (i ≤ j)) (cmpD fun i j => decide (i ≤ j)) (vr 1) (vr 0) (vr 2))))
def g_is_within : List D → M D := runB 3 b_is_within

def b_Hall_drop : M Fl :=
  (sSeq (sIf (mNot (tst (eCall g_is_within (aCons (vr 1) (aCons (kk (.int (0 : Int))) (aCons (op2 subD (opC lenD (aCons (eFld 1 ("kept" : Str) (vr 0)) aNil)) (kk (.int (1 : Int)))) aNil))))))
    (sRaise0 3)
    sNx)
    (sExpr (eMeth 1 ("change" : Str) g_Hall_change (vr 0) (aCons (op2 addD (eSl (eFld 1 ("kept" : Str) (vr 0)) pNo (pSo (vr 1))) (eSl (eFld 1 ("kept" : Str) (vr 0)) (pSo (op2 addD (vr 1) (kk (.int (1 : Int))))) pNo)) (aCons (eFld 1 ("scale" : Str) (vr 0)) aNil)))))
def g_Hall_drop : List D → M D := runB 2 b_Hall_drop

def b_common_divisor : M Fl :=
  (sSeq (sWhile (tstB (op2 (eqD true) (vr 1) (kk (.int (0 : Int)))))
    (sPar 0 1 (aCons (vr 1) (aCons (op2 modD (vr 0) (vr 1)) aNil))))
    (sRet (vr 0)))
def g_common_divisor : List D → M D := runB 2 b_common_divisor

def b_is_fraction : M Fl :=
  (sSeq (sIf (mOr (mNot (tst (eCall g_is_tuple (aCons (vr 0) (aCons (kk (.int (2 : Int))) aNil))))) (mOr (mNot (tst (eCall g_is_integer (aCons (op2 ixD (vr 0) (kk (.int (0 : Int)))) aNil)))) (mOr (mNot (tst (eCall g_is_integer (aCons (op2 ixD (vr 0) (kk (.int (1 : Int)))) aNil)))) (tstB (op2 (cmpD fun i j => decide (i < j)) (op2 ixD (vr 0) (kk (.int (1 : Int)))) (kk (.int (1 : Int))))))))
    (sRet (kk (.bl false)))
    sNx)
    (sRet (op2 (eqD false) (eCall g_common_divisor (aCons (opC absD (aCons (op2 ixD (vr 0) (kk (.int (0 : Int)))) aNil)) (aCons (op2 ixD (vr 0) (kk (.int (1 : Int)))) aNil))) (kk (.int (1 : Int))))))
def g_is_fraction : List D → M D := runB 1 b_is_fraction

def b_is_share : M Fl :=
  (sRet (eAnd (eCall g_is_fraction (aCons (vr 0) aNil)) (op2 (cmpD fun i j => decide (j ≤ i)) (op2 ixD (vr 0) (kk (.int (0 : Int)))) (kk (.int (0 : Int))))))
def g_is_share : List D → M D := runB 1 b_is_share

def b_Hall_weigh : M Fl :=
  (sSeq (sIf (mOr (mNot (tst (eCall g_is_key (aCons (vr 1) (aCons (op2 addD (eProp 0 g_Tongue_marks (eFld 1 ("kept_tongue" : Str) (vr 0))) (eProp 0 g_Tongue_ties (eFld 1 ("kept_tongue" : Str) (vr 0)))) aNil))))) (mNot (tst (eCall g_is_share (aCons (vr 2) aNil)))))
    (sRaise0 4)
    sNx)
    (sSeq (sOwn 3 (nCopy (eFld 1 ("scale" : Str) (vr 0))))
    (sSeq (sSub setD (vr 2) (vr 3) (vr 1))
    (sExpr (eMeth 1 ("change" : Str) g_Hall_change (vr 0) (aCons (eFld 1 ("kept" : Str) (vr 0)) (aCons (vr 3) aNil)))))))
def g_Hall_weigh : List D → M D := runB 4 b_Hall_weigh

def b_Hall_back : M Fl :=
  (sSeq (sIf (tstB (op2 (eqD false) (opC lenD (aCons (eFld 1 ("past" : Str) (vr 0)) aNil)) (kk (.int (0 : Int)))))
    (sRaise0 5)
    sNx)
    (sAsgF 1 (vr 0) [("kept" : Str), ("scale" : Str)] 2 (eMu isLst popD (eFld 1 ("past" : Str) (vr 0)) aNil)))
def g_Hall_back : List D → M D := runB 1 b_Hall_back

def b__law_did : M Fl :=
  (sSeq (sAsg (gN 2) (kk (.str ("ok" : Str))))
    (sSeq (sTry exm_tab (sIf (tstB (op2 (eqD false) (op2 ixD (vr 1) (kk (.int (0 : Int)))) (kk (.str ("say" : Str)))))
    (sAsg (gN 2) (eMeth 1 ("say" : Str) g_Hall_say (vr 0) (aCons (op2 ixD (vr 1) (kk (.int (1 : Int)))) aNil)))
    (sIf (tstB (op2 (eqD false) (op2 ixD (vr 1) (kk (.int (0 : Int)))) (kk (.str ("drop" : Str)))))
    (sAsg (gN 2) (eMeth 1 ("drop" : Str) g_Hall_drop (vr 0) (aCons (op2 ixD (vr 1) (kk (.int (1 : Int)))) aNil)))
    (sIf (tstB (op2 (eqD false) (op2 ixD (vr 1) (kk (.int (0 : Int)))) (kk (.str ("weigh" : Str)))))
    (sAsg (gN 2) (eMeth 1 ("weigh" : Str) g_Hall_weigh (vr 0) (aCons (op2 ixD (vr 1) (kk (.int (1 : Int)))) (aCons (op2 ixD (vr 1) (kk (.int (2 : Int)))) aNil))))
    (sAsg (gN 2) (eMeth 1 ("back" : Str) g_Hall_back (vr 0) aNil)))))
    [(2, (sAsg (gN 2) (kk (.str ("many" : Str))))), (3, (sAsg (gN 2) (kk (.str ("said" : Str))))), (4, (sAsg (gN 2) (kk (.str ("weights" : Str))))), (5, (sAsg (gN 2) (kk (.str ("undo" : Str)))))])
    (sRet (vr 2))))
def g__law_did : List D → M D := runB 3 b__law_did

def b_Hall_scales : M Fl :=
  (sRet (ePtr (nCopy (eFld 1 ("scale" : Str) (vr 0)))))
def g_Hall_scales : List D → M D := runB 1 b_Hall_scales

def b_Tongue___eq__ : M Fl :=
  (sSeq (sIf (mNot (tst (eIsi isa_own_Tongue (vr 1))))
    (sRet (kk (.bl false)))
    sNx)
    (sRet (eAnd (op2 (eqD false) (eProp 0 g_Tongue_marks (vr 0)) (eProp 0 g_Tongue_marks (vr 1))) (eAnd (op2 (eqD false) (eProp 0 g_Tongue_ties (vr 0)) (eProp 0 g_Tongue_ties (vr 1))) (op2 (eqD false) (eFld 0 ("functions" : Str) (vr 0)) (eFld 0 ("functions" : Str) (vr 1)))))))
def g_Tongue___eq__ : List D → M D := runB 2 b_Tongue___eq__

def b__law_quantor : M Fl :=
  (sRet (op2 ixD (eFrz (nLst (aCons (kk (.str ("each" : Str))) (aCons (kk (.str ("some" : Str))) aNil)))) (eCall g__law_draw (aCons (vr 0) (aCons (kk (.int (2 : Int))) aNil)))))
def g__law_quantor : List D → M D := runB 1 b__law_quantor

def b__law_test : M Fl :=
  (sSeq (sAsg (gT (gsC (gN 6) (gsC (gN 7) (gsC (gN 8) gsN))) 3) (vr 1))
    (sSeq (sAsg (gN 3) (op2 ixD (vr 2) (eCall g__law_draw (aCons (vr 0) (aCons (opC lenD (aCons (vr 2) aNil)) aNil)))))
    (sSeq (sAsg (gN 4) (op2 ixD (vr 2) (eCall g__law_draw (aCons (vr 0) (aCons (opC lenD (aCons (vr 2) aNil)) aNil)))))
    (sSeq (sAsg (gN 5) (eCall g__law_draw (aCons (vr 0) (aCons (kk (.int (8 : Int))) aNil))))
    (sSeq (sIf (mAnd (tstB (op2 (cmpD fun i j => decide (i < j)) (vr 5) (kk (.int (3 : Int))))) (tstB (op2 (cmpD fun i j => decide (j < i)) (opC lenD (aCons (vr 6) aNil)) (kk (.int (0 : Int))))))
    (sRet (eTup (aCons (kk (.str ("mark" : Str))) (aCons (op2 ixD (vr 6) (eCall g__law_draw (aCons (vr 0) (aCons (opC lenD (aCons (vr 6) aNil)) aNil)))) (aCons (vr 3) aNil)))))
    sNx)
    (sSeq (sIf (mAnd (tstB (op2 (cmpD fun i j => decide (i < j)) (vr 5) (kk (.int (6 : Int))))) (tstB (op2 (cmpD fun i j => decide (j < i)) (opC lenD (aCons (vr 7) aNil)) (kk (.int (0 : Int))))))
    (sRet (eTup (aCons (kk (.str ("tie" : Str))) (aCons (op2 ixD (vr 7) (eCall g__law_draw (aCons (vr 0) (aCons (opC lenD (aCons (vr 7) aNil)) aNil)))) (aCons (vr 3) (aCons (vr 4) aNil))))))
    sNx)
    (sSeq (sIf (mAnd (tstB (op2 (eqD false) (vr 5) (kk (.int (6 : Int))))) (tstB (op2 (cmpD fun i j => decide (j < i)) (opC lenD (aCons (vr 2) aNil)) (kk (.int (1 : Int))))))
    (sRet (eTup (aCons (kk (.str ("same" : Str))) (aCons (vr 3) (aCons (vr 4) aNil)))))
    sNx)
    (sSeq (sIf (tstB (op2 (eqD false) (vr 5) (kk (.int (7 : Int)))))
    (sRet (eTup (aCons (kk (.str ("true" : Str))) aNil)))
    sNx)
    (sSeq (sIf (tstB (op2 (cmpD fun i j => decide (j < i)) (opC lenD (aCons (vr 6) aNil)) (kk (.int (0 : Int)))))
    (sRet (eTup (aCons (kk (.str ("mark" : Str))) (aCons (op2 ixD (vr 6) (kk (.int (0 : Int)))) (aCons (vr 3) aNil)))))
    sNx)
    (sSeq (sIf (tstB (op2 (cmpD fun i j => decide (j < i)) (opC lenD (aCons (vr 7) aNil)) (kk (.int (0 : Int)))))
    (sRet (eTup (aCons (kk (.str ("tie" : Str))) (aCons (op2 ixD (vr 7) (kk (.int (0 : Int)))) (aCons (vr 3) (aCons (vr 4) aNil))))))
    sNx)
    (sRet (eTup (aCons (kk (.str ("same" : Str))) (aCons (vr 3) (aCons (vr 4) aNil)))))))))))))))
def g__law_test : List D → M D := runB 9 b__law_test

def b__law_matrix (G__law_matrix : List D → M D) : M Fl :=
  (sSeq (sAsg (gN 4) (eCall g__law_draw (aCons (vr 0) (aCons (kk (.int (6 : Int))) aNil))))
    (sSeq (sIf (mOr (tstB (op2 (eqD false) (vr 3) (kk (.int (0 : Int))))) (tstB (op2 (cmpD fun i j => decide (i < j)) (vr 4) (kk (.int (2 : Int))))))
    (sRet (eCall g__law_test (aCons (vr 0) (aCons (vr 1) (aCons (vr 2) aNil)))))
    sNx)
    (sSeq (sIf (tstB (op2 (eqD false) (vr 4) (kk (.int (2 : Int)))))
    (sRet (eTup (aCons (kk (.str ("not" : Str))) (aCons (eCall (G__law_matrix) (aCons (vr 0) (aCons (vr 1) (aCons (vr 2) (aCons (op2 subD (vr 3) (kk (.int (1 : Int)))) aNil))))) aNil))))
    sNx)
    (sSeq (sAsg (gN 5) (eCall (G__law_matrix) (aCons (vr 0) (aCons (vr 1) (aCons (vr 2) (aCons (op2 subD (vr 3) (kk (.int (1 : Int)))) aNil))))))
    (sRet (eTup (aCons (op2 ixD (eFrz (nLst (aCons (kk (.str ("and" : Str))) (aCons (kk (.str ("or" : Str))) (aCons (kk (.str ("or" : Str))) aNil))))) (op2 subD (vr 4) (kk (.int (3 : Int))))) (aCons (vr 5) (aCons (eCall (G__law_matrix) (aCons (vr 0) (aCons (vr 1) (aCons (vr 2) (aCons (op2 subD (vr 3) (kk (.int (1 : Int)))) aNil))))) aNil)))))))))
def g__law_matrix : Nat → List D → M D
  | 0 => fun _ => stk
  | n + 1 => runB 6 (b__law_matrix (g__law_matrix n))

def b__law_one : M Fl :=
  (sSeq (sAsg (gN 4) (op2 ixD (eFrz (nLst (aCons (kk (.str ("x" : Str))) (aCons (kk (.str ("y" : Str))) aNil)))) (opC intD (aCons (op2 (eqD false) (vr 2) (kk (.str ("x" : Str)))) aNil))))
    (sSeq (sIf (mOr (tstB (op2 (eqD false) (vr 3) (kk (.int (0 : Int))))) (tstB (op2 (eqD false) (eCall g__law_draw (aCons (vr 0) (aCons (kk (.int (5 : Int))) aNil))) (kk (.int (0 : Int))))))
    (sRet (eCall (g__law_matrix 5) (aCons (vr 0) (aCons (vr 1) (aCons (eFrz (nLst (aCons (vr 2) aNil))) (aCons (kk (.int (2 : Int))) aNil))))))
    sNx)
    (sSeq (sAsg (gN 5) (eCall (g__law_matrix 5) (aCons (vr 0) (aCons (vr 1) (aCons (eFrz (nLst (aCons (vr 2) (aCons (vr 4) aNil)))) (aCons (kk (.int (2 : Int))) aNil))))))
    (sSeq (sIf (mAnd (tstB (op2 (cmpD fun i j => decide (j < i)) (vr 3) (kk (.int (1 : Int))))) (tstB (op2 (cmpD fun i j => decide (j < i)) (eCall g__law_draw (aCons (vr 0) (aCons (kk (.int (3 : Int))) aNil))) (kk (.int (0 : Int))))))
    (sSeq (sAsg (gN 6) (eTup (aCons (eCall g__law_quantor (aCons (vr 0) aNil)) (aCons (vr 2) (aCons (eCall (g__law_matrix 5) (aCons (vr 0) (aCons (vr 1) (aCons (eFrz (nLst (aCons (vr 2) (aCons (vr 4) aNil)))) (aCons (kk (.int (1 : Int))) aNil))))) aNil)))))
    (sAsg (gN 5) (eTup (aCons (op2 ixD (eFrz (nLst (aCons (kk (.str ("and" : Str))) (aCons (kk (.str ("or" : Str))) aNil)))) (eCall g__law_draw (aCons (vr 0) (aCons (kk (.int (2 : Int))) aNil)))) (aCons (vr 5) (aCons (vr 6) aNil))))))
    sNx)
    (sSeq (sAsg (gN 5) (eTup (aCons (eCall g__law_quantor (aCons (vr 0) aNil)) (aCons (vr 4) (aCons (vr 5) aNil)))))
    (sSeq (sIf (tstB (op2 (eqD false) (eCall g__law_draw (aCons (vr 0) (aCons (kk (.int (2 : Int))) aNil))) (kk (.int (0 : Int)))))
    (sRet (vr 5))
    sNx)
    (sSeq (sIf (tstB (op2 (eqD false) (eCall g__law_draw (aCons (vr 0) (aCons (kk (.int (4 : Int))) aNil))) (kk (.int (0 : Int)))))
    (sAsg (gN 5) (eTup (aCons (kk (.str ("not" : Str))) (aCons (vr 5) aNil))))
    sNx)
    (sRet (eTup (aCons (op2 ixD (eFrz (nLst (aCons (kk (.str ("and" : Str))) (aCons (kk (.str ("or" : Str))) aNil)))) (eCall g__law_draw (aCons (vr 0) (aCons (kk (.int (2 : Int))) aNil)))) (aCons (eCall (g__law_matrix 5) (aCons (vr 0) (aCons (vr 1) (aCons (eFrz (nLst (aCons (vr 2) aNil))) (aCons (kk (.int (1 : Int))) aNil))))) (aCons (vr 5) aNil))))))))))))
def g__law_one : List D → M D := runB 7 b__law_one

def b__law_closed (G__law_closed : List D → M D) : M Fl :=
  (sSeq (sAsg (gN 4) (eCall g__law_draw (aCons (vr 0) (aCons (kk (.int (7 : Int))) aNil))))
    (sSeq (sIf (mAnd (tstB (op2 (eqD false) (vr 4) (kk (.int (0 : Int))))) (tstB (op2 (cmpD fun i j => decide (j < i)) (vr 3) (kk (.int (0 : Int))))))
    (sRet (eTup (aCons (kk (.str ("not" : Str))) (aCons (eCall (G__law_closed) (aCons (vr 0) (aCons (vr 1) (aCons (vr 2) (aCons (op2 subD (vr 3) (kk (.int (1 : Int)))) aNil))))) aNil))))
    sNx)
    (sSeq (sIf (mAnd (tstB (op2 (cmpD fun i j => decide (i < j)) (vr 4) (kk (.int (3 : Int))))) (tstB (op2 (cmpD fun i j => decide (j < i)) (vr 3) (kk (.int (0 : Int))))))
    (sSeq (sAsg (gN 6) (eCall (G__law_closed) (aCons (vr 0) (aCons (vr 1) (aCons (op2 fdivD (vr 2) (kk (.int (2 : Int)))) (aCons (op2 subD (vr 3) (kk (.int (1 : Int)))) aNil))))))
    (sRet (eTup (aCons (op2 ixD (eFrz (nLst (aCons (kk (.str ("and" : Str))) (aCons (kk (.str ("or" : Str))) aNil)))) (eCall g__law_draw (aCons (vr 0) (aCons (kk (.int (2 : Int))) aNil)))) (aCons (vr 6) (aCons (eCall (G__law_closed) (aCons (vr 0) (aCons (vr 1) (aCons (op2 subD (vr 2) (op2 fdivD (vr 2) (kk (.int (2 : Int))))) (aCons (kk (.int (0 : Int))) aNil))))) aNil))))))
    sNx)
    (sSeq (sAsg (gN 5) (op2 ixD (eFrz (nLst (aCons (kk (.str ("x" : Str))) (aCons (kk (.str ("y" : Str))) aNil)))) (eCall g__law_draw (aCons (vr 0) (aCons (kk (.int (2 : Int))) aNil)))))
    (sRet (eTup (aCons (eCall g__law_quantor (aCons (vr 0) aNil)) (aCons (vr 5) (aCons (eCall g__law_one (aCons (vr 0) (aCons (vr 1) (aCons (vr 5) (aCons (vr 2) aNil))))) aNil)))))))))
def g__law_closed : Nat → List D → M D
  | 0 => fun _ => stk
  | n + 1 => runB 7 (b__law_closed (g__law_closed n))

def b__law_free (G__law_free : List D → M D) : M Fl :=
  (sSeq (sIf (tstB (op2 (eqD false) (op2 ixD (vr 0) (kk (.int (0 : Int)))) (kk (.str ("mark" : Str)))))
    (sRet (eFrz (nLst (aCons (op2 ixD (vr 0) (kk (.int (2 : Int)))) aNil))))
    sNx)
    (sSeq (sIf (tstB (op2 (inD false) (op2 ixD (vr 0) (kk (.int (0 : Int)))) (eFrz (nLst (aCons (kk (.str ("tie" : Str))) (aCons (kk (.str ("same" : Str))) aNil))))))
    (sRet (eFrz (nLc (iSeq (eFrz (nLst (aCons (kk (.str ("x" : Str))) (aCons (kk (.str ("y" : Str))) aNil))))) (gN 4) (tstB (op2 (inD false) (vr 4) (eSl (vr 0) (pSo (op2 subD (opC lenD (aCons (vr 0) aNil)) (kk (.int (2 : Int))))) pNo))) (vr 4) [4])))
    sNx)
    (sSeq (sAsg (gN 1) (eFrz (nLst aNil)))
    (sSeq (sFor (iSeq (eSl (vr 0) (pSo (kk (.int (1 : Int)))) pNo)) (gN 2)
    (sIf (tst (eIsi isa_tuple (vr 2)))
    (sSeq (sAsg (gN 3) (eCall (G__law_free) (aCons (vr 2) aNil)))
    (sSeq (sIf (tstB (op2 (inD false) (op2 ixD (vr 0) (kk (.int (0 : Int)))) (eFrz (nLst (aCons (kk (.str ("each" : Str))) (aCons (kk (.str ("some" : Str))) aNil))))))
    (sAsg (gN 3) (eFrz (nLc (iSeq (vr 3)) (gN 4) (tstB (op2 (eqD true) (vr 4) (op2 ixD (vr 0) (kk (.int (1 : Int)))))) (vr 4) [4])))
    sNx)
    (sAsg (gN 1) (op2 addD (vr 1) (vr 3)))))
    sNx))
    (sRet (eFrz (nLc (iSeq (eFrz (nLst (aCons (kk (.str ("x" : Str))) (aCons (kk (.str ("y" : Str))) aNil))))) (gN 4) (tstB (op2 (inD false) (vr 4) (vr 1))) (vr 4) [4])))))))
def g__law_free : Nat → List D → M D
  | 0 => fun _ => stk
  | n + 1 => runB 5 (b__law_free (g__law_free n))

def b__law_places (G__law_places : List D → M D) : M Fl :=
  (sSeq (sAsg (gN 1) (kk (.int (0 : Int))))
    (sSeq (sAsg (gN 2) (kk (.int (0 : Int))))
    (sSeq (sIf (tstB (op2 (inD false) (op2 ixD (vr 0) (kk (.int (0 : Int)))) (eFrz (nLst (aCons (kk (.str ("each" : Str))) (aCons (kk (.str ("some" : Str))) aNil))))))
    (sIf (tstB (op2 (eqD false) (opC lenD (aCons (eCall (g__law_free 24) (aCons (vr 0) aNil)) aNil)) (kk (.int (0 : Int)))))
    (sAsg (gN 2) (kk (.int (1 : Int))))
    (sAsg (gN 1) (kk (.int (1 : Int)))))
    sNx)
    (sSeq (sFor (iSeq (eSl (vr 0) (pSo (kk (.int (1 : Int)))) pNo)) (gN 3)
    (sIf (tst (eIsi isa_tuple (vr 3)))
    (sSeq (sAsg (gN 4) (eCall (G__law_places) (aCons (vr 3) aNil)))
    (sSeq (sAsg (gN 1) (op2 addD (vr 1) (op2 ixD (vr 4) (kk (.int (0 : Int))))))
    (sAsg (gN 2) (op2 addD (vr 2) (op2 ixD (vr 4) (kk (.int (1 : Int))))))))
    sNx))
    (sRet (eTup (aCons (vr 1) (aCons (vr 2) aNil))))))))
def g__law_places : Nat → List D → M D
  | 0 => fun _ => stk
  | n + 1 => runB 5 (b__law_places (g__law_places n))

def b__law_said : M Fl :=
  (sSeq (sFor (iRng1 (aCons (kk (.int (4 : Int))) aNil)) (gN 3)
    (sSeq (sAsg (gN 4) (eCall (g__law_closed 4) (aCons (vr 0) (aCons (vr 1) (aCons (vr 2) (aCons (kk (.int (1 : Int))) aNil))))))
    (sSeq (sAsg (gN 5) (eCall (g__law_places 24) (aCons (vr 4) aNil)))
    (sIf (mAnd (tstB (op2 (cmpD fun i j => decide (i ≤ j)) (op2 ixD (vr 5) (kk (.int (0 : Int)))) (vr 2))) (tstB (op2 (cmpD fun i j => decide (i ≤ j)) (op2 ixD (vr 5) (kk (.int (1 : Int)))) (kk (.int (3 : Int))))))
    (sRet (vr 4))
    sNx))))
    (sRet (eTup (aCons (eCall g__law_quantor (aCons (vr 0) aNil)) (aCons (kk (.str ("x" : Str))) (aCons (eCall g__law_test (aCons (vr 0) (aCons (vr 1) (aCons (eFrz (nLst (aCons (kk (.str ("x" : Str))) aNil))) aNil)))) aNil))))))
def g__law_said : List D → M D := runB 6 b__law_said

def b_Hall_said : M Fl :=
  (sRet (ePtr (nC listD (aCons (eFld 1 ("kept" : Str) (vr 0)) aNil))))
def g_Hall_said : List D → M D := runB 1 b_Hall_said

def b_Hall_depth : M Fl :=
  (sRet (opC lenD (aCons (eFld 1 ("past" : Str) (vr 0)) aNil)))
def g_Hall_depth : List D → M D := runB 1 b_Hall_depth

def b_Hall_language : M Fl :=
  (sRet (eFld 1 ("kept_tongue" : Str) (vr 0)))
def g_Hall_language : List D → M D := runB 1 b_Hall_language

def b_law : M Fl :=
  (sSeq (sAsg (gN 1) (eCall g__law_pool (aCons (vr 0) aNil)))
    (sSeq (sAsg (gN 2) (eCall g__law_small_shape (aCons (vr 1) aNil)))
    (sSeq (sAsg (gN 3) (eCall g__law_tongue (aCons (vr 2) aNil)))
    (sSeq (sAsg (gN 4) (ePtr (nMake g_Hall___init__ (aCons (vr 3) aNil))))
    (sSeq (sAsg (gN 5) (eFrz (nC listD (aCons (op2 addD (op2 ixD (vr 2) (kk (.int (0 : Int)))) (op2 ixD (vr 2) (kk (.int (1 : Int))))) aNil))))
    (sSeq (sAsg (gN 6) (ePtr (nLst (aCons (eTup (aCons (eFrz (nLst aNil)) (aCons (eFrz (ret (.dic []))) aNil))) aNil))))
    (sSeq (sFor (iRng1 (aCons (op2 addD (kk (.int (4 : Int))) (eCall g__law_draw (aCons (vr 1) (aCons (kk (.int (21 : Int))) aNil)))) aNil)) (gN 7)
    (sSeq (sAsg (gN 8) (eCall g__law_draw (aCons (vr 1) (aCons (kk (.int (5 : Int))) aNil))))
    (sSeq (sAsg (gN 9) (eTup (aCons (kk (.str ("back" : Str))) aNil)))
    (sSeq (sIf (tstB (op2 (cmpD fun i j => decide (i < j)) (vr 8) (kk (.int (2 : Int)))))
    (sSeq (sAsg (gN 9) (eTup (aCons (kk (.str ("say" : Str))) (aCons (eCall g__law_said (aCons (vr 1) (aCons (vr 2) (aCons (kk (.int (1 : Int))) aNil)))) aNil))))
    (sIf (tstB (op2 (eqD false) (eCall g__law_draw (aCons (vr 1) (aCons (kk (.int (6 : Int))) aNil))) (kk (.int (0 : Int)))))
    (sAsg (gN 9) (eTup (aCons (kk (.str ("say" : Str))) (aCons (eTup (aCons (kk (.str ("each" : Str))) (aCons (kk (.str ("x" : Str))) (aCons (eTup (aCons (kk (.str ("and" : Str))) (aCons (eCall g__law_one (aCons (vr 1) (aCons (vr 2) (aCons (kk (.str ("x" : Str))) (aCons (kk (.int (2 : Int))) aNil))))) (aCons (eCall g__law_one (aCons (vr 1) (aCons (vr 2) (aCons (kk (.str ("x" : Str))) (aCons (kk (.int (2 : Int))) aNil))))) aNil)))) aNil)))) aNil))))
    sNx))
    (sIf (tstB (op2 (eqD false) (vr 8) (kk (.int (2 : Int)))))
    (sAsg (gN 9) (eTup (aCons (kk (.str ("drop" : Str))) (aCons (op2 ixD (eFrz (nLst (aCons (kk (.int (0 : Int))) (aCons (kk (.int (1 : Int))) (aCons (kk (.int (2 : Int))) (aCons (op1 negD (kk (.int (1 : Int)))) (aCons (kk (.int (3 : Int))) (aCons (op2 powD (kk (.int (10 : Int))) (kk (.int (20 : Int)))) aNil)))))))) (eCall g__law_draw (aCons (vr 1) (aCons (kk (.int (6 : Int))) aNil)))) aNil))))
    (sIf (tstB (op2 (eqD false) (vr 8) (kk (.int (3 : Int)))))
    (sSeq (sAsg (gN 13) (eFrz (nLst (aCons (eTup (aCons (kk (.int (1 : Int))) (aCons (kk (.int (2 : Int))) aNil))) (aCons (eTup (aCons (kk (.int (3 : Int))) (aCons (kk (.int (1 : Int))) aNil))) (aCons (eTup (aCons (kk (.int (0 : Int))) (aCons (kk (.int (1 : Int))) aNil))) (aCons (eTup (aCons (kk (.int (5 : Int))) (aCons (kk (.int (4 : Int))) aNil))) (aCons (eTup (aCons (kk (.int (2 : Int))) (aCons (kk (.int (4 : Int))) aNil))) (aCons (eTup (aCons (op1 negD (kk (.int (1 : Int)))) (aCons (kk (.int (2 : Int))) aNil))) (aCons (eTup (aCons (kk (.int (1 : Int))) (aCons (kk (.int (0 : Int))) aNil))) aNil))))))))))
    (sAsg (gN 9) (eTup (aCons (kk (.str ("weigh" : Str))) (aCons (op2 ixD (op2 addD (vr 5) (eFrz (nLst (aCons (kk (.str ("spares" : Str))) aNil)))) (eCall g__law_draw (aCons (vr 1) (aCons (op2 addD (opC lenD (aCons (vr 5) aNil)) (kk (.int (1 : Int)))) aNil)))) (aCons (op2 ixD (vr 13) (eCall g__law_draw (aCons (vr 1) (aCons (kk (.int (7 : Int))) aNil)))) aNil))))))
    sNx)))
    (sSeq (sAsg (gN 10) (eCall g__law_due (aCons (vr 6) (aCons (vr 9) (aCons (vr 5) aNil)))))
    (sSeq (sAsg (gN 11) (eCall g__law_did (aCons (vr 4) (aCons (vr 9) aNil))))
    (sSeq (sIf (mOr (tstB (op2 (eqD true) (vr 11) (vr 10))) (mOr (tstB (op2 (eqD true) (eMeth 1 ("said" : Str) g_Hall_said (vr 4) aNil) (op2 ixD (op2 ixD (vr 6) (op1 negD (kk (.int (1 : Int))))) (kk (.int (0 : Int)))))) (mOr (tstB (op2 (eqDD false) (eMeth 1 ("scales" : Str) g_Hall_scales (vr 4) aNil) (op2 ixD (op2 ixD (vr 6) (op1 negD (kk (.int (1 : Int))))) (kk (.int (1 : Int)))))) (tstB (op2 (eqD true) (eMeth 1 ("depth" : Str) g_Hall_depth (vr 4) aNil) (op2 subD (opC lenD (aCons (vr 6) aNil)) (kk (.int (1 : Int)))))))))
    (sRet (kk (.bl false)))
    sNx)
    (sSeq (sExpr (eMu isLst appD (eMeth 1 ("said" : Str) g_Hall_said (vr 4) aNil) (aCons (kk .non) aNil)))
    (sSeq (sAsg (gN 12) (eMeth 1 ("scales" : Str) g_Hall_scales (vr 4) aNil))
    (sSeq (sSub setD (kk .non) (vr 12) (kk (.str ("spares" : Str))))
    (sIf (mOr (tstB (op2 (eqD true) (eMeth 1 ("said" : Str) g_Hall_said (vr 4) aNil) (op2 ixD (op2 ixD (vr 6) (op1 negD (kk (.int (1 : Int))))) (kk (.int (0 : Int)))))) (mOr (tstB (op2 (eqDD false) (eMeth 1 ("scales" : Str) g_Hall_scales (vr 4) aNil) (op2 ixD (op2 ixD (vr 6) (op1 negD (kk (.int (1 : Int))))) (kk (.int (1 : Int)))))) (tstB (eNeO 0 g_Tongue___eq__ (eMeth 1 ("language" : Str) g_Hall_language (vr 4) aNil) (vr 3)))))
    (sRet (kk (.bl false)))
    sNx)))))))))))
    (sRet (kk (.bl true))))))))))
def g_law : List D → M D := runB 14 b_law

end Mi


namespace Mi
open PySem PySem.Spec PyProof.Rows L2
def topS (i : Nat) : Stmt := PySem.Challenge.pw_pairsayings_k75_whole_halls_by_own_rows.main.body.getD i (.Pass ⟨0, 0, 0, 0⟩)
abbrev s__law_pool : Stmt := topS 53
abbrev s__law_draw : Stmt := topS 54
abbrev s__law_names : Stmt := topS 55
abbrev s__law_shape : Stmt := topS 56
abbrev s__law_small_shape : Stmt := topS 66
abbrev s_is_sequence : Stmt := topS 16
abbrev s_is_word : Stmt := topS 17
abbrev s_are_names : Stmt := topS 49
abbrev s_is_key : Stmt := topS 20
abbrev s_are_functions : Stmt := topS 50
abbrev s_Tongue___init__ : Stmt := inClass (topS 51) 0
abbrev s__law_tongue : Stmt := topS 57
abbrev s_check_plain : Stmt := topS 37
abbrev s_Hall___init__ : Stmt := inClass (topS 44) 0
abbrev s__law_due : Stmt := topS 68
abbrev s_is_tuple : Stmt := topS 18
abbrev s_is_headed : Stmt := topS 19
abbrev s_is_name : Stmt := topS 27
abbrev s_Tongue_marks : Stmt := inClass (topS 51) 1
abbrev s_Tongue_ties : Stmt := inClass (topS 51) 2
abbrev s_is_test : Stmt := topS 28
abbrev s_parts_of : Stmt := topS 29
abbrev s_is_saying : Stmt := topS 30
abbrev s_check_saying : Stmt := topS 34
abbrev s_own_names : Stmt := topS 32
abbrev s_sayings_in : Stmt := topS 31
abbrev s_free_names : Stmt := topS 33
abbrev s_check_closed : Stmt := topS 35
abbrev s_Hall_change : Stmt := inClass (topS 44) 5
abbrev s_Hall_say : Stmt := inClass (topS 44) 6
abbrev s_is_integer : Stmt := topS 14
abbrev s_is_within : Stmt := topS 15
abbrev s_Hall_drop : Stmt := inClass (topS 44) 7
abbrev s_common_divisor : Stmt := topS 39
abbrev s_is_fraction : Stmt := topS 40
abbrev s_is_share : Stmt := topS 41
abbrev s_Hall_weigh : Stmt := inClass (topS 44) 8
abbrev s_Hall_back : Stmt := inClass (topS 44) 11
abbrev s__law_did : Stmt := topS 67
abbrev s_Hall_scales : Stmt := inClass (topS 44) 3
abbrev s_Tongue___eq__ : Stmt := inClass (topS 51) 3
abbrev s__law_quantor : Stmt := topS 60
abbrev s__law_test : Stmt := topS 58
abbrev s__law_matrix : Stmt := topS 59
abbrev s__law_one : Stmt := topS 61
abbrev s__law_closed : Stmt := topS 62
abbrev s__law_free : Stmt := topS 63
abbrev s__law_places : Stmt := topS 64
abbrev s__law_said : Stmt := topS 65
abbrev s_Hall_said : Stmt := inClass (topS 44) 2
abbrev s_Hall_depth : Stmt := inClass (topS 44) 4
abbrev s_Hall_language : Stmt := inClass (topS 44) 1
abbrev s_law : Stmt := topS 69
structure Ad where
  (f__law_pool : Addr)
  (f__law_draw : Addr)
  (f__law_names : Addr)
  (f__law_shape : Addr)
  (f__law_small_shape : Addr)
  (f_is_sequence : Addr)
  (f_is_word : Addr)
  (f_are_names : Addr)
  (f_is_key : Addr)
  (f_are_functions : Addr)
  (f_Tongue___init__ : Addr)
  (f__law_tongue : Addr)
  (f_check_plain : Addr)
  (f_Hall___init__ : Addr)
  (f__law_due : Addr)
  (f_is_tuple : Addr)
  (f_is_headed : Addr)
  (f_is_name : Addr)
  (f_Tongue_marks : Addr)
  (f_Tongue_ties : Addr)
  (f_is_test : Addr)
  (f_parts_of : Addr)
  (f_is_saying : Addr)
  (f_check_saying : Addr)
  (f_own_names : Addr)
  (f_sayings_in : Addr)
  (f_free_names : Addr)
  (f_check_closed : Addr)
  (f_Hall_change : Addr)
  (f_Hall_say : Addr)
  (f_is_integer : Addr)
  (f_is_within : Addr)
  (f_Hall_drop : Addr)
  (f_common_divisor : Addr)
  (f_is_fraction : Addr)
  (f_is_share : Addr)
  (f_Hall_weigh : Addr)
  (f_Hall_back : Addr)
  (f__law_did : Addr)
  (f_Hall_scales : Addr)
  (f_Tongue___eq__ : Addr)
  (f__law_quantor : Addr)
  (f__law_test : Addr)
  (f__law_matrix : Addr)
  (f__law_one : Addr)
  (f__law_closed : Addr)
  (f__law_free : Addr)
  (f__law_places : Addr)
  (f__law_said : Addr)
  (f_Hall_said : Addr)
  (f_Hall_depth : Addr)
  (f_Hall_language : Addr)
  (f_law : Addr)
  (p_Tongue_marks : Addr)
  (p_Tongue_ties : Addr)
  (c_NAMES : Addr)
  (c_BINDING : Addr)
  (c_JOINING : Addr)
  (c_KEPT_WORDS : Addr)
structure Txt (A : Ad) (K : PySem.W.Frag) (w : World) (mg : Str → Option Value) (ca : Nat → Addr) : Prop where
  b_abs : mg "abs" = none
  b_bool : mg "bool" = none
  b_int : mg "int" = none
  b_isinstance : mg "isinstance" = none
  b_len : mg "len" = none
  b_list : mg "list" = none
  b_range : mg "range" = none
  b_str : mg "str" = none
  b_sum : mg "sum" = none
  b_tuple : mg "tuple" = none
  g__law_pool : mg "_law_pool" = some (.ref A.f__law_pool)
  g__law_draw : mg "_law_draw" = some (.ref A.f__law_draw)
  g__law_names : mg "_law_names" = some (.ref A.f__law_names)
  g__law_shape : mg "_law_shape" = some (.ref A.f__law_shape)
  g__law_small_shape : mg "_law_small_shape" = some (.ref A.f__law_small_shape)
  g_is_sequence : mg "is_sequence" = some (.ref A.f_is_sequence)
  g_is_word : mg "is_word" = some (.ref A.f_is_word)
  g_are_names : mg "are_names" = some (.ref A.f_are_names)
  g_is_key : mg "is_key" = some (.ref A.f_is_key)
  g_are_functions : mg "are_functions" = some (.ref A.f_are_functions)
  g__law_tongue : mg "_law_tongue" = some (.ref A.f__law_tongue)
  g_check_plain : mg "check_plain" = some (.ref A.f_check_plain)
  g__law_due : mg "_law_due" = some (.ref A.f__law_due)
  g_is_tuple : mg "is_tuple" = some (.ref A.f_is_tuple)
  g_is_headed : mg "is_headed" = some (.ref A.f_is_headed)
  g_is_name : mg "is_name" = some (.ref A.f_is_name)
  g_is_test : mg "is_test" = some (.ref A.f_is_test)
  g_parts_of : mg "parts_of" = some (.ref A.f_parts_of)
  g_is_saying : mg "is_saying" = some (.ref A.f_is_saying)
  g_check_saying : mg "check_saying" = some (.ref A.f_check_saying)
  g_own_names : mg "own_names" = some (.ref A.f_own_names)
  g_sayings_in : mg "sayings_in" = some (.ref A.f_sayings_in)
  g_free_names : mg "free_names" = some (.ref A.f_free_names)
  g_check_closed : mg "check_closed" = some (.ref A.f_check_closed)
  g_is_integer : mg "is_integer" = some (.ref A.f_is_integer)
  g_is_within : mg "is_within" = some (.ref A.f_is_within)
  g_common_divisor : mg "common_divisor" = some (.ref A.f_common_divisor)
  g_is_fraction : mg "is_fraction" = some (.ref A.f_is_fraction)
  g_is_share : mg "is_share" = some (.ref A.f_is_share)
  g__law_did : mg "_law_did" = some (.ref A.f__law_did)
  g__law_quantor : mg "_law_quantor" = some (.ref A.f__law_quantor)
  g__law_test : mg "_law_test" = some (.ref A.f__law_test)
  g__law_matrix : mg "_law_matrix" = some (.ref A.f__law_matrix)
  g__law_one : mg "_law_one" = some (.ref A.f__law_one)
  g__law_closed : mg "_law_closed" = some (.ref A.f__law_closed)
  g__law_free : mg "_law_free" = some (.ref A.f__law_free)
  g__law_places : mg "_law_places" = some (.ref A.f__law_places)
  g__law_said : mg "_law_said" = some (.ref A.f__law_said)
  g_law : mg "law" = some (.ref A.f_law)
  g_Tongue : mg "Tongue" = some (.ref (ca 0))
  cl_Tongue : Cls K (ca 0)
  mk_Tongue : Mk K (ca 0) A.f_Tongue___init__
  na_Tongue_functions : NoAttr K (ca 0) "functions"
  na_Tongue_kept_marks : NoAttr K (ca 0) "kept_marks"
  na_Tongue_kept_ties : NoAttr K (ca 0) "kept_ties"
  pr_Tongue_marks : PropOf K (ca 0) "marks" A.p_Tongue_marks A.f_Tongue_marks
  pr_Tongue_ties : PropOf K (ca 0) "ties" A.p_Tongue_ties A.f_Tongue_ties
  me_Tongue___eq__ : Meth K (ca 0) "__eq__" A.f_Tongue___eq__
  g_Hall : mg "Hall" = some (.ref (ca 1))
  cl_Hall : Cls K (ca 1)
  mk_Hall : Mk K (ca 1) A.f_Hall___init__
  na_Hall_kept : NoAttr K (ca 1) "kept"
  na_Hall_kept_tongue : NoAttr K (ca 1) "kept_tongue"
  na_Hall_past : NoAttr K (ca 1) "past"
  na_Hall_scale : NoAttr K (ca 1) "scale"
  me_Hall_change : Meth K (ca 1) "change" A.f_Hall_change
  me_Hall_say : Meth K (ca 1) "say" A.f_Hall_say
  me_Hall_drop : Meth K (ca 1) "drop" A.f_Hall_drop
  me_Hall_weigh : Meth K (ca 1) "weigh" A.f_Hall_weigh
  me_Hall_back : Meth K (ca 1) "back" A.f_Hall_back
  me_Hall_scales : Meth K (ca 1) "scales" A.f_Hall_scales
  me_Hall_said : Meth K (ca 1) "said" A.f_Hall_said
  me_Hall_depth : Meth K (ca 1) "depth" A.f_Hall_depth
  me_Hall_language : Meth K (ca 1) "language" A.f_Hall_language
  cf_Tongue : ClF K (ca 0)
  eo_Tongue : EqOwn K (ca 0) A.f_Tongue___eq__
  gx_TooMany : mg "TooMany" = some (.ref (ca 2))
  x_TooMany : XCls K (ca 2)
  gx_NoSaid : mg "NoSaid" = some (.ref (ca 3))
  x_NoSaid : XCls K (ca 3)
  gx_NoWeights : mg "NoWeights" = some (.ref (ca 4))
  x_NoWeights : XCls K (ca 4)
  gx_NoUndo : mg "NoUndo" = some (.ref (ca 5))
  x_NoUndo : XCls K (ca 5)
  x_tab : ∀ i j b, exm_tab i j = some b → PySem.W.exmOne K (.ref (ca i)) (.ref (ca j)) = some b
  c_LETTERS : ∃ t, mg "LETTERS" = some (.str ("abcdefghijklmnopqrstuvwxyz" : Str) t)
  c_MOST_LETTERS : ∃ t, mg "MOST_LETTERS" = some (.int (6 : Int) t)
  c_NAMES : mg "NAMES" = some (.ref A.c_NAMES)
  k_NAMES : Kt K A.c_NAMES [.str ("x" : Str), .str ("y" : Str)]
  c_BINDING : mg "BINDING" = some (.ref A.c_BINDING)
  k_BINDING : Kt K A.c_BINDING [.str ("each" : Str), .str ("some" : Str)]
  c_JOINING : mg "JOINING" = some (.ref A.c_JOINING)
  k_JOINING : Kt K A.c_JOINING [.str ("and" : Str), .str ("or" : Str)]
  c_MOST_TUPLES : ∃ t, mg "MOST_TUPLES" = some (.int (100 : Int) t)
  c_MOST_DEEP : ∃ t, mg "MOST_DEEP" = some (.int (20 : Int) t)
  c_MOST_SAID : ∃ t, mg "MOST_SAID" = some (.int (3 : Int) t)
  c_KEPT_WORDS : mg "KEPT_WORDS" = some (.ref A.c_KEPT_WORDS)
  w_KEPT_WORDS : KWords K w A.c_KEPT_WORDS KEPT_WORDS_ws
  c_MOST_MARKS : ∃ t, mg "MOST_MARKS" = some (.int (3 : Int) t)
  c_MOST_TIES : ∃ t, mg "MOST_TIES" = some (.int (2 : Int) t)
structure Fn (P : Program) (w : World) (K : PySem.W.Frag) (mg : Str → Option Value) (base : Heap) (ca : Nat → Addr) (k : Nat) (f : Addr) (ps : List Str) (g : List D → M D) : Prop where
  ok : ∃ fd, FnOk P w K mg base (L2.CX P w) k f fd ps (spM ⟨K, ca⟩ ps.length g) ∧ Binds K fd ps []
  kp : PySem.W.keepIn K (.ref f) = true
structure FnI (P : Program) (w : World) (K : PySem.W.Frag) (mg : Str → Option Value) (base : Heap) (ca : Nat → Addr) (c k : Nat) (f : Addr) (p0 : Str) (ps : List Str) (g : List D → M D) : Prop where
  ok : ∃ fd, FnOk P w K mg base (L2.CX P w) k f fd (p0 :: ps) (spI ⟨K, ca⟩ c ps.length g) ∧ Binds K fd (p0 :: ps) []
structure FnK (P : Program) (w : World) (K : PySem.W.Frag) (mg : Str → Option Value) (base : Heap) (ca : Nat → Addr) (k : Nat) (f : Addr) (ps ks : List Str) (pm : {α : Type} → List α → List α) (g : List D → M D) : Prop where
  ok : ∃ fd, FnOk P w K mg base (L2.CX P w) k f fd ps (spM ⟨K, ca⟩ ps.length g) ∧ Binds K fd ps [] ∧ KB0 K fd ps ks pm
  kp : PySem.W.keepIn K (.ref f) = true
theorem fn_zero {P : Program} {w : World} {K : PySem.W.Frag} {mg : Str → Option Value} {base : Heap} {ca : Nat → Addr} {k : Nat} {f : Addr} {fd : FuncData} {ps : List Str} : FnOk P w K mg base (L2.CX P w) k f fd ps (spM ⟨K, ca⟩ ps.length fun _ => stk) :=
  ⟨fun vs H Q E h => let ⟨_, _, _, _, hl, _⟩ := h; hl, fun A outer s H args us vs Q E hr he hb hv hs => let ⟨_, _, _, _, _, _, _, hp⟩ := hs; hp.elim⟩
end Mi

namespace Mi
open PySem PySem.Spec PyProof.Rows L2
theorem sc__law_pool : FnScope ["_law_script", "_law_seed", "_law_cell"] ["_law_script"] (defScope s__law_pool) := ⟨rfl, rfl, rfl, by decide +kernel, rfl, by decide +kernel, by decide +kernel⟩
theorem ok__law_pool {P : Program} {w : World} {K : PySem.W.Frag} {mg : Str → Option Value} {base : Heap} {ca : Nat → Addr} {A : Ad} {fd : FuncData} (T : Txt A K w mg ca) (F : Fun K "_law_pool" "_law_pool" s__law_pool A.f__law_pool fd) : Fn P w K mg base ca 1 A.f__law_pool ["_law_script"] g__law_pool := by
  refine ⟨⟨fd, fn_mir (P := P) (w := w) (mg := mg) (base := base) (ca := ca) (N := ["_law_script", "_law_seed", "_law_cell"]) (body := b__law_pool) F sc__law_pool fun cdv AA outer s H E hr => (by
    have nd := sc__law_pool.nd
    have tk := takes_of (X := cxOf (L2.CX P w) P w K mg base ["_law_script", "_law_seed", "_law_cell"] "_law_pool" (defScope s__law_pool) A.f__law_pool cdv AA outer s H E) (E := E) rfl rfl rfl rfl
    exact ⟨_, (jb_cons (js_set (i := 1) nd rfl (by first | exact .inl rfl | exact .inr rfl) (je_op op_addU sp_addU (je_op op_addU sp_addU (je_op op_mod sp_mod (je_callTy call_int1 sp_int rfl T.b_int (by decide +kernel) (ja_cons (je_callB (cr_sum rfl) sp_sum rfl T.b_sum (by decide +kernel) (ja_cons (je_sl (je_var (i := 0) rfl (by first | exact .inl rfl | exact .inr (.inl rfl) | exact .inr (.inr rfl))) jo_none (jo_some (je_int (i := (1 : Int))))) ja_nil)) ja_nil)) (je_int (i := (1000003 : Int)))) (je_callB call_lenU sp_lenU rfl T.b_len (by decide +kernel) (ja_cons (je_var (i := 0) rfl (by first | exact .inl rfl | exact .inr (.inl rfl) | exact .inr (.inr rfl))) ja_nil))) (je_int (i := (1 : Int)))))
      (jb_cons (js_for (passes_of rfl) rfl (ji_seq (je_sl (je_var (i := 0) rfl (by first | exact .inl rfl | exact .inr (.inl rfl) | exact .inr (.inr rfl))) jo_none (jo_some (je_int (i := (63 : Int)))))) (jg_name (i := 2) nd rfl (by first | exact .inl rfl | exact .inr rfl))
      (jb_one (js_set (i := 1) nd rfl (by first | exact .inl rfl | exact .inr rfl) (je_op op_mod sp_mod (je_callTy call_int1 sp_int rfl T.b_int (by decide +kernel) (ja_cons (je_op op_addU sp_addU (je_op op_addU sp_addU (je_op op_mulU sp_mulU (je_var (i := 1) rfl (by first | exact .inl rfl | exact .inr (.inl rfl) | exact .inr (.inr rfl))) (je_int (i := (48271 : Int)))) (je_op op_mod sp_mod (je_callTy call_int1 sp_int rfl T.b_int (by decide +kernel) (ja_cons (je_var (i := 2) rfl (by first | exact .inl rfl | exact .inr (.inl rfl) | exact .inr (.inr rfl))) ja_nil)) (je_int (i := (2147483629 : Int))))) (je_int (i := (11 : Int)))) ja_nil)) (je_int (i := (2147483647 : Int)))))))
      (jb_one (js_ret (JN.ptr (jn_lst (ja_cons (je_var (i := 1) rfl (by first | exact .inl rfl | exact .inr (.inl rfl) | exact .inr (.inr rfl))) (ja_cons (je_int (i := (0 : Int))) (ja_cons (JN.ptr (jn_lc (tt := (tTest (tOp (rI0 fun i j => .bl (decide (j ≤ i))) (tCB (fun xs H Q => ∃ i, xs = [.int i] ∧ Q (.int (if i < 0 then -i else i)) H) (tCons (tVar 2) tNil)) (tOp (rI CPow fun i j => .int (i ^ j.toNat)) (tC (.int (10 : Int))) (tC (.int (18 : Int))))))) (te := (tCB (fun xs H Q => ∃ i, xs = [.int i] ∧ Q (.int (if i < 0 then -i else i)) H) (tCons (tVar 2) tNil))) (mt := (tstB (op2 (cmpD fun i j => decide (j ≤ i)) (opC absD (aCons (vr 2) aNil)) (op2 powD (kk (.int (10 : Int))) (kk (.int (18 : Int))))))) (me := (opC absD (aCons (vr 2) aNil))) (own := [("_law_cell", 2)]) rfl nd (by exact (ji_seq (je_sl (je_var (i := 0) rfl (by first | exact .inl rfl | exact .inr (.inl rfl) | exact .inr (.inr rfl))) jo_none (jo_some (je_int (i := (63 : Int))))))) (blkOk_by (own := [("_law_cell", 2)]) (N := ["_law_script", "_law_seed", "_law_cell"]) (sc := defScope s__law_pool) (by decide +kernel)) (fun _ _ _ _ _ => by exact (jg_name (i := 2) nd rfl (by first | exact .inl rfl | exact .inr rfl))) (gw_name (by decide)) gN_len (fun _ _ _ _ _ => by exact (jts_one (jt_cmp op_ge sp_cmp (je_callB call_abs sp_abs rfl T.b_abs (by decide +kernel) (ja_cons (je_var (i := 2) rfl (by first | exact .inl rfl | exact .inr (.inl rfl) | exact .inr (.inr rfl))) ja_nil)) (je_op op_pow sp_pow (je_int (i := (10 : Int))) (je_int (i := (18 : Int)))) (nomark _)))) (fun _ _ _ _ _ => by exact (je_callB call_abs sp_abs rfl T.b_abs (by decide +kernel) (ja_cons (je_var (i := 2) rfl (by first | exact .inl rfl | exact .inr (.inl rfl) | exact .inr (.inr rfl))) ja_nil))))) ja_nil)))))))))⟩), (F.binds (ps := ["_law_script"]) fun _ _ _ _ _ _ us hl => match us, hl with | [_], _ => rfl)⟩, F.kp⟩
end Mi

namespace Mi
open PySem PySem.Spec PyProof.Rows L2
theorem sc__law_draw : FnScope ["_law_pool_here", "_law_many", "_law_cells", "_law_mixed", "_law_digit"] ["_law_pool_here", "_law_many"] (defScope s__law_draw) := ⟨rfl, rfl, rfl, by decide +kernel, rfl, by decide +kernel, by decide +kernel⟩
theorem ok__law_draw {P : Program} {w : World} {K : PySem.W.Frag} {mg : Str → Option Value} {base : Heap} {ca : Nat → Addr} {A : Ad} {fd : FuncData} (T : Txt A K w mg ca) (F : Fun K "_law_draw" "_law_draw" s__law_draw A.f__law_draw fd) : Fn P w K mg base ca 1 A.f__law_draw ["_law_pool_here", "_law_many"] g__law_draw := by
  refine ⟨⟨fd, fn_mir (P := P) (w := w) (mg := mg) (base := base) (ca := ca) (N := ["_law_pool_here", "_law_many", "_law_cells", "_law_mixed", "_law_digit"]) (body := b__law_draw) F sc__law_draw fun cdv AA outer s H E hr => (by
    have nd := sc__law_draw.nd
    have tk := takes_of (X := cxOf (L2.CX P w) P w K mg base ["_law_pool_here", "_law_many", "_law_cells", "_law_mixed", "_law_digit"] "_law_draw" (defScope s__law_draw) A.f__law_draw cdv AA outer s H E) (E := E) rfl rfl rfl rfl
    exact ⟨_, (jb_cons (js_sub (set_U (hu_of hr)) sp_setU (je_op op_addU sp_addU (je_ix ix_seq sp_ix (je_var (i := 0) rfl (by first | exact .inl rfl | exact .inr (.inl rfl) | exact .inr (.inr rfl))) (je_int (i := (1 : Int)))) (je_int (i := (1 : Int)))) (je_var (i := 0) rfl (by first | exact .inl rfl | exact .inr (.inl rfl) | exact .inr (.inr rfl))) (je_int (i := (1 : Int))))
      (jb_cons (js_set (i := 2) nd rfl (by first | exact .inl rfl | exact .inr rfl) (je_ix ix_seq sp_ix (je_var (i := 0) rfl (by first | exact .inl rfl | exact .inr (.inl rfl) | exact .inr (.inr rfl))) (je_int (i := (2 : Int)))))
      (jb_cons (js_if (jt_cmp op_gt sp_cmp (je_callB call_lenU sp_lenU rfl T.b_len (by decide +kernel) (ja_cons (je_var (i := 2) rfl (by first | exact .inl rfl | exact .inr (.inl rfl) | exact .inr (.inr rfl))) ja_nil)) (je_int (i := (0 : Int))) (nomark _))
      (jb_cons (js_set (i := 4) nd rfl (by first | exact .inl rfl | exact .inr rfl) (je_op op_mod sp_mod (je_callTy call_int1 sp_int rfl T.b_int (by decide +kernel) (ja_cons (je_ix ix_seq sp_ix (je_var (i := 2) rfl (by first | exact .inl rfl | exact .inr (.inl rfl) | exact .inr (.inr rfl))) (je_int (i := (0 : Int)))) ja_nil)) (je_var (i := 1) rfl (by first | exact .inl rfl | exact .inr (.inl rfl) | exact .inr (.inr rfl)))))
      (jb_cons (js_sub (set_U (hu_of hr)) sp_setU (je_op op_fdiv sp_fdiv (je_callTy call_int1 sp_int rfl T.b_int (by decide +kernel) (ja_cons (je_ix ix_seq sp_ix (je_var (i := 2) rfl (by first | exact .inl rfl | exact .inr (.inl rfl) | exact .inr (.inr rfl))) (je_int (i := (0 : Int)))) ja_nil)) (je_var (i := 1) rfl (by first | exact .inl rfl | exact .inr (.inl rfl) | exact .inr (.inr rfl)))) (je_var (i := 2) rfl (by first | exact .inl rfl | exact .inr (.inl rfl) | exact .inr (.inr rfl))) (je_int (i := (0 : Int))))
      (jb_cons (js_if (jt_cmp (op_eqD hr.units) sp_eq (je_ix ix_seq sp_ix (je_var (i := 2) rfl (by first | exact .inl rfl | exact .inr (.inl rfl) | exact .inr (.inr rfl))) (je_int (i := (0 : Int)))) (je_int (i := (0 : Int))) (nomark _))
      (jb_one (js_expr (je_mu PySem.F.plainAttrs_list PySem.F.slot_list_pop PySem.F.type_list_pop mt_popAt sp_popAt ty_lst (je_var (i := 2) rfl (by first | exact .inl rfl | exact .inr (.inl rfl) | exact .inr (.inr rfl))) (ja_cons (je_int (i := (0 : Int))) ja_nil))))
      jb_nil)
      (jb_one (js_ret (je_var (i := 4) rfl (by first | exact .inl rfl | exact .inr (.inl rfl) | exact .inr (.inr rfl))))))))
      jb_nil)
      (jb_cons (js_set (i := 3) nd rfl (by first | exact .inl rfl | exact .inr rfl) (je_op op_mod sp_mod (je_callTy call_int1 sp_int rfl T.b_int (by decide +kernel) (ja_cons (je_op op_mulU sp_mulU (je_op op_addU sp_addU (je_ix ix_seq sp_ix (je_var (i := 0) rfl (by first | exact .inl rfl | exact .inr (.inl rfl) | exact .inr (.inr rfl))) (je_int (i := (0 : Int)))) (je_op op_mulU sp_mulU (je_int (i := (7919 : Int))) (je_ix ix_seq sp_ix (je_var (i := 0) rfl (by first | exact .inl rfl | exact .inr (.inl rfl) | exact .inr (.inr rfl))) (je_int (i := (1 : Int)))))) (je_int (i := (48271 : Int)))) ja_nil)) (je_int (i := (2147483647 : Int)))))
      (jb_cons (js_set (i := 3) nd rfl (by first | exact .inl rfl | exact .inr rfl) (je_op op_mod sp_mod (je_callTy call_int1 sp_int rfl T.b_int (by decide +kernel) (ja_cons (je_op op_mulU sp_mulU (je_var (i := 3) rfl (by first | exact .inl rfl | exact .inr (.inl rfl) | exact .inr (.inr rfl))) (je_op op_addU sp_addU (je_op op_fdiv sp_fdiv (je_var (i := 3) rfl (by first | exact .inl rfl | exact .inr (.inl rfl) | exact .inr (.inr rfl))) (je_int (i := (1009 : Int)))) (je_int (i := (69621 : Int))))) ja_nil)) (je_int (i := (2147483647 : Int)))))
      (jb_cons (js_set (i := 3) nd rfl (by first | exact .inl rfl | exact .inr rfl) (je_op op_mod sp_mod (je_callTy call_int1 sp_int rfl T.b_int (by decide +kernel) (ja_cons (je_op op_mulU sp_mulU (je_var (i := 3) rfl (by first | exact .inl rfl | exact .inr (.inl rfl) | exact .inr (.inr rfl))) (je_op op_addU sp_addU (je_op op_fdiv sp_fdiv (je_var (i := 3) rfl (by first | exact .inl rfl | exact .inr (.inl rfl) | exact .inr (.inr rfl))) (je_int (i := (2003 : Int)))) (je_int (i := (40692 : Int))))) ja_nil)) (je_int (i := (2147483399 : Int)))))
      (jb_one (js_ret (je_op op_mod sp_mod (je_callTy call_int1 sp_int rfl T.b_int (by decide +kernel) (ja_cons (je_op op_fdiv sp_fdiv (je_var (i := 3) rfl (by first | exact .inl rfl | exact .inr (.inl rfl) | exact .inr (.inr rfl))) (je_int (i := (16 : Int)))) ja_nil)) (je_var (i := 1) rfl (by first | exact .inl rfl | exact .inr (.inl rfl) | exact .inr (.inr rfl))))))))))))⟩), (F.binds (ps := ["_law_pool_here", "_law_many"]) fun _ _ _ _ _ _ us hl => match us, hl with | [_, _], _ => rfl)⟩, F.kp⟩
end Mi

namespace Mi
open PySem PySem.Spec PyProof.Rows L2
theorem sc__law_names : FnScope ["_law_pool_here", "_law_many", "_law_place", "_law_start", "_law_step", "_law_letters", "_law_names_here", "_law_k", "_law_word", "_law_name", "_law_at"] ["_law_pool_here", "_law_many"] (defScope s__law_names) := ⟨rfl, rfl, rfl, by decide +kernel, rfl, by decide +kernel, by decide +kernel⟩
theorem ok__law_names {P : Program} {w : World} {K : PySem.W.Frag} {mg : Str → Option Value} {base : Heap} {ca : Nat → Addr} {A : Ad} {fd : FuncData} (T : Txt A K w mg ca) (H__law_draw : Fn P w K mg base ca 1 A.f__law_draw ["_law_pool_here", "_law_many"] g__law_draw) (F : Fun K "_law_names" "_law_names" s__law_names A.f__law_names fd) : Fn P w K mg base ca 2 A.f__law_names ["_law_pool_here", "_law_many"] g__law_names := by
  obtain ⟨fd__law_draw, F__law_draw, B__law_draw⟩ := H__law_draw.ok
  have KP__law_draw := H__law_draw.kp
  refine ⟨⟨fd, fn_mir (P := P) (w := w) (mg := mg) (base := base) (ca := ca) (N := ["_law_pool_here", "_law_many", "_law_place", "_law_start", "_law_step", "_law_letters", "_law_names_here", "_law_k", "_law_word", "_law_name", "_law_at"]) (body := b__law_names) F sc__law_names fun cdv AA outer s H E hr => (by
    have nd := sc__law_names.nd
    have tk := takes_of (X := cxOf (L2.CX P w) P w K mg base ["_law_pool_here", "_law_many", "_law_place", "_law_start", "_law_step", "_law_letters", "_law_names_here", "_law_k", "_law_word", "_law_name", "_law_at"] "_law_names" (defScope s__law_names) A.f__law_names cdv AA outer s H E) (E := E) rfl rfl rfl rfl
    exact ⟨_, (jb_cons (js_set (i := 2) nd rfl (by first | exact .inl rfl | exact .inr rfl) (je_call F__law_draw (hr.mono (by decide)) rfl T.g__law_draw KP__law_draw B__law_draw tk (ja_cons (je_var (i := 0) rfl (by first | exact .inl rfl | exact .inr (.inl rfl) | exact .inr (.inr rfl))) (ja_cons (je_int (i := (3 : Int))) ja_nil))))
      (jb_cons (js_set (i := 3) nd rfl (by first | exact .inl rfl | exact .inr rfl) (je_call F__law_draw (hr.mono (by decide)) rfl T.g__law_draw KP__law_draw B__law_draw tk (ja_cons (je_var (i := 0) rfl (by first | exact .inl rfl | exact .inr (.inl rfl) | exact .inr (.inr rfl))) (ja_cons (je_int (i := (26 : Int))) ja_nil))))
      (jb_cons (js_set (i := 4) nd rfl (by first | exact .inl rfl | exact .inr rfl) (je_ix ix_seq sp_ix (JN.frz (jn_lst (ja_cons (je_int (i := (1 : Int))) (ja_cons (je_int (i := (3 : Int))) (ja_cons (je_int (i := (5 : Int))) (ja_cons (je_int (i := (7 : Int))) (ja_cons (je_int (i := (9 : Int))) (ja_cons (je_int (i := (11 : Int))) (ja_cons (je_int (i := (15 : Int))) (ja_cons (je_int (i := (17 : Int))) (ja_cons (je_int (i := (19 : Int))) (ja_cons (je_int (i := (21 : Int))) (ja_cons (je_int (i := (23 : Int))) (ja_cons (je_int (i := (25 : Int))) ja_nil)))))))))))))) (je_call F__law_draw (hr.mono (by decide)) rfl T.g__law_draw KP__law_draw B__law_draw tk (ja_cons (je_var (i := 0) rfl (by first | exact .inl rfl | exact .inr (.inl rfl) | exact .inr (.inr rfl))) (ja_cons (je_int (i := (12 : Int))) ja_nil)))))
      (jb_cons (js_set (i := 5) nd rfl (by first | exact .inl rfl | exact .inr rfl) (je_str (i := ("abcdefghijklmnopqrstuvwxyz" : Str))))
      (jb_cons (js_own (i := 6) nd rfl (by first | exact .inl rfl | exact .inr rfl) (jn_lst ja_nil))
      (jb_cons (js_for (passes_of rfl) rfl (ji_range1 rfl T.b_range (ja_cons (je_var (i := 1) rfl (by first | exact .inl rfl | exact .inr (.inl rfl) | exact .inr (.inr rfl))) ja_nil)) (jg_name (i := 7) nd rfl (by first | exact .inl rfl | exact .inr rfl))
      (jb_cons (js_ownLc (tt := tYes) (te' := (tOp (rIx K) (tVar 5) (tCallSD (spM ⟨K, ca⟩ (["_law_pool_here", "_law_many"] : List Str).length g__law_draw) [] (fun σ c dx H' => W0 c dx σ H') (tCons (tVar 0) (tCons (tC (.int (26 : Int))) tNil))))) (mt := (ret true)) (me := (op2 ixD (vr 5) (eCall g__law_draw (aCons (vr 0) (aCons (kk (.int (26 : Int))) aNil))))) (i := 8) (own := [("_law_at", 10)]) rfl nd rfl rfl (sw_true rfl rfl rfl (by decide +kernel)) (by exact (ji_range1 rfl T.b_range (ja_cons (je_op op_addU sp_addU (je_op op_addU sp_addU (je_var (i := 2) rfl (by first | exact .inl rfl | exact .inr (.inl rfl) | exact .inr (.inr rfl))) (je_int (i := (1 : Int)))) (je_call F__law_draw (hr.mono (by decide)) rfl T.g__law_draw KP__law_draw B__law_draw tk (ja_cons (je_var (i := 0) rfl (by first | exact .inl rfl | exact .inr (.inl rfl) | exact .inr (.inr rfl))) (ja_cons (je_op op_sub sp_sub (je_int (i := (3 : Int))) (je_var (i := 2) rfl (by first | exact .inl rfl | exact .inr (.inl rfl) | exact .inr (.inr rfl)))) ja_nil)))) ja_nil))) (blkOk_by (own := [("_law_at", 10)]) (N := ["_law_pool_here", "_law_many", "_law_place", "_law_start", "_law_step", "_law_letters", "_law_names_here", "_law_k", "_law_word", "_law_name", "_law_at"]) (sc := defScope s__law_names) (by decide +kernel)) (fun _ _ _ _ _ => by exact (jg_name (i := 10) nd rfl (by first | exact .inl rfl | exact .inr rfl))) (gw_name (by decide)) gN_len (fun _ _ _ _ _ => by exact jts_nil) (fun _ _ _ _ _ => by exact (je_ix ix_seq sp_ix (je_var (i := 5) rfl (by first | exact .inl rfl | exact .inr (.inl rfl) | exact .inr (.inr rfl))) (je_call F__law_draw (hr.mono (by decide)) rfl T.g__law_draw KP__law_draw B__law_draw takes0 (ja_cons (je_var (i := 0) rfl (by first | exact .inl rfl | exact .inr (.inl rfl) | exact .inr (.inr rfl))) (ja_cons (je_int (i := (26 : Int))) ja_nil))))))
      (jb_cons (js_sub (set_U (hu_of hr)) sp_setU (je_ix ix_seq sp_ix (je_var (i := 5) rfl (by first | exact .inl rfl | exact .inr (.inl rfl) | exact .inr (.inr rfl))) (je_op op_mod sp_mod (je_callTy call_int1 sp_int rfl T.b_int (by decide +kernel) (ja_cons (je_op op_addU sp_addU (je_var (i := 3) rfl (by first | exact .inl rfl | exact .inr (.inl rfl) | exact .inr (.inr rfl))) (je_op op_mulU sp_mulU (je_var (i := 4) rfl (by first | exact .inl rfl | exact .inr (.inl rfl) | exact .inr (.inr rfl))) (je_var (i := 7) rfl (by first | exact .inl rfl | exact .inr (.inl rfl) | exact .inr (.inr rfl))))) ja_nil)) (je_int (i := (26 : Int))))) (je_var (i := 8) rfl (by first | exact .inl rfl | exact .inr (.inl rfl) | exact .inr (.inr rfl))) (je_var (i := 2) rfl (by first | exact .inl rfl | exact .inr (.inl rfl) | exact .inr (.inr rfl))))
      (jb_cons (js_set (i := 9) nd rfl (by first | exact .inl rfl | exact .inr rfl) (je_me PySem.F.plainAttrs_str PySem.F.slot_str_join PySem.F.type_str_join mt_join sp_join ty_str (je_str (i := ("" : Str))) (ja_cons (je_var (i := 8) rfl (by first | exact .inl rfl | exact .inr (.inl rfl) | exact .inr (.inr rfl))) ja_nil)))
      (jb_cons (js_if (jt_cmp (op_inU (hu_of hr)) sp_inU (je_var (i := 9) rfl (by first | exact .inl rfl | exact .inr (.inl rfl) | exact .inr (.inr rfl))) (JN.frz (jn_lst (ja_cons (je_str (i := ("x" : Str))) (ja_cons (je_str (i := ("y" : Str))) (ja_cons (je_str (i := ("not" : Str))) (ja_cons (je_str (i := ("and" : Str))) (ja_cons (je_str (i := ("or" : Str))) ja_nil))))))) rfl)
      (jb_one (js_set (i := 9) nd rfl (by first | exact .inl rfl | exact .inr rfl) (je_op op_addU sp_addU (je_var (i := 9) rfl (by first | exact .inl rfl | exact .inr (.inl rfl) | exact .inr (.inr rfl))) (je_str (i := ("q" : Str))))))
      jb_nil)
      (jb_one (js_expr (je_mu PySem.F.plainAttrs_list PySem.F.slot_list_append PySem.F.type_list_append mt_append sp_append ty_lst (je_var (i := 6) rfl (by first | exact .inl rfl | exact .inr (.inl rfl) | exact .inr (.inr rfl))) (ja_cons (je_var (i := 9) rfl (by first | exact .inl rfl | exact .inr (.inl rfl) | exact .inr (.inr rfl))) ja_nil)))))))))
      (jb_one (js_ret (je_var (i := 6) rfl (by first | exact .inl rfl | exact .inr (.inl rfl) | exact .inr (.inr rfl)))))))))))⟩), (F.binds (ps := ["_law_pool_here", "_law_many"]) fun _ _ _ _ _ _ us hl => match us, hl with | [_, _], _ => rfl)⟩, F.kp⟩
end Mi

namespace Mi
open PySem PySem.Spec PyProof.Rows L2
theorem sc__law_shape : FnScope ["_law_pool_here", "_law_shapes", "_law_shape_here", "_law_names_here", "_law_ties", "_law_functions"] ["_law_pool_here", "_law_shapes"] (defScope s__law_shape) := ⟨rfl, rfl, rfl, by decide +kernel, rfl, by decide +kernel, by decide +kernel⟩
theorem ok__law_shape {P : Program} {w : World} {K : PySem.W.Frag} {mg : Str → Option Value} {base : Heap} {ca : Nat → Addr} {A : Ad} {fd : FuncData} (T : Txt A K w mg ca) (H__law_draw : Fn P w K mg base ca 1 A.f__law_draw ["_law_pool_here", "_law_many"] g__law_draw) (H__law_names : Fn P w K mg base ca 2 A.f__law_names ["_law_pool_here", "_law_many"] g__law_names) (F : Fun K "_law_shape" "_law_shape" s__law_shape A.f__law_shape fd) : Fn P w K mg base ca 3 A.f__law_shape ["_law_pool_here", "_law_shapes"] g__law_shape := by
  obtain ⟨fd__law_draw, F__law_draw, B__law_draw⟩ := H__law_draw.ok
  have KP__law_draw := H__law_draw.kp
  obtain ⟨fd__law_names, F__law_names, B__law_names⟩ := H__law_names.ok
  have KP__law_names := H__law_names.kp
  refine ⟨⟨fd, fn_mir (P := P) (w := w) (mg := mg) (base := base) (ca := ca) (N := ["_law_pool_here", "_law_shapes", "_law_shape_here", "_law_names_here", "_law_ties", "_law_functions"]) (body := b__law_shape) F sc__law_shape fun cdv AA outer s H E hr => (by
    have nd := sc__law_shape.nd
    have tk := takes_of (X := cxOf (L2.CX P w) P w K mg base ["_law_pool_here", "_law_shapes", "_law_shape_here", "_law_names_here", "_law_ties", "_law_functions"] "_law_shape" (defScope s__law_shape) A.f__law_shape cdv AA outer s H E) (E := E) rfl rfl rfl rfl
    exact ⟨_, (jb_cons (js_set (i := 2) nd rfl (by first | exact .inl rfl | exact .inr rfl) (je_ix ix_seq sp_ix (je_var (i := 1) rfl (by first | exact .inl rfl | exact .inr (.inl rfl) | exact .inr (.inr rfl))) (je_call F__law_draw (hr.mono (by decide)) rfl T.g__law_draw KP__law_draw B__law_draw tk (ja_cons (je_var (i := 0) rfl (by first | exact .inl rfl | exact .inr (.inl rfl) | exact .inr (.inr rfl))) (ja_cons (je_callB call_lenU sp_lenU rfl T.b_len (by decide +kernel) (ja_cons (je_var (i := 1) rfl (by first | exact .inl rfl | exact .inr (.inl rfl) | exact .inr (.inr rfl))) ja_nil)) ja_nil)))))
      (jb_cons (js_set (i := 3) nd rfl (by first | exact .inl rfl | exact .inr rfl) (je_call F__law_names (hr.mono (by decide)) rfl T.g__law_names KP__law_names B__law_names tk (ja_cons (je_var (i := 0) rfl (by first | exact .inl rfl | exact .inr (.inl rfl) | exact .inr (.inr rfl))) (ja_cons (je_int (i := (5 : Int))) ja_nil))))
      (jb_cons (js_set (i := 4) nd rfl (by first | exact .inl rfl | exact .inr rfl) (je_callTy call_tuple_of sp_tuple rfl T.b_tuple (by decide +kernel) (ja_cons (je_sl (je_var (i := 3) rfl (by first | exact .inl rfl | exact .inr (.inl rfl) | exact .inr (.inr rfl))) (jo_some (je_int (i := (3 : Int)))) (jo_some (je_op op_addU sp_addU (je_int (i := (3 : Int))) (je_ix ix_seq sp_ix (je_var (i := 2) rfl (by first | exact .inl rfl | exact .inr (.inl rfl) | exact .inr (.inr rfl))) (je_int (i := (1 : Int))))))) ja_nil)))
      (jb_cons (js_set (i := 5) nd rfl (by first | exact .inl rfl | exact .inr rfl) (je_tup ja_nil))
      (jb_cons (js_if (jt_cmp op_gt sp_cmp (je_callB call_lenU sp_lenU rfl T.b_len (by decide +kernel) (ja_cons (je_var (i := 2) rfl (by first | exact .inl rfl | exact .inr (.inl rfl) | exact .inr (.inr rfl))) ja_nil)) (je_int (i := (2 : Int))) (nomark _))
      (jb_one (js_set (i := 5) nd rfl (by first | exact .inl rfl | exact .inr rfl) (je_sl (je_var (i := 4) rfl (by first | exact .inl rfl | exact .inr (.inl rfl) | exact .inr (.inr rfl))) jo_none (jo_some (je_ix ix_seq sp_ix (je_var (i := 2) rfl (by first | exact .inl rfl | exact .inr (.inl rfl) | exact .inr (.inr rfl))) (je_int (i := (2 : Int))))))))
      jb_nil)
      (jb_one (js_ret (je_tup (ja_cons (je_callTy call_tuple_of sp_tuple rfl T.b_tuple (by decide +kernel) (ja_cons (je_sl (je_var (i := 3) rfl (by first | exact .inl rfl | exact .inr (.inl rfl) | exact .inr (.inr rfl))) jo_none (jo_some (je_ix ix_seq sp_ix (je_var (i := 2) rfl (by first | exact .inl rfl | exact .inr (.inl rfl) | exact .inr (.inr rfl))) (je_int (i := (0 : Int)))))) ja_nil)) (ja_cons (je_var (i := 4) rfl (by first | exact .inl rfl | exact .inr (.inl rfl) | exact .inr (.inr rfl))) (ja_cons (je_var (i := 5) rfl (by first | exact .inl rfl | exact .inr (.inl rfl) | exact .inr (.inr rfl))) ja_nil)))))))))))⟩), (F.binds (ps := ["_law_pool_here", "_law_shapes"]) fun _ _ _ _ _ _ us hl => match us, hl with | [_, _], _ => rfl)⟩, F.kp⟩
end Mi

namespace Mi
open PySem PySem.Spec PyProof.Rows L2
theorem sc__law_small_shape : FnScope ["_law_pool_here"] ["_law_pool_here"] (defScope s__law_small_shape) := ⟨rfl, rfl, rfl, by decide +kernel, rfl, by decide +kernel, by decide +kernel⟩
theorem ok__law_small_shape {P : Program} {w : World} {K : PySem.W.Frag} {mg : Str → Option Value} {base : Heap} {ca : Nat → Addr} {A : Ad} {fd : FuncData} (T : Txt A K w mg ca) (H__law_shape : Fn P w K mg base ca 3 A.f__law_shape ["_law_pool_here", "_law_shapes"] g__law_shape) (F : Fun K "_law_small_shape" "_law_small_shape" s__law_small_shape A.f__law_small_shape fd) : Fn P w K mg base ca 4 A.f__law_small_shape ["_law_pool_here"] g__law_small_shape := by
  obtain ⟨fd__law_shape, F__law_shape, B__law_shape⟩ := H__law_shape.ok
  have KP__law_shape := H__law_shape.kp
  refine ⟨⟨fd, fn_mir (P := P) (w := w) (mg := mg) (base := base) (ca := ca) (N := ["_law_pool_here"]) (body := b__law_small_shape) F sc__law_small_shape fun cdv AA outer s H E hr => (by
    have nd := sc__law_small_shape.nd
    have tk := takes_of (X := cxOf (L2.CX P w) P w K mg base ["_law_pool_here"] "_law_small_shape" (defScope s__law_small_shape) A.f__law_small_shape cdv AA outer s H E) (E := E) rfl rfl rfl rfl
    exact ⟨_, (jb_one (js_ret (je_call F__law_shape (hr.mono (by decide)) rfl T.g__law_shape KP__law_shape B__law_shape tk (ja_cons (je_var (i := 0) rfl (by first | exact .inl rfl | exact .inr (.inl rfl) | exact .inr (.inr rfl))) (ja_cons (JN.frz (jn_lst (ja_cons (je_tup (ja_cons (je_int (i := (1 : Int))) (ja_cons (je_int (i := (0 : Int))) ja_nil))) (ja_cons (je_tup (ja_cons (je_int (i := (2 : Int))) (ja_cons (je_int (i := (0 : Int))) ja_nil))) (ja_cons (je_tup (ja_cons (je_int (i := (0 : Int))) (ja_cons (je_int (i := (1 : Int))) ja_nil))) (ja_cons (je_tup (ja_cons (je_int (i := (1 : Int))) (ja_cons (je_int (i := (1 : Int))) ja_nil))) (ja_cons (je_tup (ja_cons (je_int (i := (0 : Int))) (ja_cons (je_int (i := (1 : Int))) ja_nil))) (ja_cons (je_tup (ja_cons (je_int (i := (0 : Int))) (ja_cons (je_int (i := (2 : Int))) ja_nil))) ja_nil)))))))) ja_nil)))))⟩), (F.binds (ps := ["_law_pool_here"]) fun _ _ _ _ _ _ us hl => match us, hl with | [_], _ => rfl)⟩, F.kp⟩
end Mi

namespace Mi
open PySem PySem.Spec PyProof.Rows L2
theorem sc_is_sequence : FnScope ["value"] ["value"] (defScope s_is_sequence) := ⟨rfl, rfl, rfl, by decide +kernel, rfl, by decide +kernel, by decide +kernel⟩
theorem ok_is_sequence {P : Program} {w : World} {K : PySem.W.Frag} {mg : Str → Option Value} {base : Heap} {ca : Nat → Addr} {A : Ad} {fd : FuncData} (T : Txt A K w mg ca) (F : Fun K "is_sequence" "is_sequence" s_is_sequence A.f_is_sequence fd) : Fn P w K mg base ca 1 A.f_is_sequence ["value"] g_is_sequence := by
  refine ⟨⟨fd, fn_mir (P := P) (w := w) (mg := mg) (base := base) (ca := ca) (N := ["value"]) (body := b_is_sequence) F sc_is_sequence fun cdv AA outer s H E hr => (by
    have nd := sc_is_sequence.nd
    have tk := takes_of (X := cxOf (L2.CX P w) P w K mg base ["value"] "is_sequence" (defScope s_is_sequence) A.f_is_sequence cdv AA outer s H E) (E := E) rfl rfl rfl rfl
    exact ⟨_, (jb_one (js_ret (je_isiT (cvs := [.ty "list", .ty "tuple"]) rfl T.b_isinstance (je_var (i := 0) rfl (by first | exact .inl rfl | exact .inr (.inl rfl) | exact .inr (.inr rfl))) (pa_cons (pe_bltn (v := .ty "list") (u := .type "list") rfl T.b_list (by decide +kernel) rfl) (pa_cons (pe_bltn (v := .ty "tuple") (u := .type "tuple") rfl T.b_tuple (by decide +kernel) rfl) pa_nil)) (fun _ _ _ => rfl) (.cons (.ty _) (.cons (.ty _) .nil)) (by decide) isa_list_tuple_ok)))⟩), (F.binds (ps := ["value"]) fun _ _ _ _ _ _ us hl => match us, hl with | [_], _ => rfl)⟩, F.kp⟩
end Mi

namespace Mi
open PySem PySem.Spec PyProof.Rows L2
theorem sc_is_word : FnScope ["value", "letter"] ["value"] (defScope s_is_word) := ⟨rfl, rfl, rfl, by decide +kernel, rfl, by decide +kernel, by decide +kernel⟩
theorem ok_is_word {P : Program} {w : World} {K : PySem.W.Frag} {mg : Str → Option Value} {base : Heap} {ca : Nat → Addr} {A : Ad} {fd : FuncData} (T : Txt A K w mg ca) (F : Fun K "is_word" "is_word" s_is_word A.f_is_word fd) : Fn P w K mg base ca 1 A.f_is_word ["value"] g_is_word := by
  obtain ⟨_, c_LETTERS⟩ := T.c_LETTERS
  obtain ⟨_, c_MOST_LETTERS⟩ := T.c_MOST_LETTERS
  refine ⟨⟨fd, fn_mir (P := P) (w := w) (mg := mg) (base := base) (ca := ca) (N := ["value", "letter"]) (body := b_is_word) F sc_is_word fun cdv AA outer s H E hr => (by
    have nd := sc_is_word.nd
    have tk := takes_of (X := cxOf (L2.CX P w) P w K mg base ["value", "letter"] "is_word" (defScope s_is_word) A.f_is_word cdv AA outer s H E) (E := E) rfl rfl rfl rfl
    exact ⟨_, (jb_cons (js_if (JW.jt (jw_or (jt_not (jt_val (je_isi rfl T.b_isinstance (je_var (i := 0) rfl (by first | exact .inl rfl | exact .inr (.inl rfl) | exact .inr (.inr rfl))) (pe_bltn (v := .ty "str") (u := .type "str") rfl T.b_str (by decide +kernel) rfl) (.ty _) isa_str_ok))) (jw_or1 (jt_not (jt_chn op_le sp_cmp op_le sp_cmp (je_int (i := (1 : Int))) (je_callB call_lenU sp_lenU rfl T.b_len (by decide +kernel) (ja_cons (je_var (i := 0) rfl (by first | exact .inl rfl | exact .inr (.inl rfl) | exact .inr (.inr rfl))) ja_nil)) (je_gint (i := (6 : Int)) rfl c_MOST_LETTERS))))))
      (jb_one (js_ret (je_bl (i := false))))
      jb_nil)
      (jb_cons (js_for (passes_of rfl) rfl (ji_seq (je_var (i := 0) rfl (by first | exact .inl rfl | exact .inr (.inl rfl) | exact .inr (.inr rfl)))) (jg_name (i := 1) nd rfl (by first | exact .inl rfl | exact .inr rfl))
      (jb_one (js_if (jt_cmp (op_notInU (hu_of hr)) sp_inU (je_var (i := 1) rfl (by first | exact .inl rfl | exact .inr (.inl rfl) | exact .inr (.inr rfl))) (je_gstr (i := ("abcdefghijklmnopqrstuvwxyz" : Str)) rfl c_LETTERS) rfl)
      (jb_one (js_ret (je_bl (i := false))))
      jb_nil)))
      (jb_one (js_ret (je_bl (i := true))))))⟩), (F.binds (ps := ["value"]) fun _ _ _ _ _ _ us hl => match us, hl with | [_], _ => rfl)⟩, F.kp⟩
end Mi

namespace Mi
open PySem PySem.Spec PyProof.Rows L2
theorem sc_are_names : FnScope ["value", "most", "taken", "seen", "name"] ["value", "most", "taken"] (defScope s_are_names) := ⟨rfl, rfl, rfl, by decide +kernel, rfl, by decide +kernel, by decide +kernel⟩
theorem ok_are_names {P : Program} {w : World} {K : PySem.W.Frag} {mg : Str → Option Value} {base : Heap} {ca : Nat → Addr} {A : Ad} {fd : FuncData} (T : Txt A K w mg ca) (H_is_sequence : Fn P w K mg base ca 1 A.f_is_sequence ["value"] g_is_sequence) (H_is_word : Fn P w K mg base ca 1 A.f_is_word ["value"] g_is_word) (F : Fun K "are_names" "are_names" s_are_names A.f_are_names fd) : Fn P w K mg base ca 2 A.f_are_names ["value", "most", "taken"] g_are_names := by
  obtain ⟨fd_is_sequence, F_is_sequence, B_is_sequence⟩ := H_is_sequence.ok
  have KP_is_sequence := H_is_sequence.kp
  obtain ⟨fd_is_word, F_is_word, B_is_word⟩ := H_is_word.ok
  have KP_is_word := H_is_word.kp
  have c_KEPT_WORDS := T.c_KEPT_WORDS
  have w_KEPT_WORDS := T.w_KEPT_WORDS
  refine ⟨⟨fd, fn_mir (P := P) (w := w) (mg := mg) (base := base) (ca := ca) (N := ["value", "most", "taken", "seen", "name"]) (body := b_are_names) F sc_are_names fun cdv AA outer s H E hr => (by
    have nd := sc_are_names.nd
    have tk := takes_of (X := cxOf (L2.CX P w) P w K mg base ["value", "most", "taken", "seen", "name"] "are_names" (defScope s_are_names) A.f_are_names cdv AA outer s H E) (E := E) rfl rfl rfl rfl
    exact ⟨_, (jb_cons (js_if (JW.jt (jw_or (jt_not (jt_val (je_call F_is_sequence (hr.mono (by decide)) rfl T.g_is_sequence KP_is_sequence B_is_sequence tk (ja_cons (je_var (i := 0) rfl (by first | exact .inl rfl | exact .inr (.inl rfl) | exact .inr (.inr rfl))) ja_nil)))) (jw_or1 (jt_cmp op_gt sp_cmp (je_callB call_lenU sp_lenU rfl T.b_len (by decide +kernel) (ja_cons (je_var (i := 0) rfl (by first | exact .inl rfl | exact .inr (.inl rfl) | exact .inr (.inr rfl))) ja_nil)) (je_var (i := 1) rfl (by first | exact .inl rfl | exact .inr (.inl rfl) | exact .inr (.inr rfl))) (nomark _)))))
      (jb_one (js_ret (je_bl (i := false))))
      jb_nil)
      (jb_cons (js_own (i := 3) nd rfl (by first | exact .inl rfl | exact .inr rfl) jn_dicK)
      (jb_cons (js_for (passes_of rfl) rfl (ji_seq (je_var (i := 0) rfl (by first | exact .inl rfl | exact .inr (.inl rfl) | exact .inr (.inr rfl)))) (jg_name (i := 4) nd rfl (by first | exact .inl rfl | exact .inr rfl))
      (jb_cons (js_if (JW.jt (jw_or (jt_not (jt_val (je_call F_is_word (hr.mono (by decide)) rfl T.g_is_word KP_is_word B_is_word tk (ja_cons (je_var (i := 4) rfl (by first | exact .inl rfl | exact .inr (.inl rfl) | exact .inr (.inr rfl))) ja_nil)))) (jw_or (jt_inW w_KEPT_WORDS rfl c_KEPT_WORDS (je_var (i := 4) rfl (by first | exact .inl rfl | exact .inr (.inl rfl) | exact .inr (.inr rfl)))) (jw_or (jt_cmp (op_inU (hu_of hr)) sp_inU (je_var (i := 4) rfl (by first | exact .inl rfl | exact .inr (.inl rfl) | exact .inr (.inr rfl))) (je_var (i := 2) rfl (by first | exact .inl rfl | exact .inr (.inl rfl) | exact .inr (.inr rfl))) rfl) (jw_or1 (jt_cmp (op_inU (hu_of hr)) sp_inU (je_var (i := 4) rfl (by first | exact .inl rfl | exact .inr (.inl rfl) | exact .inr (.inr rfl))) (je_var (i := 3) rfl (by first | exact .inl rfl | exact .inr (.inl rfl) | exact .inr (.inr rfl))) rfl))))))
      (jb_one (js_ret (je_bl (i := false))))
      jb_nil)
      (jb_one (js_sub (set_U (hu_of hr)) sp_setU (je_bl (i := true)) (je_var (i := 3) rfl (by first | exact .inl rfl | exact .inr (.inl rfl) | exact .inr (.inr rfl))) (je_var (i := 4) rfl (by first | exact .inl rfl | exact .inr (.inl rfl) | exact .inr (.inr rfl)))))))
      (jb_one (js_ret (je_bl (i := true)))))))⟩), (F.binds (ps := ["value", "most", "taken"]) fun _ _ _ _ _ _ us hl => match us, hl with | [_, _, _], _ => rfl)⟩, F.kp⟩
end Mi

namespace Mi
open PySem PySem.Spec PyProof.Rows L2
theorem sc_is_key : FnScope ["value", "table"] ["value", "table"] (defScope s_is_key) := ⟨rfl, rfl, rfl, by decide +kernel, rfl, by decide +kernel, by decide +kernel⟩
theorem ok_is_key {P : Program} {w : World} {K : PySem.W.Frag} {mg : Str → Option Value} {base : Heap} {ca : Nat → Addr} {A : Ad} {fd : FuncData} (T : Txt A K w mg ca) (F : Fun K "is_key" "is_key" s_is_key A.f_is_key fd) : Fn P w K mg base ca 1 A.f_is_key ["value", "table"] g_is_key := by
  refine ⟨⟨fd, fn_mir (P := P) (w := w) (mg := mg) (base := base) (ca := ca) (N := ["value", "table"]) (body := b_is_key) F sc_is_key fun cdv AA outer s H E hr => (by
    have nd := sc_is_key.nd
    have tk := takes_of (X := cxOf (L2.CX P w) P w K mg base ["value", "table"] "is_key" (defScope s_is_key) A.f_is_key cdv AA outer s H E) (E := E) rfl rfl rfl rfl
    exact ⟨_, (jb_one (js_ret (je_and (je_isi rfl T.b_isinstance (je_var (i := 0) rfl (by first | exact .inl rfl | exact .inr (.inl rfl) | exact .inr (.inr rfl))) (pe_bltn (v := .ty "str") (u := .type "str") rfl T.b_str (by decide +kernel) rfl) (.ty _) isa_str_ok) (je_one (je_cmp (op_inU (hu_of hr)) sp_inU (je_var (i := 0) rfl (by first | exact .inl rfl | exact .inr (.inl rfl) | exact .inr (.inr rfl))) (je_var (i := 1) rfl (by first | exact .inl rfl | exact .inr (.inl rfl) | exact .inr (.inr rfl))) rfl)))))⟩), (F.binds (ps := ["value", "table"]) fun _ _ _ _ _ _ us hl => match us, hl with | [_, _], _ => rfl)⟩, F.kp⟩
end Mi

namespace Mi
open PySem PySem.Spec PyProof.Rows L2
theorem sc_are_functions : FnScope ["value", "ties", "name"] ["value", "ties"] (defScope s_are_functions) := ⟨rfl, rfl, rfl, by decide +kernel, rfl, by decide +kernel, by decide +kernel⟩
theorem ok_are_functions {P : Program} {w : World} {K : PySem.W.Frag} {mg : Str → Option Value} {base : Heap} {ca : Nat → Addr} {A : Ad} {fd : FuncData} (T : Txt A K w mg ca) (H_is_sequence : Fn P w K mg base ca 1 A.f_is_sequence ["value"] g_is_sequence) (H_is_key : Fn P w K mg base ca 1 A.f_is_key ["value", "table"] g_is_key) (F : Fun K "are_functions" "are_functions" s_are_functions A.f_are_functions fd) : Fn P w K mg base ca 2 A.f_are_functions ["value", "ties"] g_are_functions := by
  obtain ⟨fd_is_sequence, F_is_sequence, B_is_sequence⟩ := H_is_sequence.ok
  have KP_is_sequence := H_is_sequence.kp
  obtain ⟨fd_is_key, F_is_key, B_is_key⟩ := H_is_key.ok
  have KP_is_key := H_is_key.kp
  refine ⟨⟨fd, fn_mir (P := P) (w := w) (mg := mg) (base := base) (ca := ca) (N := ["value", "ties", "name"]) (body := b_are_functions) F sc_are_functions fun cdv AA outer s H E hr => (by
    have nd := sc_are_functions.nd
    have tk := takes_of (X := cxOf (L2.CX P w) P w K mg base ["value", "ties", "name"] "are_functions" (defScope s_are_functions) A.f_are_functions cdv AA outer s H E) (E := E) rfl rfl rfl rfl
    exact ⟨_, (jb_cons (js_if (JW.jt (jw_or (jt_not (jt_val (je_call F_is_sequence (hr.mono (by decide)) rfl T.g_is_sequence KP_is_sequence B_is_sequence tk (ja_cons (je_var (i := 0) rfl (by first | exact .inl rfl | exact .inr (.inl rfl) | exact .inr (.inr rfl))) ja_nil)))) (jw_or1 (jt_cmp op_gt sp_cmp (je_callB call_lenU sp_lenU rfl T.b_len (by decide +kernel) (ja_cons (je_var (i := 0) rfl (by first | exact .inl rfl | exact .inr (.inl rfl) | exact .inr (.inr rfl))) ja_nil)) (je_int (i := (1 : Int))) (nomark _)))))
      (jb_one (js_ret (je_bl (i := false))))
      jb_nil)
      (jb_cons (js_for (passes_of rfl) rfl (ji_seq (je_var (i := 0) rfl (by first | exact .inl rfl | exact .inr (.inl rfl) | exact .inr (.inr rfl)))) (jg_name (i := 2) nd rfl (by first | exact .inl rfl | exact .inr rfl))
      (jb_one (js_if (jt_not (jt_val (je_call F_is_key (hr.mono (by decide)) rfl T.g_is_key KP_is_key B_is_key tk (ja_cons (je_var (i := 2) rfl (by first | exact .inl rfl | exact .inr (.inl rfl) | exact .inr (.inr rfl))) (ja_cons (je_var (i := 1) rfl (by first | exact .inl rfl | exact .inr (.inl rfl) | exact .inr (.inr rfl))) ja_nil)))))
      (jb_one (js_ret (je_bl (i := false))))
      jb_nil)))
      (jb_one (js_ret (je_bl (i := true))))))⟩), (F.binds (ps := ["value", "ties"]) fun _ _ _ _ _ _ us hl => match us, hl with | [_, _], _ => rfl)⟩, F.kp⟩
end Mi

namespace Mi
open PySem PySem.Spec PyProof.Rows L2
theorem sc_Tongue___init__ : FnScope ["self", "marks", "ties", "functions"] ["self", "marks", "ties", "functions"] (defScope s_Tongue___init__) := ⟨rfl, rfl, rfl, by decide +kernel, rfl, by decide +kernel, by decide +kernel⟩
theorem ok_Tongue___init__ {P : Program} {w : World} {K : PySem.W.Frag} {mg : Str → Option Value} {base : Heap} {ca : Nat → Addr} {A : Ad} {fd : FuncData} (T : Txt A K w mg ca) (H_are_names : Fn P w K mg base ca 2 A.f_are_names ["value", "most", "taken"] g_are_names) (H_are_functions : Fn P w K mg base ca 2 A.f_are_functions ["value", "ties"] g_are_functions) (F : Fun K "__init__" "Tongue.__init__" s_Tongue___init__ A.f_Tongue___init__ fd) : FnI P w K mg base ca 0 3 A.f_Tongue___init__ "self" ["marks", "ties", "functions"] g_Tongue___init__ := by
  obtain ⟨fd_are_names, F_are_names, B_are_names⟩ := H_are_names.ok
  have KP_are_names := H_are_names.kp
  obtain ⟨fd_are_functions, F_are_functions, B_are_functions⟩ := H_are_functions.ok
  have KP_are_functions := H_are_functions.kp
  obtain ⟨_, c_MOST_MARKS⟩ := T.c_MOST_MARKS
  obtain ⟨_, c_MOST_TIES⟩ := T.c_MOST_TIES
  refine ⟨⟨fd, fn_init (P := P) (w := w) (mg := mg) (base := base) (ca := ca) (n0 := "self") (N := ["marks", "ties", "functions"]) (body := b_Tongue___init__) F sc_Tongue___init__ fun cdv AA outer s H E hr => (by
    have nd := sc_Tongue___init__.nd
    have tk := takes_of (X := cxOf (L2.CX P w) P w K mg base ["self", "marks", "ties", "functions"] "Tongue.__init__" (defScope s_Tongue___init__) A.f_Tongue___init__ cdv AA outer s H E) (E := E) rfl rfl rfl rfl
    exact ⟨_, (jb_cons (js_if (jt_not (jt_val (je_call F_are_names (hr.mono (by decide)) rfl T.g_are_names KP_are_names B_are_names tk (ja_cons (je_var (i := 1) rfl (by first | exact .inl rfl | exact .inr (.inl rfl) | exact .inr (.inr rfl))) (ja_cons (je_gint (i := (3 : Int)) rfl c_MOST_MARKS) (ja_cons (je_tup ja_nil) ja_nil))))))
      (jb_one js_never)
      jb_nil)
      (jb_cons (js_if (jt_not (jt_val (je_call F_are_names (hr.mono (by decide)) rfl T.g_are_names KP_are_names B_are_names tk (ja_cons (je_var (i := 2) rfl (by first | exact .inl rfl | exact .inr (.inl rfl) | exact .inr (.inr rfl))) (ja_cons (je_gint (i := (2 : Int)) rfl c_MOST_TIES) (ja_cons (je_var (i := 1) rfl (by first | exact .inl rfl | exact .inr (.inl rfl) | exact .inr (.inr rfl))) ja_nil))))))
      (jb_one js_never)
      jb_nil)
      (jb_cons (js_if (jt_not (jt_val (je_call F_are_functions (hr.mono (by decide)) rfl T.g_are_functions KP_are_functions B_are_functions tk (ja_cons (je_var (i := 3) rfl (by first | exact .inl rfl | exact .inr (.inl rfl) | exact .inr (.inr rfl))) (ja_cons (je_callTy call_tuple_of sp_tuple rfl T.b_tuple (by decide +kernel) (ja_cons (je_var (i := 2) rfl (by first | exact .inl rfl | exact .inr (.inl rfl) | exact .inr (.inr rfl))) ja_nil)) ja_nil)))))
      (jb_one js_never)
      jb_nil)
      (jb_cons (js_fld (c := 0) T.cl_Tongue T.na_Tongue_kept_marks (je_callTy call_tuple_of sp_tuple rfl T.b_tuple (by decide +kernel) (ja_cons (je_var (i := 1) rfl (by first | exact .inl rfl | exact .inr (.inl rfl) | exact .inr (.inr rfl))) ja_nil)) (je_var (i := 0) rfl (by first | exact .inl rfl | exact .inr (.inl rfl) | exact .inr (.inr rfl))))
      (jb_cons (js_fld (c := 0) T.cl_Tongue T.na_Tongue_kept_ties (je_callTy call_tuple_of sp_tuple rfl T.b_tuple (by decide +kernel) (ja_cons (je_var (i := 2) rfl (by first | exact .inl rfl | exact .inr (.inl rfl) | exact .inr (.inr rfl))) ja_nil)) (je_var (i := 0) rfl (by first | exact .inl rfl | exact .inr (.inl rfl) | exact .inr (.inr rfl))))
      (jb_one (js_fld (c := 0) T.cl_Tongue T.na_Tongue_functions (je_callTy call_tuple_of sp_tuple rfl T.b_tuple (by decide +kernel) (ja_cons (je_var (i := 3) rfl (by first | exact .inl rfl | exact .inr (.inl rfl) | exact .inr (.inr rfl))) ja_nil)) (je_var (i := 0) rfl (by first | exact .inl rfl | exact .inr (.inl rfl) | exact .inr (.inr rfl))))))))))⟩), (F.binds (ps := ["self", "marks", "ties", "functions"]) fun _ _ _ _ _ _ us hl => match us, hl with | [_, _, _, _], _ => rfl)⟩⟩
end Mi

namespace Mi
open PySem PySem.Spec PyProof.Rows L2
theorem sc__law_tongue : FnScope ["_law_shape_here"] ["_law_shape_here"] (defScope s__law_tongue) := ⟨rfl, rfl, rfl, by decide +kernel, rfl, by decide +kernel, by decide +kernel⟩
theorem ok__law_tongue {P : Program} {w : World} {K : PySem.W.Frag} {mg : Str → Option Value} {base : Heap} {ca : Nat → Addr} {A : Ad} {fd : FuncData} (T : Txt A K w mg ca) (H_Tongue___init__ : FnI P w K mg base ca 0 3 A.f_Tongue___init__ "self" ["marks", "ties", "functions"] g_Tongue___init__) (F : Fun K "_law_tongue" "_law_tongue" s__law_tongue A.f__law_tongue fd) : Fn P w K mg base ca 5 A.f__law_tongue ["_law_shape_here"] g__law_tongue := by
  obtain ⟨fd_Tongue___init__, F_Tongue___init__, B_Tongue___init__⟩ := H_Tongue___init__.ok
  refine ⟨⟨fd, fn_mir (P := P) (w := w) (mg := mg) (base := base) (ca := ca) (N := ["_law_shape_here"]) (body := b__law_tongue) F sc__law_tongue fun cdv AA outer s H E hr => (by
    have nd := sc__law_tongue.nd
    have tk := takes_of (X := cxOf (L2.CX P w) P w K mg base ["_law_shape_here"] "_law_tongue" (defScope s__law_tongue) A.f__law_tongue cdv AA outer s H E) (E := E) rfl rfl rfl rfl
    exact ⟨_, (jb_one (js_ret (JN.frz (jn_make T.mk_Tongue F_Tongue___init__ (hr.mono (by decide)) rfl T.g_Tongue B_Tongue___init__ tk (ja_cons (je_ix ix_seq sp_ix (je_var (i := 0) rfl (by first | exact .inl rfl | exact .inr (.inl rfl) | exact .inr (.inr rfl))) (je_int (i := (0 : Int)))) (ja_cons (je_ix ix_seq sp_ix (je_var (i := 0) rfl (by first | exact .inl rfl | exact .inr (.inl rfl) | exact .inr (.inr rfl))) (je_int (i := (1 : Int)))) (ja_cons (je_ix ix_seq sp_ix (je_var (i := 0) rfl (by first | exact .inl rfl | exact .inr (.inl rfl) | exact .inr (.inr rfl))) (je_int (i := (2 : Int)))) ja_nil)))))))⟩), (F.binds (ps := ["_law_shape_here"]) fun _ _ _ _ _ _ us hl => match us, hl with | [_], _ => rfl)⟩, F.kp⟩
end Mi

namespace Mi
open PySem PySem.Spec PyProof.Rows L2
theorem sc_check_plain : FnScope ["tongue"] ["tongue"] (defScope s_check_plain) := ⟨rfl, rfl, rfl, by decide +kernel, rfl, by decide +kernel, by decide +kernel⟩
theorem ok_check_plain {P : Program} {w : World} {K : PySem.W.Frag} {mg : Str → Option Value} {base : Heap} {ca : Nat → Addr} {A : Ad} {fd : FuncData} (T : Txt A K w mg ca) (F : Fun K "check_plain" "check_plain" s_check_plain A.f_check_plain fd) : Fn P w K mg base ca 1 A.f_check_plain ["tongue"] g_check_plain := by
  refine ⟨⟨fd, fn_mir (P := P) (w := w) (mg := mg) (base := base) (ca := ca) (N := ["tongue"]) (body := b_check_plain) F sc_check_plain fun cdv AA outer s H E hr => (by
    have nd := sc_check_plain.nd
    have tk := takes_of (X := cxOf (L2.CX P w) P w K mg base ["tongue"] "check_plain" (defScope s_check_plain) A.f_check_plain cdv AA outer s H E) (E := E) rfl rfl rfl rfl
    exact ⟨_, (jb_one (js_if (jt_val (je_fld (c := 0) T.cl_Tongue T.na_Tongue_functions (je_var (i := 0) rfl (by first | exact .inl rfl | exact .inr (.inl rfl) | exact .inr (.inr rfl)))))
      (jb_one js_never)
      jb_nil))⟩), (F.binds (ps := ["tongue"]) fun _ _ _ _ _ _ us hl => match us, hl with | [_], _ => rfl)⟩, F.kp⟩
end Mi

namespace Mi
open PySem PySem.Spec PyProof.Rows L2
theorem sc_Hall___init__ : FnScope ["self", "tongue"] ["self", "tongue"] (defScope s_Hall___init__) := ⟨rfl, rfl, rfl, by decide +kernel, rfl, by decide +kernel, by decide +kernel⟩
theorem ok_Hall___init__ {P : Program} {w : World} {K : PySem.W.Frag} {mg : Str → Option Value} {base : Heap} {ca : Nat → Addr} {A : Ad} {fd : FuncData} (T : Txt A K w mg ca) (H_check_plain : Fn P w K mg base ca 1 A.f_check_plain ["tongue"] g_check_plain) (F : Fun K "__init__" "Hall.__init__" s_Hall___init__ A.f_Hall___init__ fd) : FnI P w K mg base ca 1 2 A.f_Hall___init__ "self" ["tongue"] g_Hall___init__ := by
  obtain ⟨fd_check_plain, F_check_plain, B_check_plain⟩ := H_check_plain.ok
  have KP_check_plain := H_check_plain.kp
  refine ⟨⟨fd, fn_init (P := P) (w := w) (mg := mg) (base := base) (ca := ca) (n0 := "self") (N := ["tongue"]) (body := b_Hall___init__) F sc_Hall___init__ fun cdv AA outer s H E hr => (by
    have nd := sc_Hall___init__.nd
    have tk := takes_of (X := cxOf (L2.CX P w) P w K mg base ["self", "tongue"] "Hall.__init__" (defScope s_Hall___init__) A.f_Hall___init__ cdv AA outer s H E) (E := E) rfl rfl rfl rfl
    exact ⟨_, (jb_cons (js_expr (je_call F_check_plain (hr.mono (by decide)) rfl T.g_check_plain KP_check_plain B_check_plain tk (ja_cons (je_var (i := 1) rfl (by first | exact .inl rfl | exact .inr (.inl rfl) | exact .inr (.inr rfl))) ja_nil)))
      (jb_cons (js_fld (c := 1) T.cl_Hall T.na_Hall_kept_tongue (je_var (i := 1) rfl (by first | exact .inl rfl | exact .inr (.inl rfl) | exact .inr (.inr rfl))) (je_var (i := 0) rfl (by first | exact .inl rfl | exact .inr (.inl rfl) | exact .inr (.inr rfl))))
      (jb_cons (js_fld (c := 1) T.cl_Hall T.na_Hall_kept (JN.frz (jn_lst ja_nil)) (je_var (i := 0) rfl (by first | exact .inl rfl | exact .inr (.inl rfl) | exact .inr (.inr rfl))))
      (jb_cons (js_fld (c := 1) T.cl_Hall T.na_Hall_scale (JN.frz jn_dicK) (je_var (i := 0) rfl (by first | exact .inl rfl | exact .inr (.inl rfl) | exact .inr (.inr rfl))))
      (jb_one (js_fld (c := 1) T.cl_Hall T.na_Hall_past (JN.ptr (jn_lst ja_nil)) (je_var (i := 0) rfl (by first | exact .inl rfl | exact .inr (.inl rfl) | exact .inr (.inr rfl)))))))))⟩), (F.binds (ps := ["self", "tongue"]) fun _ _ _ _ _ _ us hl => match us, hl with | [_, _], _ => rfl)⟩⟩
end Mi

namespace Mi
open PySem PySem.Spec PyProof.Rows L2
theorem sc__law_due : FnScope ["_law_rows", "_law_deed", "_law_names_here", "_law_said_here", "_law_weights", "_law_more"] ["_law_rows", "_law_deed", "_law_names_here"] (defScope s__law_due) := ⟨rfl, rfl, rfl, by decide +kernel, rfl, by decide +kernel, by decide +kernel⟩
theorem ok__law_due {P : Program} {w : World} {K : PySem.W.Frag} {mg : Str → Option Value} {base : Heap} {ca : Nat → Addr} {A : Ad} {fd : FuncData} (T : Txt A K w mg ca) (F : Fun K "_law_due" "_law_due" s__law_due A.f__law_due fd) : Fn P w K mg base ca 1 A.f__law_due ["_law_rows", "_law_deed", "_law_names_here"] g__law_due := by
  refine ⟨⟨fd, fn_mir (P := P) (w := w) (mg := mg) (base := base) (ca := ca) (N := ["_law_rows", "_law_deed", "_law_names_here", "_law_said_here", "_law_weights", "_law_more"]) (body := b__law_due) F sc__law_due fun cdv AA outer s H E hr => (by
    have nd := sc__law_due.nd
    have tk := takes_of (X := cxOf (L2.CX P w) P w K mg base ["_law_rows", "_law_deed", "_law_names_here", "_law_said_here", "_law_weights", "_law_more"] "_law_due" (defScope s__law_due) A.f__law_due cdv AA outer s H E) (E := E) rfl rfl rfl rfl
    exact ⟨_, (jb_cons (js_asg (je_ix ix_seq sp_ix (je_var (i := 0) rfl (by first | exact .inl rfl | exact .inr (.inl rfl) | exact .inr (.inr rfl))) (je_un un_neg sp_neg (je_int (i := (1 : Int))))) (jg_tup rfl (jgs_cons (jg_name (i := 3) nd rfl (by first | exact .inl rfl | exact .inr rfl)) (jgs_cons (jg_name (i := 4) nd rfl (by first | exact .inl rfl | exact .inr rfl)) jgs_nil))))
      (jb_cons (js_if (jt_cmp (op_eqD hr.units) sp_eq (je_ix ix_seq sp_ix (je_var (i := 1) rfl (by first | exact .inl rfl | exact .inr (.inl rfl) | exact .inr (.inr rfl))) (je_int (i := (0 : Int)))) (je_str (i := ("back" : Str))) (nomark _))
      (jb_cons (js_if (jt_cmp (op_eqD hr.units) sp_eq (je_callB call_lenU sp_lenU rfl T.b_len (by decide +kernel) (ja_cons (je_var (i := 0) rfl (by first | exact .inl rfl | exact .inr (.inl rfl) | exact .inr (.inr rfl))) ja_nil)) (je_int (i := (1 : Int))) (nomark _))
      (jb_one (js_ret (je_str (i := ("undo" : Str)))))
      jb_nil)
      (jb_cons (js_expr (je_mu0 PySem.F.plainAttrs_list PySem.F.slot_list_pop PySem.F.type_list_pop mt_pop sp_pop ty_lst (je_var (i := 0) rfl (by first | exact .inl rfl | exact .inr (.inl rfl) | exact .inr (.inr rfl)))))
      (jb_one (js_ret je_non))))
      jb_nil)
      (jb_cons (js_if (jt_cmp (op_eqD hr.units) sp_eq (je_ix ix_seq sp_ix (je_var (i := 1) rfl (by first | exact .inl rfl | exact .inr (.inl rfl) | exact .inr (.inr rfl))) (je_int (i := (0 : Int)))) (je_str (i := ("say" : Str))) (nomark _))
      (jb_cons (js_if (jt_cmp (op_eqD hr.units) sp_eq (je_callB call_lenU sp_lenU rfl T.b_len (by decide +kernel) (ja_cons (je_var (i := 3) rfl (by first | exact .inl rfl | exact .inr (.inl rfl) | exact .inr (.inr rfl))) ja_nil)) (je_int (i := (3 : Int))) (nomark _))
      (jb_one (js_ret (je_str (i := ("many" : Str)))))
      jb_nil)
      (jb_one (js_expr (je_mu PySem.F.plainAttrs_list PySem.F.slot_list_append PySem.F.type_list_append mt_append sp_append ty_lst (je_var (i := 0) rfl (by first | exact .inl rfl | exact .inr (.inl rfl) | exact .inr (.inr rfl))) (ja_cons (je_tup (ja_cons (je_op op_addU sp_addU (je_var (i := 3) rfl (by first | exact .inl rfl | exact .inr (.inl rfl) | exact .inr (.inr rfl))) (JN.frz (jn_lst (ja_cons (je_ix ix_seq sp_ix (je_var (i := 1) rfl (by first | exact .inl rfl | exact .inr (.inl rfl) | exact .inr (.inr rfl))) (je_int (i := (1 : Int)))) ja_nil)))) (ja_cons (je_var (i := 4) rfl (by first | exact .inl rfl | exact .inr (.inl rfl) | exact .inr (.inr rfl))) ja_nil))) ja_nil)))))
      (jb_one (js_if (jt_cmp (op_eqD hr.units) sp_eq (je_ix ix_seq sp_ix (je_var (i := 1) rfl (by first | exact .inl rfl | exact .inr (.inl rfl) | exact .inr (.inr rfl))) (je_int (i := (0 : Int)))) (je_str (i := ("drop" : Str))) (nomark _))
      (jb_cons (js_if (jt_inRng op_notInRng rfl T.b_range (je_ix ix_seq sp_ix (je_var (i := 1) rfl (by first | exact .inl rfl | exact .inr (.inl rfl) | exact .inr (.inr rfl))) (je_int (i := (1 : Int)))) (ja_cons (je_callB call_lenU sp_lenU rfl T.b_len (by decide +kernel) (ja_cons (je_var (i := 3) rfl (by first | exact .inl rfl | exact .inr (.inl rfl) | exact .inr (.inr rfl))) ja_nil)) ja_nil) rfl)
      (jb_one (js_ret (je_str (i := ("said" : Str)))))
      jb_nil)
      (jb_one (js_expr (je_mu PySem.F.plainAttrs_list PySem.F.slot_list_append PySem.F.type_list_append mt_append sp_append ty_lst (je_var (i := 0) rfl (by first | exact .inl rfl | exact .inr (.inl rfl) | exact .inr (.inr rfl))) (ja_cons (je_tup (ja_cons (je_op op_addU sp_addU (je_sl (je_var (i := 3) rfl (by first | exact .inl rfl | exact .inr (.inl rfl) | exact .inr (.inr rfl))) jo_none (jo_some (je_ix ix_seq sp_ix (je_var (i := 1) rfl (by first | exact .inl rfl | exact .inr (.inl rfl) | exact .inr (.inr rfl))) (je_int (i := (1 : Int)))))) (je_sl (je_var (i := 3) rfl (by first | exact .inl rfl | exact .inr (.inl rfl) | exact .inr (.inr rfl))) (jo_some (je_op op_addU sp_addU (je_ix ix_seq sp_ix (je_var (i := 1) rfl (by first | exact .inl rfl | exact .inr (.inl rfl) | exact .inr (.inr rfl))) (je_int (i := (1 : Int)))) (je_int (i := (1 : Int))))) jo_none)) (ja_cons (je_var (i := 4) rfl (by first | exact .inl rfl | exact .inr (.inl rfl) | exact .inr (.inr rfl))) ja_nil))) ja_nil)))))
      (jb_cons (js_if (JW.jt (jw_or (jt_cmp (op_notInU (hu_of hr)) sp_inU (je_ix ix_seq sp_ix (je_var (i := 1) rfl (by first | exact .inl rfl | exact .inr (.inl rfl) | exact .inr (.inr rfl))) (je_int (i := (1 : Int)))) (je_var (i := 2) rfl (by first | exact .inl rfl | exact .inr (.inl rfl) | exact .inr (.inr rfl))) rfl) (jw_or1 (jt_cmp (op_notInDp (room65 hr)) sp_inDp (je_ix ix_seq sp_ix (je_var (i := 1) rfl (by first | exact .inl rfl | exact .inr (.inl rfl) | exact .inr (.inr rfl))) (je_int (i := (2 : Int)))) (JN.frz (jn_lst (ja_cons (je_tup (ja_cons (je_int (i := (1 : Int))) (ja_cons (je_int (i := (2 : Int))) ja_nil))) (ja_cons (je_tup (ja_cons (je_int (i := (3 : Int))) (ja_cons (je_int (i := (1 : Int))) ja_nil))) (ja_cons (je_tup (ja_cons (je_int (i := (0 : Int))) (ja_cons (je_int (i := (1 : Int))) ja_nil))) (ja_cons (je_tup (ja_cons (je_int (i := (5 : Int))) (ja_cons (je_int (i := (4 : Int))) ja_nil))) ja_nil)))))) rfl))))
      (jb_one (js_ret (je_str (i := ("weights" : Str)))))
      jb_nil)
      (jb_cons (js_own (i := 5) nd rfl (by first | exact .inl rfl | exact .inr rfl) (jn_copy (je_var (i := 4) rfl (by first | exact .inl rfl | exact .inr (.inl rfl) | exact .inr (.inr rfl)))))
      (jb_cons (js_sub (set_U (hu_of hr)) sp_setU (je_ix ix_seq sp_ix (je_var (i := 1) rfl (by first | exact .inl rfl | exact .inr (.inl rfl) | exact .inr (.inr rfl))) (je_int (i := (2 : Int)))) (je_var (i := 5) rfl (by first | exact .inl rfl | exact .inr (.inl rfl) | exact .inr (.inr rfl))) (je_ix ix_seq sp_ix (je_var (i := 1) rfl (by first | exact .inl rfl | exact .inr (.inl rfl) | exact .inr (.inr rfl))) (je_int (i := (1 : Int)))))
      (jb_one (js_expr (je_mu PySem.F.plainAttrs_list PySem.F.slot_list_append PySem.F.type_list_append mt_append sp_append ty_lst (je_var (i := 0) rfl (by first | exact .inl rfl | exact .inr (.inl rfl) | exact .inr (.inr rfl))) (ja_cons (je_tup (ja_cons (je_var (i := 3) rfl (by first | exact .inl rfl | exact .inr (.inl rfl) | exact .inr (.inr rfl))) (ja_cons (je_var (i := 5) rfl (by first | exact .inl rfl | exact .inr (.inl rfl) | exact .inr (.inr rfl))) ja_nil))) ja_nil))))))))))
      (jb_one (js_ret je_non)))))⟩), (F.binds (ps := ["_law_rows", "_law_deed", "_law_names_here"]) fun _ _ _ _ _ _ us hl => match us, hl with | [_, _, _], _ => rfl)⟩, F.kp⟩
end Mi

namespace Mi
open PySem PySem.Spec PyProof.Rows L2
theorem sc_is_tuple : FnScope ["value", "size"] ["value", "size"] (defScope s_is_tuple) := ⟨rfl, rfl, rfl, by decide +kernel, rfl, by decide +kernel, by decide +kernel⟩
theorem ok_is_tuple {P : Program} {w : World} {K : PySem.W.Frag} {mg : Str → Option Value} {base : Heap} {ca : Nat → Addr} {A : Ad} {fd : FuncData} (T : Txt A K w mg ca) (F : Fun K "is_tuple" "is_tuple" s_is_tuple A.f_is_tuple fd) : Fn P w K mg base ca 1 A.f_is_tuple ["value", "size"] g_is_tuple := by
  refine ⟨⟨fd, fn_mir (P := P) (w := w) (mg := mg) (base := base) (ca := ca) (N := ["value", "size"]) (body := b_is_tuple) F sc_is_tuple fun cdv AA outer s H E hr => (by
    have nd := sc_is_tuple.nd
    have tk := takes_of (X := cxOf (L2.CX P w) P w K mg base ["value", "size"] "is_tuple" (defScope s_is_tuple) A.f_is_tuple cdv AA outer s H E) (E := E) rfl rfl rfl rfl
    exact ⟨_, (jb_one (js_ret (je_and (je_isi rfl T.b_isinstance (je_var (i := 0) rfl (by first | exact .inl rfl | exact .inr (.inl rfl) | exact .inr (.inr rfl))) (pe_bltn (v := .ty "tuple") (u := .type "tuple") rfl T.b_tuple (by decide +kernel) rfl) (.ty _) isa_tuple_ok) (je_one (je_cmp (op_eqD hr.units) sp_eq (je_callB call_lenU sp_lenU rfl T.b_len (by decide +kernel) (ja_cons (je_var (i := 0) rfl (by first | exact .inl rfl | exact .inr (.inl rfl) | exact .inr (.inr rfl))) ja_nil)) (je_var (i := 1) rfl (by first | exact .inl rfl | exact .inr (.inl rfl) | exact .inr (.inr rfl))) (nomark _))))))⟩), (F.binds (ps := ["value", "size"]) fun _ _ _ _ _ _ us hl => match us, hl with | [_, _], _ => rfl)⟩, F.kp⟩
end Mi

namespace Mi
open PySem PySem.Spec PyProof.Rows L2
theorem sc_is_headed : FnScope ["value", "word", "size"] ["value", "word", "size"] (defScope s_is_headed) := ⟨rfl, rfl, rfl, by decide +kernel, rfl, by decide +kernel, by decide +kernel⟩
theorem ok_is_headed {P : Program} {w : World} {K : PySem.W.Frag} {mg : Str → Option Value} {base : Heap} {ca : Nat → Addr} {A : Ad} {fd : FuncData} (T : Txt A K w mg ca) (H_is_tuple : Fn P w K mg base ca 1 A.f_is_tuple ["value", "size"] g_is_tuple) (F : Fun K "is_headed" "is_headed" s_is_headed A.f_is_headed fd) : Fn P w K mg base ca 2 A.f_is_headed ["value", "word", "size"] g_is_headed := by
  obtain ⟨fd_is_tuple, F_is_tuple, B_is_tuple⟩ := H_is_tuple.ok
  have KP_is_tuple := H_is_tuple.kp
  refine ⟨⟨fd, fn_mir (P := P) (w := w) (mg := mg) (base := base) (ca := ca) (N := ["value", "word", "size"]) (body := b_is_headed) F sc_is_headed fun cdv AA outer s H E hr => (by
    have nd := sc_is_headed.nd
    have tk := takes_of (X := cxOf (L2.CX P w) P w K mg base ["value", "word", "size"] "is_headed" (defScope s_is_headed) A.f_is_headed cdv AA outer s H E) (E := E) rfl rfl rfl rfl
    exact ⟨_, (jb_one (js_ret (je_and (je_call F_is_tuple (hr.mono (by decide)) rfl T.g_is_tuple KP_is_tuple B_is_tuple tk (ja_cons (je_var (i := 0) rfl (by first | exact .inl rfl | exact .inr (.inl rfl) | exact .inr (.inr rfl))) (ja_cons (je_var (i := 2) rfl (by first | exact .inl rfl | exact .inr (.inl rfl) | exact .inr (.inr rfl))) ja_nil))) (je_and (je_isi rfl T.b_isinstance (je_ix ix_seq sp_ix (je_var (i := 0) rfl (by first | exact .inl rfl | exact .inr (.inl rfl) | exact .inr (.inr rfl))) (je_int (i := (0 : Int)))) (pe_bltn (v := .ty "str") (u := .type "str") rfl T.b_str (by decide +kernel) rfl) (.ty _) isa_str_ok) (je_one (je_cmp (op_eqD hr.units) sp_eq (je_ix ix_seq sp_ix (je_var (i := 0) rfl (by first | exact .inl rfl | exact .inr (.inl rfl) | exact .inr (.inr rfl))) (je_int (i := (0 : Int)))) (je_var (i := 1) rfl (by first | exact .inl rfl | exact .inr (.inl rfl) | exact .inr (.inr rfl))) (nomark _)))))))⟩), (F.binds (ps := ["value", "word", "size"]) fun _ _ _ _ _ _ us hl => match us, hl with | [_, _, _], _ => rfl)⟩, F.kp⟩
end Mi

namespace Mi
open PySem PySem.Spec PyProof.Rows L2
theorem sc_is_name : FnScope ["value"] ["value"] (defScope s_is_name) := ⟨rfl, rfl, rfl, by decide +kernel, rfl, by decide +kernel, by decide +kernel⟩
theorem ok_is_name {P : Program} {w : World} {K : PySem.W.Frag} {mg : Str → Option Value} {base : Heap} {ca : Nat → Addr} {A : Ad} {fd : FuncData} (T : Txt A K w mg ca) (H_is_key : Fn P w K mg base ca 1 A.f_is_key ["value", "table"] g_is_key) (F : Fun K "is_name" "is_name" s_is_name A.f_is_name fd) : Fn P w K mg base ca 2 A.f_is_name ["value"] g_is_name := by
  obtain ⟨fd_is_key, F_is_key, B_is_key⟩ := H_is_key.ok
  have KP_is_key := H_is_key.kp
  have c_NAMES := T.c_NAMES
  have k_NAMES := T.k_NAMES
  have r_NAMES : ∀ {W ρ H}, Reps ⟨K, ca⟩ W ρ H [.str ("x" : Str), .str ("y" : Str)] NAMES_ds := .cons .str (.cons .str (.nil))
  refine ⟨⟨fd, fn_mir (P := P) (w := w) (mg := mg) (base := base) (ca := ca) (N := ["value"]) (body := b_is_name) F sc_is_name fun cdv AA outer s H E hr => (by
    have nd := sc_is_name.nd
    have tk := takes_of (X := cxOf (L2.CX P w) P w K mg base ["value"] "is_name" (defScope s_is_name) A.f_is_name cdv AA outer s H E) (E := E) rfl rfl rfl rfl
    exact ⟨_, (jb_one (js_ret (je_call F_is_key (hr.mono (by decide)) rfl T.g_is_key KP_is_key B_is_key tk (ja_cons (je_var (i := 0) rfl (by first | exact .inl rfl | exact .inr (.inl rfl) | exact .inr (.inr rfl))) (ja_cons (je_gtup (ds := NAMES_ds) rfl c_NAMES k_NAMES fun _ _ _ => r_NAMES) ja_nil)))))⟩), (F.binds (ps := ["value"]) fun _ _ _ _ _ _ us hl => match us, hl with | [_], _ => rfl)⟩, F.kp⟩
end Mi

namespace Mi
open PySem PySem.Spec PyProof.Rows L2
theorem sc_Tongue_marks : FnScope ["self"] ["self"] (defScope s_Tongue_marks) := ⟨rfl, rfl, rfl, by decide +kernel, rfl, by decide +kernel, by decide +kernel⟩
theorem ok_Tongue_marks {P : Program} {w : World} {K : PySem.W.Frag} {mg : Str → Option Value} {base : Heap} {ca : Nat → Addr} {A : Ad} {fd : FuncData} (T : Txt A K w mg ca) (F : Fun K "marks" "Tongue.marks" s_Tongue_marks A.f_Tongue_marks fd) : Fn P w K mg base ca 1 A.f_Tongue_marks ["self"] g_Tongue_marks := by
  refine ⟨⟨fd, fn_mir (P := P) (w := w) (mg := mg) (base := base) (ca := ca) (N := ["self"]) (body := b_Tongue_marks) F sc_Tongue_marks fun cdv AA outer s H E hr => (by
    have nd := sc_Tongue_marks.nd
    have tk := takes_of (X := cxOf (L2.CX P w) P w K mg base ["self"] "Tongue.marks" (defScope s_Tongue_marks) A.f_Tongue_marks cdv AA outer s H E) (E := E) rfl rfl rfl rfl
    exact ⟨_, (jb_one (js_ret (je_fld (c := 0) T.cl_Tongue T.na_Tongue_kept_marks (je_var (i := 0) rfl (by first | exact .inl rfl | exact .inr (.inl rfl) | exact .inr (.inr rfl))))))⟩), (F.binds (ps := ["self"]) fun _ _ _ _ _ _ us hl => match us, hl with | [_], _ => rfl)⟩, F.kp⟩
end Mi

namespace Mi
open PySem PySem.Spec PyProof.Rows L2
theorem sc_Tongue_ties : FnScope ["self"] ["self"] (defScope s_Tongue_ties) := ⟨rfl, rfl, rfl, by decide +kernel, rfl, by decide +kernel, by decide +kernel⟩
theorem ok_Tongue_ties {P : Program} {w : World} {K : PySem.W.Frag} {mg : Str → Option Value} {base : Heap} {ca : Nat → Addr} {A : Ad} {fd : FuncData} (T : Txt A K w mg ca) (F : Fun K "ties" "Tongue.ties" s_Tongue_ties A.f_Tongue_ties fd) : Fn P w K mg base ca 1 A.f_Tongue_ties ["self"] g_Tongue_ties := by
  refine ⟨⟨fd, fn_mir (P := P) (w := w) (mg := mg) (base := base) (ca := ca) (N := ["self"]) (body := b_Tongue_ties) F sc_Tongue_ties fun cdv AA outer s H E hr => (by
    have nd := sc_Tongue_ties.nd
    have tk := takes_of (X := cxOf (L2.CX P w) P w K mg base ["self"] "Tongue.ties" (defScope s_Tongue_ties) A.f_Tongue_ties cdv AA outer s H E) (E := E) rfl rfl rfl rfl
    exact ⟨_, (jb_one (js_ret (je_fld (c := 0) T.cl_Tongue T.na_Tongue_kept_ties (je_var (i := 0) rfl (by first | exact .inl rfl | exact .inr (.inl rfl) | exact .inr (.inr rfl))))))⟩), (F.binds (ps := ["self"]) fun _ _ _ _ _ _ us hl => match us, hl with | [_], _ => rfl)⟩, F.kp⟩
end Mi

namespace Mi
open PySem PySem.Spec PyProof.Rows L2
theorem sc_is_test : FnScope ["tongue", "value"] ["tongue", "value"] (defScope s_is_test) := ⟨rfl, rfl, rfl, by decide +kernel, rfl, by decide +kernel, by decide +kernel⟩
theorem ok_is_test {P : Program} {w : World} {K : PySem.W.Frag} {mg : Str → Option Value} {base : Heap} {ca : Nat → Addr} {A : Ad} {fd : FuncData} (T : Txt A K w mg ca) (H_is_headed : Fn P w K mg base ca 2 A.f_is_headed ["value", "word", "size"] g_is_headed) (H_is_key : Fn P w K mg base ca 1 A.f_is_key ["value", "table"] g_is_key) (H_Tongue_marks : Fn P w K mg base ca 1 A.f_Tongue_marks ["self"] g_Tongue_marks) (H_is_name : Fn P w K mg base ca 2 A.f_is_name ["value"] g_is_name) (H_Tongue_ties : Fn P w K mg base ca 1 A.f_Tongue_ties ["self"] g_Tongue_ties) (F : Fun K "is_test" "is_test" s_is_test A.f_is_test fd) : Fn P w K mg base ca 3 A.f_is_test ["tongue", "value"] g_is_test := by
  obtain ⟨fd_is_headed, F_is_headed, B_is_headed⟩ := H_is_headed.ok
  have KP_is_headed := H_is_headed.kp
  obtain ⟨fd_is_key, F_is_key, B_is_key⟩ := H_is_key.ok
  have KP_is_key := H_is_key.kp
  obtain ⟨fd_Tongue_marks, F_Tongue_marks, B_Tongue_marks⟩ := H_Tongue_marks.ok
  have KP_Tongue_marks := H_Tongue_marks.kp
  obtain ⟨fd_is_name, F_is_name, B_is_name⟩ := H_is_name.ok
  have KP_is_name := H_is_name.kp
  obtain ⟨fd_Tongue_ties, F_Tongue_ties, B_Tongue_ties⟩ := H_Tongue_ties.ok
  have KP_Tongue_ties := H_Tongue_ties.kp
  refine ⟨⟨fd, fn_mir (P := P) (w := w) (mg := mg) (base := base) (ca := ca) (N := ["tongue", "value"]) (body := b_is_test) F sc_is_test fun cdv AA outer s H E hr => (by
    have nd := sc_is_test.nd
    have tk := takes_of (X := cxOf (L2.CX P w) P w K mg base ["tongue", "value"] "is_test" (defScope s_is_test) A.f_is_test cdv AA outer s H E) (E := E) rfl rfl rfl rfl
    exact ⟨_, (jb_cons (js_if (jt_val (je_call F_is_headed (hr.mono (by decide)) rfl T.g_is_headed KP_is_headed B_is_headed tk (ja_cons (je_var (i := 1) rfl (by first | exact .inl rfl | exact .inr (.inl rfl) | exact .inr (.inr rfl))) (ja_cons (je_str (i := ("true" : Str))) (ja_cons (je_int (i := (1 : Int))) ja_nil)))))
      (jb_one (js_ret (je_bl (i := true))))
      jb_nil)
      (jb_cons (js_if (jt_val (je_call F_is_headed (hr.mono (by decide)) rfl T.g_is_headed KP_is_headed B_is_headed tk (ja_cons (je_var (i := 1) rfl (by first | exact .inl rfl | exact .inr (.inl rfl) | exact .inr (.inr rfl))) (ja_cons (je_str (i := ("mark" : Str))) (ja_cons (je_int (i := (3 : Int))) ja_nil)))))
      (jb_one (js_ret (je_and (je_call F_is_key (hr.mono (by decide)) rfl T.g_is_key KP_is_key B_is_key tk (ja_cons (je_ix ix_seq sp_ix (je_var (i := 1) rfl (by first | exact .inl rfl | exact .inr (.inl rfl) | exact .inr (.inr rfl))) (je_int (i := (1 : Int)))) (ja_cons (je_prop (c := 0) T.cl_Tongue T.pr_Tongue_marks F_Tongue_marks (hr.mono (by decide)) B_Tongue_marks (je_var (i := 0) rfl (by first | exact .inl rfl | exact .inr (.inl rfl) | exact .inr (.inr rfl)))) ja_nil))) (je_one (je_call F_is_name (hr.mono (by decide)) rfl T.g_is_name KP_is_name B_is_name tk (ja_cons (je_ix ix_seq sp_ix (je_var (i := 1) rfl (by first | exact .inl rfl | exact .inr (.inl rfl) | exact .inr (.inr rfl))) (je_int (i := (2 : Int)))) ja_nil))))))
      jb_nil)
      (jb_cons (js_if (jt_val (je_call F_is_headed (hr.mono (by decide)) rfl T.g_is_headed KP_is_headed B_is_headed tk (ja_cons (je_var (i := 1) rfl (by first | exact .inl rfl | exact .inr (.inl rfl) | exact .inr (.inr rfl))) (ja_cons (je_str (i := ("tie" : Str))) (ja_cons (je_int (i := (4 : Int))) ja_nil)))))
      (jb_one (js_ret (je_and (je_call F_is_key (hr.mono (by decide)) rfl T.g_is_key KP_is_key B_is_key tk (ja_cons (je_ix ix_seq sp_ix (je_var (i := 1) rfl (by first | exact .inl rfl | exact .inr (.inl rfl) | exact .inr (.inr rfl))) (je_int (i := (1 : Int)))) (ja_cons (je_prop (c := 0) T.cl_Tongue T.pr_Tongue_ties F_Tongue_ties (hr.mono (by decide)) B_Tongue_ties (je_var (i := 0) rfl (by first | exact .inl rfl | exact .inr (.inl rfl) | exact .inr (.inr rfl)))) ja_nil))) (je_and (je_call F_is_name (hr.mono (by decide)) rfl T.g_is_name KP_is_name B_is_name tk (ja_cons (je_ix ix_seq sp_ix (je_var (i := 1) rfl (by first | exact .inl rfl | exact .inr (.inl rfl) | exact .inr (.inr rfl))) (je_int (i := (2 : Int)))) ja_nil)) (je_one (je_call F_is_name (hr.mono (by decide)) rfl T.g_is_name KP_is_name B_is_name tk (ja_cons (je_ix ix_seq sp_ix (je_var (i := 1) rfl (by first | exact .inl rfl | exact .inr (.inl rfl) | exact .inr (.inr rfl))) (je_int (i := (3 : Int)))) ja_nil)))))))
      jb_nil)
      (jb_one (js_ret (je_and (je_call F_is_headed (hr.mono (by decide)) rfl T.g_is_headed KP_is_headed B_is_headed tk (ja_cons (je_var (i := 1) rfl (by first | exact .inl rfl | exact .inr (.inl rfl) | exact .inr (.inr rfl))) (ja_cons (je_str (i := ("same" : Str))) (ja_cons (je_int (i := (3 : Int))) ja_nil)))) (je_and (je_call F_is_name (hr.mono (by decide)) rfl T.g_is_name KP_is_name B_is_name tk (ja_cons (je_ix ix_seq sp_ix (je_var (i := 1) rfl (by first | exact .inl rfl | exact .inr (.inl rfl) | exact .inr (.inr rfl))) (je_int (i := (1 : Int)))) ja_nil)) (je_one (je_call F_is_name (hr.mono (by decide)) rfl T.g_is_name KP_is_name B_is_name tk (ja_cons (je_ix ix_seq sp_ix (je_var (i := 1) rfl (by first | exact .inl rfl | exact .inr (.inl rfl) | exact .inr (.inr rfl))) (je_int (i := (2 : Int)))) ja_nil))))))))))⟩), (F.binds (ps := ["tongue", "value"]) fun _ _ _ _ _ _ us hl => match us, hl with | [_, _], _ => rfl)⟩, F.kp⟩
end Mi

namespace Mi
open PySem PySem.Spec PyProof.Rows L2
theorem sc_parts_of : FnScope ["tongue", "value"] ["tongue", "value"] (defScope s_parts_of) := ⟨rfl, rfl, rfl, by decide +kernel, rfl, by decide +kernel, by decide +kernel⟩
theorem ok_parts_of {P : Program} {w : World} {K : PySem.W.Frag} {mg : Str → Option Value} {base : Heap} {ca : Nat → Addr} {A : Ad} {fd : FuncData} (T : Txt A K w mg ca) (H_is_test : Fn P w K mg base ca 3 A.f_is_test ["tongue", "value"] g_is_test) (H_is_headed : Fn P w K mg base ca 2 A.f_is_headed ["value", "word", "size"] g_is_headed) (H_is_tuple : Fn P w K mg base ca 1 A.f_is_tuple ["value", "size"] g_is_tuple) (H_is_name : Fn P w K mg base ca 2 A.f_is_name ["value"] g_is_name) (F : Fun K "parts_of" "parts_of" s_parts_of A.f_parts_of fd) : Fn P w K mg base ca 4 A.f_parts_of ["tongue", "value"] g_parts_of := by
  obtain ⟨fd_is_test, F_is_test, B_is_test⟩ := H_is_test.ok
  have KP_is_test := H_is_test.kp
  obtain ⟨fd_is_headed, F_is_headed, B_is_headed⟩ := H_is_headed.ok
  have KP_is_headed := H_is_headed.kp
  obtain ⟨fd_is_tuple, F_is_tuple, B_is_tuple⟩ := H_is_tuple.ok
  have KP_is_tuple := H_is_tuple.kp
  obtain ⟨fd_is_name, F_is_name, B_is_name⟩ := H_is_name.ok
  have KP_is_name := H_is_name.kp
  have c_BINDING := T.c_BINDING
  have k_BINDING := T.k_BINDING
  have r_BINDING : ∀ {W ρ H}, Reps ⟨K, ca⟩ W ρ H [.str ("each" : Str), .str ("some" : Str)] BINDING_ds := .cons .str (.cons .str (.nil))
  have c_JOINING := T.c_JOINING
  have k_JOINING := T.k_JOINING
  have r_JOINING : ∀ {W ρ H}, Reps ⟨K, ca⟩ W ρ H [.str ("and" : Str), .str ("or" : Str)] JOINING_ds := .cons .str (.cons .str (.nil))
  refine ⟨⟨fd, fn_mir (P := P) (w := w) (mg := mg) (base := base) (ca := ca) (N := ["tongue", "value"]) (body := b_parts_of) F sc_parts_of fun cdv AA outer s H E hr => (by
    have nd := sc_parts_of.nd
    have tk := takes_of (X := cxOf (L2.CX P w) P w K mg base ["tongue", "value"] "parts_of" (defScope s_parts_of) A.f_parts_of cdv AA outer s H E) (E := E) rfl rfl rfl rfl
    exact ⟨_, (jb_cons (js_if (jt_val (je_call F_is_test (hr.mono (by decide)) rfl T.g_is_test KP_is_test B_is_test tk (ja_cons (je_var (i := 0) rfl (by first | exact .inl rfl | exact .inr (.inl rfl) | exact .inr (.inr rfl))) (ja_cons (je_var (i := 1) rfl (by first | exact .inl rfl | exact .inr (.inl rfl) | exact .inr (.inr rfl))) ja_nil))))
      (jb_one (js_ret (JN.frz (jn_lst ja_nil))))
      jb_nil)
      (jb_cons (js_if (jt_val (je_call F_is_headed (hr.mono (by decide)) rfl T.g_is_headed KP_is_headed B_is_headed tk (ja_cons (je_var (i := 1) rfl (by first | exact .inl rfl | exact .inr (.inl rfl) | exact .inr (.inr rfl))) (ja_cons (je_str (i := ("not" : Str))) (ja_cons (je_int (i := (2 : Int))) ja_nil)))))
      (jb_one (js_ret (JN.frz (jn_lst (ja_cons (je_ix ix_seq sp_ix (je_var (i := 1) rfl (by first | exact .inl rfl | exact .inr (.inl rfl) | exact .inr (.inr rfl))) (je_int (i := (1 : Int)))) ja_nil)))))
      jb_nil)
      (jb_cons (js_if (JW.jt (jw_or (jt_not (jt_val (je_call F_is_tuple (hr.mono (by decide)) rfl T.g_is_tuple KP_is_tuple B_is_tuple tk (ja_cons (je_var (i := 1) rfl (by first | exact .inl rfl | exact .inr (.inl rfl) | exact .inr (.inr rfl))) (ja_cons (je_int (i := (3 : Int))) ja_nil))))) (jw_or1 (jt_not (jt_val (je_isi rfl T.b_isinstance (je_ix ix_seq sp_ix (je_var (i := 1) rfl (by first | exact .inl rfl | exact .inr (.inl rfl) | exact .inr (.inr rfl))) (je_int (i := (0 : Int)))) (pe_bltn (v := .ty "str") (u := .type "str") rfl T.b_str (by decide +kernel) rfl) (.ty _) isa_str_ok))))))
      (jb_one (js_ret je_non))
      jb_nil)
      (jb_cons (js_if (jt_cmp (op_inU (hu_of hr)) sp_inU (je_ix ix_seq sp_ix (je_var (i := 1) rfl (by first | exact .inl rfl | exact .inr (.inl rfl) | exact .inr (.inr rfl))) (je_int (i := (0 : Int)))) (je_gtup (ds := JOINING_ds) rfl c_JOINING k_JOINING fun _ _ _ => r_JOINING) rfl)
      (jb_one (js_ret (JN.frz (jn_lst (ja_cons (je_ix ix_seq sp_ix (je_var (i := 1) rfl (by first | exact .inl rfl | exact .inr (.inl rfl) | exact .inr (.inr rfl))) (je_int (i := (1 : Int)))) (ja_cons (je_ix ix_seq sp_ix (je_var (i := 1) rfl (by first | exact .inl rfl | exact .inr (.inl rfl) | exact .inr (.inr rfl))) (je_int (i := (2 : Int)))) ja_nil))))))
      jb_nil)
      (jb_cons (js_if (JW.jt (jw_and (jt_cmp (op_inU (hu_of hr)) sp_inU (je_ix ix_seq sp_ix (je_var (i := 1) rfl (by first | exact .inl rfl | exact .inr (.inl rfl) | exact .inr (.inr rfl))) (je_int (i := (0 : Int)))) (je_gtup (ds := BINDING_ds) rfl c_BINDING k_BINDING fun _ _ _ => r_BINDING) rfl) (jw_and1 (jt_val (je_call F_is_name (hr.mono (by decide)) rfl T.g_is_name KP_is_name B_is_name tk (ja_cons (je_ix ix_seq sp_ix (je_var (i := 1) rfl (by first | exact .inl rfl | exact .inr (.inl rfl) | exact .inr (.inr rfl))) (je_int (i := (1 : Int)))) ja_nil))))))
      (jb_one (js_ret (JN.frz (jn_lst (ja_cons (je_ix ix_seq sp_ix (je_var (i := 1) rfl (by first | exact .inl rfl | exact .inr (.inl rfl) | exact .inr (.inr rfl))) (je_int (i := (2 : Int)))) ja_nil)))))
      jb_nil)
      (jb_one (js_ret je_non)))))))⟩), (F.binds (ps := ["tongue", "value"]) fun _ _ _ _ _ _ us hl => match us, hl with | [_, _], _ => rfl)⟩, F.kp⟩
end Mi

namespace Mi
open PySem PySem.Spec PyProof.Rows L2
theorem sc_is_saying : FnScope ["tongue", "value", "waiting", "seen", "parts", "inner", "part", "depth"] ["tongue", "value"] (defScope s_is_saying) := ⟨rfl, rfl, rfl, by decide +kernel, rfl, by decide +kernel, by decide +kernel⟩
theorem ok_is_saying {P : Program} {w : World} {K : PySem.W.Frag} {mg : Str → Option Value} {base : Heap} {ca : Nat → Addr} {A : Ad} {fd : FuncData} (T : Txt A K w mg ca) (H_parts_of : Fn P w K mg base ca 4 A.f_parts_of ["tongue", "value"] g_parts_of) (F : Fun K "is_saying" "is_saying" s_is_saying A.f_is_saying fd) : Fn P w K mg base ca 5 A.f_is_saying ["tongue", "value"] g_is_saying := by
  obtain ⟨fd_parts_of, F_parts_of, B_parts_of⟩ := H_parts_of.ok
  have KP_parts_of := H_parts_of.kp
  obtain ⟨_, c_MOST_DEEP⟩ := T.c_MOST_DEEP
  obtain ⟨_, c_MOST_TUPLES⟩ := T.c_MOST_TUPLES
  refine ⟨⟨fd, fn_mir (P := P) (w := w) (mg := mg) (base := base) (ca := ca) (N := ["tongue", "value", "waiting", "seen", "parts", "inner", "part", "depth"]) (body := b_is_saying) F sc_is_saying fun cdv AA outer s H E hr => (by
    have nd := sc_is_saying.nd
    have tk := takes_of (X := cxOf (L2.CX P w) P w K mg base ["tongue", "value", "waiting", "seen", "parts", "inner", "part", "depth"] "is_saying" (defScope s_is_saying) A.f_is_saying cdv AA outer s H E) (E := E) rfl rfl rfl rfl
    exact ⟨_, (jb_cons (js_own (i := 2) nd rfl (by first | exact .inl rfl | exact .inr rfl) (jn_lst (ja_cons (je_tup (ja_cons (je_var (i := 1) rfl (by first | exact .inl rfl | exact .inr (.inl rfl) | exact .inr (.inr rfl))) (ja_cons (je_int (i := (1 : Int))) ja_nil))) ja_nil)))
      (jb_cons (js_set (i := 3) nd rfl (by first | exact .inl rfl | exact .inr rfl) (je_int (i := (0 : Int))))
      (jb_cons (js_while (passes_of rfl) (jt_val (je_var (i := 2) rfl (by first | exact .inl rfl | exact .inr (.inl rfl) | exact .inr (.inr rfl))))
      (jb_cons (js_asg (je_mu0 PySem.F.plainAttrs_list PySem.F.slot_list_pop PySem.F.type_list_pop mt_pop sp_pop ty_lst (je_var (i := 2) rfl (by first | exact .inl rfl | exact .inr (.inl rfl) | exact .inr (.inr rfl)))) (jg_tup rfl (jgs_cons (jg_name (i := 6) nd rfl (by first | exact .inl rfl | exact .inr rfl)) (jgs_cons (jg_name (i := 7) nd rfl (by first | exact .inl rfl | exact .inr rfl)) jgs_nil))))
      (jb_cons (js_aug (i := 3) nd rfl (by first | exact .inl rfl | exact .inr rfl) iop_add sp_addI (je_int (i := (1 : Int))))
      (jb_cons (js_set (i := 4) nd rfl (by first | exact .inl rfl | exact .inr rfl) (je_call F_parts_of (hr.mono (by decide)) rfl T.g_parts_of KP_parts_of B_parts_of tk (ja_cons (je_var (i := 0) rfl (by first | exact .inl rfl | exact .inr (.inl rfl) | exact .inr (.inr rfl))) (ja_cons (je_var (i := 6) rfl (by first | exact .inl rfl | exact .inr (.inl rfl) | exact .inr (.inr rfl))) ja_nil))))
      (jb_cons (js_if (JW.jt (jw_or (jt_cmp op_isN sp_isN (je_var (i := 4) rfl (by first | exact .inl rfl | exact .inr (.inl rfl) | exact .inr (.inr rfl))) je_non (nomark _)) (jw_or (jt_cmp op_gt sp_cmp (je_var (i := 3) rfl (by first | exact .inl rfl | exact .inr (.inl rfl) | exact .inr (.inr rfl))) (je_gint (i := (100 : Int)) rfl c_MOST_TUPLES) (nomark _)) (jw_or1 (jt_cmp op_gt sp_cmp (je_var (i := 7) rfl (by first | exact .inl rfl | exact .inr (.inl rfl) | exact .inr (.inr rfl))) (je_gint (i := (20 : Int)) rfl c_MOST_DEEP) (nomark _))))))
      (jb_one (js_ret (je_bl (i := false))))
      jb_nil)
      (jb_one (js_for (passes_of rfl) rfl (ji_seq (je_var (i := 4) rfl (by first | exact .inl rfl | exact .inr (.inl rfl) | exact .inr (.inr rfl)))) (jg_name (i := 5) nd rfl (by first | exact .inl rfl | exact .inr rfl))
      (jb_one (js_expr (je_mu PySem.F.plainAttrs_list PySem.F.slot_list_append PySem.F.type_list_append mt_append sp_append ty_lst (je_var (i := 2) rfl (by first | exact .inl rfl | exact .inr (.inl rfl) | exact .inr (.inr rfl))) (ja_cons (je_tup (ja_cons (je_var (i := 5) rfl (by first | exact .inl rfl | exact .inr (.inl rfl) | exact .inr (.inr rfl))) (ja_cons (je_op op_addU sp_addU (je_var (i := 7) rfl (by first | exact .inl rfl | exact .inr (.inl rfl) | exact .inr (.inr rfl))) (je_int (i := (1 : Int)))) ja_nil))) ja_nil)))))))))))
      (jb_one (js_ret (je_bl (i := true)))))))⟩), (F.binds (ps := ["tongue", "value"]) fun _ _ _ _ _ _ us hl => match us, hl with | [_, _], _ => rfl)⟩, F.kp⟩
end Mi

namespace Mi
open PySem PySem.Spec PyProof.Rows L2
theorem sc_check_saying : FnScope ["tongue", "saying"] ["tongue", "saying"] (defScope s_check_saying) := ⟨rfl, rfl, rfl, by decide +kernel, rfl, by decide +kernel, by decide +kernel⟩
theorem ok_check_saying {P : Program} {w : World} {K : PySem.W.Frag} {mg : Str → Option Value} {base : Heap} {ca : Nat → Addr} {A : Ad} {fd : FuncData} (T : Txt A K w mg ca) (H_is_saying : Fn P w K mg base ca 5 A.f_is_saying ["tongue", "value"] g_is_saying) (F : Fun K "check_saying" "check_saying" s_check_saying A.f_check_saying fd) : Fn P w K mg base ca 6 A.f_check_saying ["tongue", "saying"] g_check_saying := by
  obtain ⟨fd_is_saying, F_is_saying, B_is_saying⟩ := H_is_saying.ok
  have KP_is_saying := H_is_saying.kp
  refine ⟨⟨fd, fn_mir (P := P) (w := w) (mg := mg) (base := base) (ca := ca) (N := ["tongue", "saying"]) (body := b_check_saying) F sc_check_saying fun cdv AA outer s H E hr => (by
    have nd := sc_check_saying.nd
    have tk := takes_of (X := cxOf (L2.CX P w) P w K mg base ["tongue", "saying"] "check_saying" (defScope s_check_saying) A.f_check_saying cdv AA outer s H E) (E := E) rfl rfl rfl rfl
    exact ⟨_, (jb_one (js_if (jt_not (jt_val (je_call F_is_saying (hr.mono (by decide)) rfl T.g_is_saying KP_is_saying B_is_saying tk (ja_cons (je_var (i := 0) rfl (by first | exact .inl rfl | exact .inr (.inl rfl) | exact .inr (.inr rfl))) (ja_cons (je_var (i := 1) rfl (by first | exact .inl rfl | exact .inr (.inl rfl) | exact .inr (.inr rfl))) ja_nil)))))
      (jb_one js_never)
      jb_nil))⟩), (F.binds (ps := ["tongue", "saying"]) fun _ _ _ _ _ _ us hl => match us, hl with | [_, _], _ => rfl)⟩, F.kp⟩
end Mi

namespace Mi
open PySem PySem.Spec PyProof.Rows L2
theorem sc_own_names : FnScope ["saying"] ["saying"] (defScope s_own_names) := ⟨rfl, rfl, rfl, by decide +kernel, rfl, by decide +kernel, by decide +kernel⟩
theorem ok_own_names {P : Program} {w : World} {K : PySem.W.Frag} {mg : Str → Option Value} {base : Heap} {ca : Nat → Addr} {A : Ad} {fd : FuncData} (T : Txt A K w mg ca) (F : Fun K "own_names" "own_names" s_own_names A.f_own_names fd) : Fn P w K mg base ca 1 A.f_own_names ["saying"] g_own_names := by
  refine ⟨⟨fd, fn_mir (P := P) (w := w) (mg := mg) (base := base) (ca := ca) (N := ["saying"]) (body := b_own_names) F sc_own_names fun cdv AA outer s H E hr => (by
    have nd := sc_own_names.nd
    have tk := takes_of (X := cxOf (L2.CX P w) P w K mg base ["saying"] "own_names" (defScope s_own_names) A.f_own_names cdv AA outer s H E) (E := E) rfl rfl rfl rfl
    exact ⟨_, (jb_cons (js_if (jt_cmp (op_eqD hr.units) sp_eq (je_ix ix_seq sp_ix (je_var (i := 0) rfl (by first | exact .inl rfl | exact .inr (.inl rfl) | exact .inr (.inr rfl))) (je_int (i := (0 : Int)))) (je_str (i := ("mark" : Str))) (nomark _))
      (jb_one (js_ret (je_tup (ja_cons (je_ix ix_seq sp_ix (je_var (i := 0) rfl (by first | exact .inl rfl | exact .inr (.inl rfl) | exact .inr (.inr rfl))) (je_int (i := (2 : Int)))) ja_nil))))
      jb_nil)
      (jb_cons (js_if (jt_cmp (op_eqD hr.units) sp_eq (je_ix ix_seq sp_ix (je_var (i := 0) rfl (by first | exact .inl rfl | exact .inr (.inl rfl) | exact .inr (.inr rfl))) (je_int (i := (0 : Int)))) (je_str (i := ("tie" : Str))) (nomark _))
      (jb_one (js_ret (je_tup (ja_cons (je_ix ix_seq sp_ix (je_var (i := 0) rfl (by first | exact .inl rfl | exact .inr (.inl rfl) | exact .inr (.inr rfl))) (je_int (i := (2 : Int)))) (ja_cons (je_ix ix_seq sp_ix (je_var (i := 0) rfl (by first | exact .inl rfl | exact .inr (.inl rfl) | exact .inr (.inr rfl))) (je_int (i := (3 : Int)))) ja_nil)))))
      jb_nil)
      (jb_cons (js_if (jt_cmp (op_eqD hr.units) sp_eq (je_ix ix_seq sp_ix (je_var (i := 0) rfl (by first | exact .inl rfl | exact .inr (.inl rfl) | exact .inr (.inr rfl))) (je_int (i := (0 : Int)))) (je_str (i := ("same" : Str))) (nomark _))
      (jb_one (js_ret (je_tup (ja_cons (je_ix ix_seq sp_ix (je_var (i := 0) rfl (by first | exact .inl rfl | exact .inr (.inl rfl) | exact .inr (.inr rfl))) (je_int (i := (1 : Int)))) (ja_cons (je_ix ix_seq sp_ix (je_var (i := 0) rfl (by first | exact .inl rfl | exact .inr (.inl rfl) | exact .inr (.inr rfl))) (je_int (i := (2 : Int)))) ja_nil)))))
      jb_nil)
      (jb_one (js_ret (je_tup ja_nil))))))⟩), (F.binds (ps := ["saying"]) fun _ _ _ _ _ _ us hl => match us, hl with | [_], _ => rfl)⟩, F.kp⟩
end Mi

namespace Mi
open PySem PySem.Spec PyProof.Rows L2
theorem sc_sayings_in : FnScope ["saying"] ["saying"] (defScope s_sayings_in) := ⟨rfl, rfl, rfl, by decide +kernel, rfl, by decide +kernel, by decide +kernel⟩
theorem ok_sayings_in {P : Program} {w : World} {K : PySem.W.Frag} {mg : Str → Option Value} {base : Heap} {ca : Nat → Addr} {A : Ad} {fd : FuncData} (T : Txt A K w mg ca) (F : Fun K "sayings_in" "sayings_in" s_sayings_in A.f_sayings_in fd) : Fn P w K mg base ca 1 A.f_sayings_in ["saying"] g_sayings_in := by
  have c_BINDING := T.c_BINDING
  have k_BINDING := T.k_BINDING
  have r_BINDING : ∀ {W ρ H}, Reps ⟨K, ca⟩ W ρ H [.str ("each" : Str), .str ("some" : Str)] BINDING_ds := .cons .str (.cons .str (.nil))
  have c_JOINING := T.c_JOINING
  have k_JOINING := T.k_JOINING
  have r_JOINING : ∀ {W ρ H}, Reps ⟨K, ca⟩ W ρ H [.str ("and" : Str), .str ("or" : Str)] JOINING_ds := .cons .str (.cons .str (.nil))
  refine ⟨⟨fd, fn_mir (P := P) (w := w) (mg := mg) (base := base) (ca := ca) (N := ["saying"]) (body := b_sayings_in) F sc_sayings_in fun cdv AA outer s H E hr => (by
    have nd := sc_sayings_in.nd
    have tk := takes_of (X := cxOf (L2.CX P w) P w K mg base ["saying"] "sayings_in" (defScope s_sayings_in) A.f_sayings_in cdv AA outer s H E) (E := E) rfl rfl rfl rfl
    exact ⟨_, (jb_cons (js_if (jt_cmp (op_eqD hr.units) sp_eq (je_ix ix_seq sp_ix (je_var (i := 0) rfl (by first | exact .inl rfl | exact .inr (.inl rfl) | exact .inr (.inr rfl))) (je_int (i := (0 : Int)))) (je_str (i := ("not" : Str))) (nomark _))
      (jb_one (js_ret (je_tup (ja_cons (je_ix ix_seq sp_ix (je_var (i := 0) rfl (by first | exact .inl rfl | exact .inr (.inl rfl) | exact .inr (.inr rfl))) (je_int (i := (1 : Int)))) ja_nil))))
      jb_nil)
      (jb_cons (js_if (jt_cmp (op_inU (hu_of hr)) sp_inU (je_ix ix_seq sp_ix (je_var (i := 0) rfl (by first | exact .inl rfl | exact .inr (.inl rfl) | exact .inr (.inr rfl))) (je_int (i := (0 : Int)))) (je_gtup (ds := JOINING_ds) rfl c_JOINING k_JOINING fun _ _ _ => r_JOINING) rfl)
      (jb_one (js_ret (je_tup (ja_cons (je_ix ix_seq sp_ix (je_var (i := 0) rfl (by first | exact .inl rfl | exact .inr (.inl rfl) | exact .inr (.inr rfl))) (je_int (i := (1 : Int)))) (ja_cons (je_ix ix_seq sp_ix (je_var (i := 0) rfl (by first | exact .inl rfl | exact .inr (.inl rfl) | exact .inr (.inr rfl))) (je_int (i := (2 : Int)))) ja_nil)))))
      jb_nil)
      (jb_cons (js_if (jt_cmp (op_inU (hu_of hr)) sp_inU (je_ix ix_seq sp_ix (je_var (i := 0) rfl (by first | exact .inl rfl | exact .inr (.inl rfl) | exact .inr (.inr rfl))) (je_int (i := (0 : Int)))) (je_gtup (ds := BINDING_ds) rfl c_BINDING k_BINDING fun _ _ _ => r_BINDING) rfl)
      (jb_one (js_ret (je_tup (ja_cons (je_ix ix_seq sp_ix (je_var (i := 0) rfl (by first | exact .inl rfl | exact .inr (.inl rfl) | exact .inr (.inr rfl))) (je_int (i := (2 : Int)))) ja_nil))))
      jb_nil)
      (jb_one (js_ret (je_tup ja_nil))))))⟩), (F.binds (ps := ["saying"]) fun _ _ _ _ _ _ us hl => match us, hl with | [_], _ => rfl)⟩, F.kp⟩
end Mi

namespace Mi
open PySem PySem.Spec PyProof.Rows L2
theorem sc_free_names : FnScope ["saying", "found", "name", "inner"] ["saying"] (defScope s_free_names) := ⟨rfl, rfl, rfl, by decide +kernel, rfl, by decide +kernel, by decide +kernel⟩
theorem ok_free_names {P : Program} {w : World} {K : PySem.W.Frag} {mg : Str → Option Value} {base : Heap} {ca : Nat → Addr} {A : Ad} {fd : FuncData} (T : Txt A K w mg ca) (H_own_names : Fn P w K mg base ca 1 A.f_own_names ["saying"] g_own_names) (H_sayings_in : Fn P w K mg base ca 1 A.f_sayings_in ["saying"] g_sayings_in) (F : Fun K "free_names" "free_names" s_free_names A.f_free_names fd) : ∀ n, Fn P w K mg base ca (1 + n) A.f_free_names ["saying"] (g_free_names n)
  | 0 => ⟨⟨fd, fn_zero, (F.binds (ps := ["saying"]) fun _ _ _ _ _ _ us hl => match us, hl with | [_], _ => rfl)⟩, F.kp⟩
  | n + 1 => by
    have HH_free_names := ok_free_names (P := P) (base := base) T H_own_names H_sayings_in F n
    obtain ⟨fd_free_names, F_free_names, B_free_names⟩ := HH_free_names.ok
    have KP_free_names := HH_free_names.kp
    obtain ⟨fd_own_names, F_own_names, B_own_names⟩ := H_own_names.ok
    have KP_own_names := H_own_names.kp
    obtain ⟨fd_sayings_in, F_sayings_in, B_sayings_in⟩ := H_sayings_in.ok
    have KP_sayings_in := H_sayings_in.kp
    have c_BINDING := T.c_BINDING
    have k_BINDING := T.k_BINDING
    have r_BINDING : ∀ {W ρ H}, Reps ⟨K, ca⟩ W ρ H [.str ("each" : Str), .str ("some" : Str)] BINDING_ds := .cons .str (.cons .str (.nil))
    have c_NAMES := T.c_NAMES
    have k_NAMES := T.k_NAMES
    have r_NAMES : ∀ {W ρ H}, Reps ⟨K, ca⟩ W ρ H [.str ("x" : Str), .str ("y" : Str)] NAMES_ds := .cons .str (.cons .str (.nil))
    refine ⟨⟨fd, fn_mir (P := P) (w := w) (mg := mg) (base := base) (ca := ca) (N := ["saying", "found", "name", "inner"]) (body := b_free_names (g_free_names n)) (k := 1 + n) F sc_free_names fun cdv AA outer s H E hr => (by
    have nd := sc_free_names.nd
    have tk := takes_of (X := cxOf (L2.CX P w) P w K mg base ["saying", "found", "name", "inner"] "free_names" (defScope s_free_names) A.f_free_names cdv AA outer s H E) (E := E) rfl rfl rfl rfl
    exact ⟨_, (jb_cons (js_own (i := 1) nd rfl (by first | exact .inl rfl | exact .inr rfl) jn_dicK)
      (jb_cons (js_for (passes_of rfl) rfl (ji_seq (je_call F_own_names (hr.mono (by omega)) rfl T.g_own_names KP_own_names B_own_names tk (ja_cons (je_var (i := 0) rfl (by first | exact .inl rfl | exact .inr (.inl rfl) | exact .inr (.inr rfl))) ja_nil))) (jg_name (i := 2) nd rfl (by first | exact .inl rfl | exact .inr rfl))
      (jb_one (js_sub (set_U (hu_of hr)) sp_setU (je_bl (i := true)) (je_var (i := 1) rfl (by first | exact .inl rfl | exact .inr (.inl rfl) | exact .inr (.inr rfl))) (je_var (i := 2) rfl (by first | exact .inl rfl | exact .inr (.inl rfl) | exact .inr (.inr rfl))))))
      (jb_cons (js_for (passes_of rfl) rfl (ji_seq (je_call F_sayings_in (hr.mono (by omega)) rfl T.g_sayings_in KP_sayings_in B_sayings_in tk (ja_cons (je_var (i := 0) rfl (by first | exact .inl rfl | exact .inr (.inl rfl) | exact .inr (.inr rfl))) ja_nil))) (jg_name (i := 3) nd rfl (by first | exact .inl rfl | exact .inr rfl))
      (jb_one (js_for (passes_of rfl) rfl (ji_seq (je_call F_free_names hr rfl T.g_free_names KP_free_names B_free_names tk (ja_cons (je_var (i := 3) rfl (by first | exact .inl rfl | exact .inr (.inl rfl) | exact .inr (.inr rfl))) ja_nil))) (jg_name (i := 2) nd rfl (by first | exact .inl rfl | exact .inr rfl))
      (jb_one (js_if (JW.jt (jw_or (jt_cmp (op_notInU (hu_of hr)) sp_inU (je_ix ix_seq sp_ix (je_var (i := 0) rfl (by first | exact .inl rfl | exact .inr (.inl rfl) | exact .inr (.inr rfl))) (je_int (i := (0 : Int)))) (je_gtup (ds := BINDING_ds) rfl c_BINDING k_BINDING fun _ _ _ => r_BINDING) rfl) (jw_or1 (jt_cmp (op_neD hr.units) sp_ne (je_var (i := 2) rfl (by first | exact .inl rfl | exact .inr (.inl rfl) | exact .inr (.inr rfl))) (je_ix ix_seq sp_ix (je_var (i := 0) rfl (by first | exact .inl rfl | exact .inr (.inl rfl) | exact .inr (.inr rfl))) (je_int (i := (1 : Int)))) (nomark _)))))
      (jb_one (js_sub (set_U (hu_of hr)) sp_setU (je_bl (i := true)) (je_var (i := 1) rfl (by first | exact .inl rfl | exact .inr (.inl rfl) | exact .inr (.inr rfl))) (je_var (i := 2) rfl (by first | exact .inl rfl | exact .inr (.inl rfl) | exact .inr (.inr rfl)))))
      jb_nil)))))
      (jb_one (js_ret (je_callTy call_tuple_of sp_tuple rfl T.b_tuple (by decide +kernel) (ja_cons (JN.frz (jn_lc (tt := (tTest (tOp (rInU K false) (tVar 2) (tVar 1)))) (te := (tVar 2)) (mt := (tstB (op2 (inD false) (vr 2) (vr 1)))) (me := (vr 2)) (own := [("name", 2)]) rfl nd (by exact (ji_seq (je_gtup (ds := NAMES_ds) rfl c_NAMES k_NAMES fun _ _ _ => r_NAMES))) (blkOk_by (own := [("name", 2)]) (N := ["saying", "found", "name", "inner"]) (sc := defScope s_free_names) (by decide +kernel)) (fun _ _ _ _ _ => by exact (jg_name (i := 2) nd rfl (by first | exact .inl rfl | exact .inr rfl))) (gw_name (by decide)) gN_len (fun _ _ _ _ _ => by exact (jts_one (jt_cmp (op_inU (hu_of hr)) sp_inU (je_var (i := 2) rfl (by first | exact .inl rfl | exact .inr (.inl rfl) | exact .inr (.inr rfl))) (je_var (i := 1) rfl (by first | exact .inl rfl | exact .inr (.inl rfl) | exact .inr (.inr rfl))) rfl))) (fun _ _ _ _ _ => by exact (je_var (i := 2) rfl (by first | exact .inl rfl | exact .inr (.inl rfl) | exact .inr (.inr rfl)))))) ja_nil)))))))⟩), (F.binds (ps := ["saying"]) fun _ _ _ _ _ _ us hl => match us, hl with | [_], _ => rfl)⟩, F.kp⟩
end Mi

namespace Mi
open PySem PySem.Spec PyProof.Rows L2
theorem sc_check_closed : FnScope ["tongue", "saying"] ["tongue", "saying"] (defScope s_check_closed) := ⟨rfl, rfl, rfl, by decide +kernel, rfl, by decide +kernel, by decide +kernel⟩
theorem ok_check_closed {P : Program} {w : World} {K : PySem.W.Frag} {mg : Str → Option Value} {base : Heap} {ca : Nat → Addr} {A : Ad} {fd : FuncData} (T : Txt A K w mg ca) (H_check_saying : Fn P w K mg base ca 6 A.f_check_saying ["tongue", "saying"] g_check_saying) (H_free_names : Fn P w K mg base ca 23 A.f_free_names ["saying"] (g_free_names 22)) (F : Fun K "check_closed" "check_closed" s_check_closed A.f_check_closed fd) : Fn P w K mg base ca 24 A.f_check_closed ["tongue", "saying"] g_check_closed := by
  obtain ⟨fd_check_saying, F_check_saying, B_check_saying⟩ := H_check_saying.ok
  have KP_check_saying := H_check_saying.kp
  obtain ⟨fd_free_names, F_free_names, B_free_names⟩ := H_free_names.ok
  have KP_free_names := H_free_names.kp
  refine ⟨⟨fd, fn_mir (P := P) (w := w) (mg := mg) (base := base) (ca := ca) (N := ["tongue", "saying"]) (body := b_check_closed) F sc_check_closed fun cdv AA outer s H E hr => (by
    have nd := sc_check_closed.nd
    have tk := takes_of (X := cxOf (L2.CX P w) P w K mg base ["tongue", "saying"] "check_closed" (defScope s_check_closed) A.f_check_closed cdv AA outer s H E) (E := E) rfl rfl rfl rfl
    exact ⟨_, (jb_cons (js_expr (je_call F_check_saying (hr.mono (by decide)) rfl T.g_check_saying KP_check_saying B_check_saying tk (ja_cons (je_var (i := 0) rfl (by first | exact .inl rfl | exact .inr (.inl rfl) | exact .inr (.inr rfl))) (ja_cons (je_var (i := 1) rfl (by first | exact .inl rfl | exact .inr (.inl rfl) | exact .inr (.inr rfl))) ja_nil))))
      (jb_one (js_if (jt_val (je_call F_free_names (hr.mono (by decide)) rfl T.g_free_names KP_free_names B_free_names tk (ja_cons (je_var (i := 1) rfl (by first | exact .inl rfl | exact .inr (.inl rfl) | exact .inr (.inr rfl))) ja_nil)))
      (jb_one js_never)
      jb_nil)))⟩), (F.binds (ps := ["tongue", "saying"]) fun _ _ _ _ _ _ us hl => match us, hl with | [_, _], _ => rfl)⟩, F.kp⟩
end Mi

namespace Mi
open PySem PySem.Spec PyProof.Rows L2
theorem sc_Hall_change : FnScope ["self", "kept", "scale"] ["self", "kept", "scale"] (defScope s_Hall_change) := ⟨rfl, rfl, rfl, by decide +kernel, rfl, by decide +kernel, by decide +kernel⟩
theorem ok_Hall_change {P : Program} {w : World} {K : PySem.W.Frag} {mg : Str → Option Value} {base : Heap} {ca : Nat → Addr} {A : Ad} {fd : FuncData} (T : Txt A K w mg ca) (F : Fun K "change" "Hall.change" s_Hall_change A.f_Hall_change fd) : Fn P w K mg base ca 1 A.f_Hall_change ["self", "kept", "scale"] g_Hall_change := by
  refine ⟨⟨fd, fn_mir (P := P) (w := w) (mg := mg) (base := base) (ca := ca) (N := ["self", "kept", "scale"]) (body := b_Hall_change) F sc_Hall_change fun cdv AA outer s H E hr => (by
    have nd := sc_Hall_change.nd
    have tk := takes_of (X := cxOf (L2.CX P w) P w K mg base ["self", "kept", "scale"] "Hall.change" (defScope s_Hall_change) A.f_Hall_change cdv AA outer s H E) (E := E) rfl rfl rfl rfl
    exact ⟨_, (jb_cons (js_expr (je_mu PySem.F.plainAttrs_list PySem.F.slot_list_append PySem.F.type_list_append mt_append sp_append ty_lst (je_fld (c := 1) T.cl_Hall T.na_Hall_past (je_var (i := 0) rfl (by first | exact .inl rfl | exact .inr (.inl rfl) | exact .inr (.inr rfl)))) (ja_cons (je_tup (ja_cons (je_fld (c := 1) T.cl_Hall T.na_Hall_kept (je_var (i := 0) rfl (by first | exact .inl rfl | exact .inr (.inl rfl) | exact .inr (.inr rfl)))) (ja_cons (je_fld (c := 1) T.cl_Hall T.na_Hall_scale (je_var (i := 0) rfl (by first | exact .inl rfl | exact .inr (.inl rfl) | exact .inr (.inr rfl)))) ja_nil))) ja_nil)))
      (jb_cons (js_fld (c := 1) T.cl_Hall T.na_Hall_kept (je_var (i := 1) rfl (by first | exact .inl rfl | exact .inr (.inl rfl) | exact .inr (.inr rfl))) (je_var (i := 0) rfl (by first | exact .inl rfl | exact .inr (.inl rfl) | exact .inr (.inr rfl))))
      (jb_one (js_fld (c := 1) T.cl_Hall T.na_Hall_scale (je_var (i := 2) rfl (by first | exact .inl rfl | exact .inr (.inl rfl) | exact .inr (.inr rfl))) (je_var (i := 0) rfl (by first | exact .inl rfl | exact .inr (.inl rfl) | exact .inr (.inr rfl)))))))⟩), (F.binds (ps := ["self", "kept", "scale"]) fun _ _ _ _ _ _ us hl => match us, hl with | [_, _, _], _ => rfl)⟩, F.kp⟩
end Mi

namespace Mi
open PySem PySem.Spec PyProof.Rows L2
theorem sc_Hall_say : FnScope ["self", "saying"] ["self", "saying"] (defScope s_Hall_say) := ⟨rfl, rfl, rfl, by decide +kernel, rfl, by decide +kernel, by decide +kernel⟩
theorem ok_Hall_say {P : Program} {w : World} {K : PySem.W.Frag} {mg : Str → Option Value} {base : Heap} {ca : Nat → Addr} {A : Ad} {fd : FuncData} (T : Txt A K w mg ca) (H_check_closed : Fn P w K mg base ca 24 A.f_check_closed ["tongue", "saying"] g_check_closed) (H_Hall_change : Fn P w K mg base ca 1 A.f_Hall_change ["self", "kept", "scale"] g_Hall_change) (F : Fun K "say" "Hall.say" s_Hall_say A.f_Hall_say fd) : Fn P w K mg base ca 25 A.f_Hall_say ["self", "saying"] g_Hall_say := by
  obtain ⟨fd_check_closed, F_check_closed, B_check_closed⟩ := H_check_closed.ok
  have KP_check_closed := H_check_closed.kp
  obtain ⟨fd_Hall_change, F_Hall_change, B_Hall_change⟩ := H_Hall_change.ok
  have KP_Hall_change := H_Hall_change.kp
  obtain ⟨_, c_MOST_SAID⟩ := T.c_MOST_SAID
  refine ⟨⟨fd, fn_mir (P := P) (w := w) (mg := mg) (base := base) (ca := ca) (N := ["self", "saying"]) (body := b_Hall_say) F sc_Hall_say fun cdv AA outer s H E hr => (by
    have nd := sc_Hall_say.nd
    have tk := takes_of (X := cxOf (L2.CX P w) P w K mg base ["self", "saying"] "Hall.say" (defScope s_Hall_say) A.f_Hall_say cdv AA outer s H E) (E := E) rfl rfl rfl rfl
    exact ⟨_, (jb_cons (js_expr (je_call F_check_closed (hr.mono (by decide)) rfl T.g_check_closed KP_check_closed B_check_closed tk (ja_cons (je_fld (c := 1) T.cl_Hall T.na_Hall_kept_tongue (je_var (i := 0) rfl (by first | exact .inl rfl | exact .inr (.inl rfl) | exact .inr (.inr rfl)))) (ja_cons (je_var (i := 1) rfl (by first | exact .inl rfl | exact .inr (.inl rfl) | exact .inr (.inr rfl))) ja_nil))))
      (jb_cons (js_if (jt_cmp (op_eqD hr.units) sp_eq (je_callB call_lenU sp_lenU rfl T.b_len (by decide +kernel) (ja_cons (je_fld (c := 1) T.cl_Hall T.na_Hall_kept (je_var (i := 0) rfl (by first | exact .inl rfl | exact .inr (.inl rfl) | exact .inr (.inr rfl)))) ja_nil)) (je_gint (i := (3 : Int)) rfl c_MOST_SAID) (nomark _))
      (jb_one (js_raiseO rfl tk T.x_TooMany T.gx_TooMany rfl))
      jb_nil)
      (jb_one (js_expr (je_meth (c := 1) F_Hall_change (hr.mono (by decide)) T.cl_Hall T.me_Hall_change B_Hall_change tk (je_var (i := 0) rfl (by first | exact .inl rfl | exact .inr (.inl rfl) | exact .inr (.inr rfl))) (ja_cons (je_op op_addU sp_addU (je_fld (c := 1) T.cl_Hall T.na_Hall_kept (je_var (i := 0) rfl (by first | exact .inl rfl | exact .inr (.inl rfl) | exact .inr (.inr rfl)))) (JN.frz (jn_lst (ja_cons (je_var (i := 1) rfl (by first | exact .inl rfl | exact .inr (.inl rfl) | exact .inr (.inr rfl))) ja_nil)))) (ja_cons (je_fld (c := 1) T.cl_Hall T.na_Hall_scale (je_var (i := 0) rfl (by first | exact .inl rfl | exact .inr (.inl rfl) | exact .inr (.inr rfl)))) ja_nil)))))))⟩), (F.binds (ps := ["self", "saying"]) fun _ _ _ _ _ _ us hl => match us, hl with | [_, _], _ => rfl)⟩, F.kp⟩
end Mi

namespace Mi
open PySem PySem.Spec PyProof.Rows L2
theorem sc_is_integer : FnScope ["value"] ["value"] (defScope s_is_integer) := ⟨rfl, rfl, rfl, by decide +kernel, rfl, by decide +kernel, by decide +kernel⟩
theorem ok_is_integer {P : Program} {w : World} {K : PySem.W.Frag} {mg : Str → Option Value} {base : Heap} {ca : Nat → Addr} {A : Ad} {fd : FuncData} (T : Txt A K w mg ca) (F : Fun K "is_integer" "is_integer" s_is_integer A.f_is_integer fd) : Fn P w K mg base ca 1 A.f_is_integer ["value"] g_is_integer := by
  refine ⟨⟨fd, fn_mir (P := P) (w := w) (mg := mg) (base := base) (ca := ca) (N := ["value"]) (body := b_is_integer) F sc_is_integer fun cdv AA outer s H E hr => (by
    have nd := sc_is_integer.nd
    have tk := takes_of (X := cxOf (L2.CX P w) P w K mg base ["value"] "is_integer" (defScope s_is_integer) A.f_is_integer cdv AA outer s H E) (E := E) rfl rfl rfl rfl
    exact ⟨_, (jb_one (js_ret (je_and (je_isi rfl T.b_isinstance (je_var (i := 0) rfl (by first | exact .inl rfl | exact .inr (.inl rfl) | exact .inr (.inr rfl))) (pe_bltn (v := .ty "int") (u := .type "int") rfl T.b_int (by decide +kernel) rfl) (.ty _) isa_int_ok) (je_one (je_not (je_isi rfl T.b_isinstance (je_var (i := 0) rfl (by first | exact .inl rfl | exact .inr (.inl rfl) | exact .inr (.inr rfl))) (pe_bltn (v := .ty "bool") (u := .type "bool") rfl T.b_bool (by decide +kernel) rfl) (.ty _) isa_bool_ok))))))⟩), (F.binds (ps := ["value"]) fun _ _ _ _ _ _ us hl => match us, hl with | [_], _ => rfl)⟩, F.kp⟩
end Mi

namespace Mi
open PySem PySem.Spec PyProof.Rows L2
theorem sc_is_within : FnScope ["value", "least", "most"] ["value", "least", "most"] (defScope s_is_within) := ⟨rfl, rfl, rfl, by decide +kernel, rfl, by decide +kernel, by decide +kernel⟩
theorem ok_is_within {P : Program} {w : World} {K : PySem.W.Frag} {mg : Str → Option Value} {base : Heap} {ca : Nat → Addr} {A : Ad} {fd : FuncData} (T : Txt A K w mg ca) (H_is_integer : Fn P w K mg base ca 1 A.f_is_integer ["value"] g_is_integer) (F : Fun K "is_within" "is_within" s_is_within A.f_is_within fd) : Fn P w K mg base ca 2 A.f_is_within ["value", "least", "most"] g_is_within := by
  obtain ⟨fd_is_integer, F_is_integer, B_is_integer⟩ := H_is_integer.ok
  have KP_is_integer := H_is_integer.kp
  refine ⟨⟨fd, fn_mir (P := P) (w := w) (mg := mg) (base := base) (ca := ca) (N := ["value", "least", "most"]) (body := b_is_within) F sc_is_within fun cdv AA outer s H E hr => (by
    have nd := sc_is_within.nd
    have tk := takes_of (X := cxOf (L2.CX P w) P w K mg base ["value", "least", "most"] "is_within" (defScope s_is_within) A.f_is_within cdv AA outer s H E) (E := E) rfl rfl rfl rfl
    exact ⟨_, (jb_one (js_ret (je_and (je_call F_is_integer (hr.mono (by decide)) rfl T.g_is_integer KP_is_integer B_is_integer tk (ja_cons (je_var (i := 0) rfl (by first | exact .inl rfl | exact .inr (.inl rfl) | exact .inr (.inr rfl))) ja_nil)) (je_one (je_chn op_le sp_cmp op_le sp_cmp (je_var (i := 1) rfl (by first | exact .inl rfl | exact .inr (.inl rfl) | exact .inr (.inr rfl))) (je_var (i := 0) rfl (by first | exact .inl rfl | exact .inr (.inl rfl) | exact .inr (.inr rfl))) (je_var (i := 2) rfl (by first | exact .inl rfl | exact .inr (.inl rfl) | exact .inr (.inr rfl))))))))⟩), (F.binds (ps := ["value", "least", "most"]) fun _ _ _ _ _ _ us hl => match us, hl with | [_, _, _], _ => rfl)⟩, F.kp⟩
end Mi

namespace Mi
open PySem PySem.Spec PyProof.Rows L2
theorem sc_Hall_drop : FnScope ["self", "index"] ["self", "index"] (defScope s_Hall_drop) := ⟨rfl, rfl, rfl, by decide +kernel, rfl, by decide +kernel, by decide +kernel⟩
theorem ok_Hall_drop {P : Program} {w : World} {K : PySem.W.Frag} {mg : Str → Option Value} {base : Heap} {ca : Nat → Addr} {A : Ad} {fd : FuncData} (T : Txt A K w mg ca) (H_is_within : Fn P w K mg base ca 2 A.f_is_within ["value", "least", "most"] g_is_within) (H_Hall_change : Fn P w K mg base ca 1 A.f_Hall_change ["self", "kept", "scale"] g_Hall_change) (F : Fun K "drop" "Hall.drop" s_Hall_drop A.f_Hall_drop fd) : Fn P w K mg base ca 3 A.f_Hall_drop ["self", "index"] g_Hall_drop := by
  obtain ⟨fd_is_within, F_is_within, B_is_within⟩ := H_is_within.ok
  have KP_is_within := H_is_within.kp
  obtain ⟨fd_Hall_change, F_Hall_change, B_Hall_change⟩ := H_Hall_change.ok
  have KP_Hall_change := H_Hall_change.kp
  refine ⟨⟨fd, fn_mir (P := P) (w := w) (mg := mg) (base := base) (ca := ca) (N := ["self", "index"]) (body := b_Hall_drop) F sc_Hall_drop fun cdv AA outer s H E hr => (by
    have nd := sc_Hall_drop.nd
    have tk := takes_of (X := cxOf (L2.CX P w) P w K mg base ["self", "index"] "Hall.drop" (defScope s_Hall_drop) A.f_Hall_drop cdv AA outer s H E) (E := E) rfl rfl rfl rfl
    exact ⟨_, (jb_cons (js_if (jt_not (jt_val (je_call F_is_within (hr.mono (by decide)) rfl T.g_is_within KP_is_within B_is_within tk (ja_cons (je_var (i := 1) rfl (by first | exact .inl rfl | exact .inr (.inl rfl) | exact .inr (.inr rfl))) (ja_cons (je_int (i := (0 : Int))) (ja_cons (je_op op_sub sp_sub (je_callB call_lenU sp_lenU rfl T.b_len (by decide +kernel) (ja_cons (je_fld (c := 1) T.cl_Hall T.na_Hall_kept (je_var (i := 0) rfl (by first | exact .inl rfl | exact .inr (.inl rfl) | exact .inr (.inr rfl)))) ja_nil)) (je_int (i := (1 : Int)))) ja_nil))))))
      (jb_one (js_raiseO rfl tk T.x_NoSaid T.gx_NoSaid rfl))
      jb_nil)
      (jb_one (js_expr (je_meth (c := 1) F_Hall_change (hr.mono (by decide)) T.cl_Hall T.me_Hall_change B_Hall_change tk (je_var (i := 0) rfl (by first | exact .inl rfl | exact .inr (.inl rfl) | exact .inr (.inr rfl))) (ja_cons (je_op op_addU sp_addU (je_sl (je_fld (c := 1) T.cl_Hall T.na_Hall_kept (je_var (i := 0) rfl (by first | exact .inl rfl | exact .inr (.inl rfl) | exact .inr (.inr rfl)))) jo_none (jo_some (je_var (i := 1) rfl (by first | exact .inl rfl | exact .inr (.inl rfl) | exact .inr (.inr rfl))))) (je_sl (je_fld (c := 1) T.cl_Hall T.na_Hall_kept (je_var (i := 0) rfl (by first | exact .inl rfl | exact .inr (.inl rfl) | exact .inr (.inr rfl)))) (jo_some (je_op op_addU sp_addU (je_var (i := 1) rfl (by first | exact .inl rfl | exact .inr (.inl rfl) | exact .inr (.inr rfl))) (je_int (i := (1 : Int))))) jo_none)) (ja_cons (je_fld (c := 1) T.cl_Hall T.na_Hall_scale (je_var (i := 0) rfl (by first | exact .inl rfl | exact .inr (.inl rfl) | exact .inr (.inr rfl)))) ja_nil))))))⟩), (F.binds (ps := ["self", "index"]) fun _ _ _ _ _ _ us hl => match us, hl with | [_, _], _ => rfl)⟩, F.kp⟩
end Mi

namespace Mi
open PySem PySem.Spec PyProof.Rows L2
theorem sc_common_divisor : FnScope ["one", "other"] ["one", "other"] (defScope s_common_divisor) := ⟨rfl, rfl, rfl, by decide +kernel, rfl, by decide +kernel, by decide +kernel⟩
theorem ok_common_divisor {P : Program} {w : World} {K : PySem.W.Frag} {mg : Str → Option Value} {base : Heap} {ca : Nat → Addr} {A : Ad} {fd : FuncData} (T : Txt A K w mg ca) (F : Fun K "common_divisor" "common_divisor" s_common_divisor A.f_common_divisor fd) : Fn P w K mg base ca 1 A.f_common_divisor ["one", "other"] g_common_divisor := by
  refine ⟨⟨fd, fn_mir (P := P) (w := w) (mg := mg) (base := base) (ca := ca) (N := ["one", "other"]) (body := b_common_divisor) F sc_common_divisor fun cdv AA outer s H E hr => (by
    have nd := sc_common_divisor.nd
    have tk := takes_of (X := cxOf (L2.CX P w) P w K mg base ["one", "other"] "common_divisor" (defScope s_common_divisor) A.f_common_divisor cdv AA outer s H E) (E := E) rfl rfl rfl rfl
    exact ⟨_, (jb_cons (js_while (passes_of rfl) (jt_cmp (op_neD hr.units) sp_ne (je_var (i := 1) rfl (by first | exact .inl rfl | exact .inr (.inl rfl) | exact .inr (.inr rfl))) (je_int (i := (0 : Int))) (nomark _))
      (jb_one (js_par (i := 0) (j := 1) rfl nd rfl rfl (by decide) rfl rfl (ja_cons (je_var (i := 1) rfl (by first | exact .inl rfl | exact .inr (.inl rfl) | exact .inr (.inr rfl))) (ja_cons (je_op op_mod sp_mod (je_var (i := 0) rfl (by first | exact .inl rfl | exact .inr (.inl rfl) | exact .inr (.inr rfl))) (je_var (i := 1) rfl (by first | exact .inl rfl | exact .inr (.inl rfl) | exact .inr (.inr rfl)))) ja_nil)) rfl)))
      (jb_one (js_ret (je_var (i := 0) rfl (by first | exact .inl rfl | exact .inr (.inl rfl) | exact .inr (.inr rfl))))))⟩), (F.binds (ps := ["one", "other"]) fun _ _ _ _ _ _ us hl => match us, hl with | [_, _], _ => rfl)⟩, F.kp⟩
end Mi

namespace Mi
open PySem PySem.Spec PyProof.Rows L2
theorem sc_is_fraction : FnScope ["value"] ["value"] (defScope s_is_fraction) := ⟨rfl, rfl, rfl, by decide +kernel, rfl, by decide +kernel, by decide +kernel⟩
theorem ok_is_fraction {P : Program} {w : World} {K : PySem.W.Frag} {mg : Str → Option Value} {base : Heap} {ca : Nat → Addr} {A : Ad} {fd : FuncData} (T : Txt A K w mg ca) (H_is_tuple : Fn P w K mg base ca 1 A.f_is_tuple ["value", "size"] g_is_tuple) (H_is_integer : Fn P w K mg base ca 1 A.f_is_integer ["value"] g_is_integer) (H_common_divisor : Fn P w K mg base ca 1 A.f_common_divisor ["one", "other"] g_common_divisor) (F : Fun K "is_fraction" "is_fraction" s_is_fraction A.f_is_fraction fd) : Fn P w K mg base ca 2 A.f_is_fraction ["value"] g_is_fraction := by
  obtain ⟨fd_is_tuple, F_is_tuple, B_is_tuple⟩ := H_is_tuple.ok
  have KP_is_tuple := H_is_tuple.kp
  obtain ⟨fd_is_integer, F_is_integer, B_is_integer⟩ := H_is_integer.ok
  have KP_is_integer := H_is_integer.kp
  obtain ⟨fd_common_divisor, F_common_divisor, B_common_divisor⟩ := H_common_divisor.ok
  have KP_common_divisor := H_common_divisor.kp
  refine ⟨⟨fd, fn_mir (P := P) (w := w) (mg := mg) (base := base) (ca := ca) (N := ["value"]) (body := b_is_fraction) F sc_is_fraction fun cdv AA outer s H E hr => (by
    have nd := sc_is_fraction.nd
    have tk := takes_of (X := cxOf (L2.CX P w) P w K mg base ["value"] "is_fraction" (defScope s_is_fraction) A.f_is_fraction cdv AA outer s H E) (E := E) rfl rfl rfl rfl
    exact ⟨_, (jb_cons (js_if (JW.jt (jw_or (jt_not (jt_val (je_call F_is_tuple (hr.mono (by decide)) rfl T.g_is_tuple KP_is_tuple B_is_tuple tk (ja_cons (je_var (i := 0) rfl (by first | exact .inl rfl | exact .inr (.inl rfl) | exact .inr (.inr rfl))) (ja_cons (je_int (i := (2 : Int))) ja_nil))))) (jw_or (jt_not (jt_val (je_call F_is_integer (hr.mono (by decide)) rfl T.g_is_integer KP_is_integer B_is_integer tk (ja_cons (je_ix ix_seq sp_ix (je_var (i := 0) rfl (by first | exact .inl rfl | exact .inr (.inl rfl) | exact .inr (.inr rfl))) (je_int (i := (0 : Int)))) ja_nil)))) (jw_or (jt_not (jt_val (je_call F_is_integer (hr.mono (by decide)) rfl T.g_is_integer KP_is_integer B_is_integer tk (ja_cons (je_ix ix_seq sp_ix (je_var (i := 0) rfl (by first | exact .inl rfl | exact .inr (.inl rfl) | exact .inr (.inr rfl))) (je_int (i := (1 : Int)))) ja_nil)))) (jw_or1 (jt_cmp op_lt sp_cmp (je_ix ix_seq sp_ix (je_var (i := 0) rfl (by first | exact .inl rfl | exact .inr (.inl rfl) | exact .inr (.inr rfl))) (je_int (i := (1 : Int)))) (je_int (i := (1 : Int))) (nomark _)))))))
      (jb_one (js_ret (je_bl (i := false))))
      jb_nil)
      (jb_one (js_ret (je_cmp (op_eqD hr.units) sp_eq (je_call F_common_divisor (hr.mono (by decide)) rfl T.g_common_divisor KP_common_divisor B_common_divisor tk (ja_cons (je_callB call_abs sp_abs rfl T.b_abs (by decide +kernel) (ja_cons (je_ix ix_seq sp_ix (je_var (i := 0) rfl (by first | exact .inl rfl | exact .inr (.inl rfl) | exact .inr (.inr rfl))) (je_int (i := (0 : Int)))) ja_nil)) (ja_cons (je_ix ix_seq sp_ix (je_var (i := 0) rfl (by first | exact .inl rfl | exact .inr (.inl rfl) | exact .inr (.inr rfl))) (je_int (i := (1 : Int)))) ja_nil))) (je_int (i := (1 : Int))) (nomark _)))))⟩), (F.binds (ps := ["value"]) fun _ _ _ _ _ _ us hl => match us, hl with | [_], _ => rfl)⟩, F.kp⟩
end Mi

namespace Mi
open PySem PySem.Spec PyProof.Rows L2
theorem sc_is_share : FnScope ["value"] ["value"] (defScope s_is_share) := ⟨rfl, rfl, rfl, by decide +kernel, rfl, by decide +kernel, by decide +kernel⟩
theorem ok_is_share {P : Program} {w : World} {K : PySem.W.Frag} {mg : Str → Option Value} {base : Heap} {ca : Nat → Addr} {A : Ad} {fd : FuncData} (T : Txt A K w mg ca) (H_is_fraction : Fn P w K mg base ca 2 A.f_is_fraction ["value"] g_is_fraction) (F : Fun K "is_share" "is_share" s_is_share A.f_is_share fd) : Fn P w K mg base ca 3 A.f_is_share ["value"] g_is_share := by
  obtain ⟨fd_is_fraction, F_is_fraction, B_is_fraction⟩ := H_is_fraction.ok
  have KP_is_fraction := H_is_fraction.kp
  refine ⟨⟨fd, fn_mir (P := P) (w := w) (mg := mg) (base := base) (ca := ca) (N := ["value"]) (body := b_is_share) F sc_is_share fun cdv AA outer s H E hr => (by
    have nd := sc_is_share.nd
    have tk := takes_of (X := cxOf (L2.CX P w) P w K mg base ["value"] "is_share" (defScope s_is_share) A.f_is_share cdv AA outer s H E) (E := E) rfl rfl rfl rfl
    exact ⟨_, (jb_one (js_ret (je_and (je_call F_is_fraction (hr.mono (by decide)) rfl T.g_is_fraction KP_is_fraction B_is_fraction tk (ja_cons (je_var (i := 0) rfl (by first | exact .inl rfl | exact .inr (.inl rfl) | exact .inr (.inr rfl))) ja_nil)) (je_one (je_cmp op_ge sp_cmp (je_ix ix_seq sp_ix (je_var (i := 0) rfl (by first | exact .inl rfl | exact .inr (.inl rfl) | exact .inr (.inr rfl))) (je_int (i := (0 : Int)))) (je_int (i := (0 : Int))) (nomark _))))))⟩), (F.binds (ps := ["value"]) fun _ _ _ _ _ _ us hl => match us, hl with | [_], _ => rfl)⟩, F.kp⟩
end Mi

namespace Mi
open PySem PySem.Spec PyProof.Rows L2
theorem sc_Hall_weigh : FnScope ["self", "name", "fraction", "scale"] ["self", "name", "fraction"] (defScope s_Hall_weigh) := ⟨rfl, rfl, rfl, by decide +kernel, rfl, by decide +kernel, by decide +kernel⟩
theorem ok_Hall_weigh {P : Program} {w : World} {K : PySem.W.Frag} {mg : Str → Option Value} {base : Heap} {ca : Nat → Addr} {A : Ad} {fd : FuncData} (T : Txt A K w mg ca) (H_is_key : Fn P w K mg base ca 1 A.f_is_key ["value", "table"] g_is_key) (H_Tongue_marks : Fn P w K mg base ca 1 A.f_Tongue_marks ["self"] g_Tongue_marks) (H_Tongue_ties : Fn P w K mg base ca 1 A.f_Tongue_ties ["self"] g_Tongue_ties) (H_is_share : Fn P w K mg base ca 3 A.f_is_share ["value"] g_is_share) (H_Hall_change : Fn P w K mg base ca 1 A.f_Hall_change ["self", "kept", "scale"] g_Hall_change) (F : Fun K "weigh" "Hall.weigh" s_Hall_weigh A.f_Hall_weigh fd) : Fn P w K mg base ca 4 A.f_Hall_weigh ["self", "name", "fraction"] g_Hall_weigh := by
  obtain ⟨fd_is_key, F_is_key, B_is_key⟩ := H_is_key.ok
  have KP_is_key := H_is_key.kp
  obtain ⟨fd_Tongue_marks, F_Tongue_marks, B_Tongue_marks⟩ := H_Tongue_marks.ok
  have KP_Tongue_marks := H_Tongue_marks.kp
  obtain ⟨fd_Tongue_ties, F_Tongue_ties, B_Tongue_ties⟩ := H_Tongue_ties.ok
  have KP_Tongue_ties := H_Tongue_ties.kp
  obtain ⟨fd_is_share, F_is_share, B_is_share⟩ := H_is_share.ok
  have KP_is_share := H_is_share.kp
  obtain ⟨fd_Hall_change, F_Hall_change, B_Hall_change⟩ := H_Hall_change.ok
  have KP_Hall_change := H_Hall_change.kp
  refine ⟨⟨fd, fn_mir (P := P) (w := w) (mg := mg) (base := base) (ca := ca) (N := ["self", "name", "fraction", "scale"]) (body := b_Hall_weigh) F sc_Hall_weigh fun cdv AA outer s H E hr => (by
    have nd := sc_Hall_weigh.nd
    have tk := takes_of (X := cxOf (L2.CX P w) P w K mg base ["self", "name", "fraction", "scale"] "Hall.weigh" (defScope s_Hall_weigh) A.f_Hall_weigh cdv AA outer s H E) (E := E) rfl rfl rfl rfl
    exact ⟨_, (jb_cons (js_if (JW.jt (jw_or (jt_not (jt_val (je_call F_is_key (hr.mono (by decide)) rfl T.g_is_key KP_is_key B_is_key tk (ja_cons (je_var (i := 1) rfl (by first | exact .inl rfl | exact .inr (.inl rfl) | exact .inr (.inr rfl))) (ja_cons (je_op op_addU sp_addU (je_prop (c := 0) T.cl_Tongue T.pr_Tongue_marks F_Tongue_marks (hr.mono (by decide)) B_Tongue_marks (je_fld (c := 1) T.cl_Hall T.na_Hall_kept_tongue (je_var (i := 0) rfl (by first | exact .inl rfl | exact .inr (.inl rfl) | exact .inr (.inr rfl))))) (je_prop (c := 0) T.cl_Tongue T.pr_Tongue_ties F_Tongue_ties (hr.mono (by decide)) B_Tongue_ties (je_fld (c := 1) T.cl_Hall T.na_Hall_kept_tongue (je_var (i := 0) rfl (by first | exact .inl rfl | exact .inr (.inl rfl) | exact .inr (.inr rfl)))))) ja_nil))))) (jw_or1 (jt_not (jt_val (je_call F_is_share (hr.mono (by decide)) rfl T.g_is_share KP_is_share B_is_share tk (ja_cons (je_var (i := 2) rfl (by first | exact .inl rfl | exact .inr (.inl rfl) | exact .inr (.inr rfl))) ja_nil)))))))
      (jb_one (js_raiseO rfl tk T.x_NoWeights T.gx_NoWeights rfl))
      jb_nil)
      (jb_cons (js_own (i := 3) nd rfl (by first | exact .inl rfl | exact .inr rfl) (jn_copy (je_fld (c := 1) T.cl_Hall T.na_Hall_scale (je_var (i := 0) rfl (by first | exact .inl rfl | exact .inr (.inl rfl) | exact .inr (.inr rfl))))))
      (jb_cons (js_sub (set_U (hu_of hr)) sp_setU (je_var (i := 2) rfl (by first | exact .inl rfl | exact .inr (.inl rfl) | exact .inr (.inr rfl))) (je_var (i := 3) rfl (by first | exact .inl rfl | exact .inr (.inl rfl) | exact .inr (.inr rfl))) (je_var (i := 1) rfl (by first | exact .inl rfl | exact .inr (.inl rfl) | exact .inr (.inr rfl))))
      (jb_one (js_expr (je_meth (c := 1) F_Hall_change (hr.mono (by decide)) T.cl_Hall T.me_Hall_change B_Hall_change tk (je_var (i := 0) rfl (by first | exact .inl rfl | exact .inr (.inl rfl) | exact .inr (.inr rfl))) (ja_cons (je_fld (c := 1) T.cl_Hall T.na_Hall_kept (je_var (i := 0) rfl (by first | exact .inl rfl | exact .inr (.inl rfl) | exact .inr (.inr rfl)))) (ja_cons (je_var (i := 3) rfl (by first | exact .inl rfl | exact .inr (.inl rfl) | exact .inr (.inr rfl))) ja_nil))))))))⟩), (F.binds (ps := ["self", "name", "fraction"]) fun _ _ _ _ _ _ us hl => match us, hl with | [_, _, _], _ => rfl)⟩, F.kp⟩
end Mi

namespace Mi
open PySem PySem.Spec PyProof.Rows L2
theorem sc_Hall_back : FnScope ["self"] ["self"] (defScope s_Hall_back) := ⟨rfl, rfl, rfl, by decide +kernel, rfl, by decide +kernel, by decide +kernel⟩
theorem ok_Hall_back {P : Program} {w : World} {K : PySem.W.Frag} {mg : Str → Option Value} {base : Heap} {ca : Nat → Addr} {A : Ad} {fd : FuncData} (T : Txt A K w mg ca) (F : Fun K "back" "Hall.back" s_Hall_back A.f_Hall_back fd) : Fn P w K mg base ca 1 A.f_Hall_back ["self"] g_Hall_back := by
  refine ⟨⟨fd, fn_mir (P := P) (w := w) (mg := mg) (base := base) (ca := ca) (N := ["self"]) (body := b_Hall_back) F sc_Hall_back fun cdv AA outer s H E hr => (by
    have nd := sc_Hall_back.nd
    have tk := takes_of (X := cxOf (L2.CX P w) P w K mg base ["self"] "Hall.back" (defScope s_Hall_back) A.f_Hall_back cdv AA outer s H E) (E := E) rfl rfl rfl rfl
    exact ⟨_, (jb_cons (js_if (jt_cmp (op_eqD hr.units) sp_eq (je_callB call_lenU sp_lenU rfl T.b_len (by decide +kernel) (ja_cons (je_fld (c := 1) T.cl_Hall T.na_Hall_past (je_var (i := 0) rfl (by first | exact .inl rfl | exact .inr (.inl rfl) | exact .inr (.inr rfl)))) ja_nil)) (je_int (i := (0 : Int))) (nomark _))
      (jb_one (js_raiseO rfl tk T.x_NoUndo T.gx_NoUndo rfl))
      jb_nil)
      (jb_one (js_asgF (c := 1) rfl (je_mu0 PySem.F.plainAttrs_list PySem.F.slot_list_pop PySem.F.type_list_pop mt_pop sp_pop ty_lst (je_fld (c := 1) T.cl_Hall T.na_Hall_past (je_var (i := 0) rfl (by first | exact .inl rfl | exact .inr (.inl rfl) | exact .inr (.inr rfl))))) (jfs_cons T.cl_Hall T.na_Hall_kept (je_var (i := 0) rfl (by first | exact .inl rfl | exact .inr (.inl rfl) | exact .inr (.inr rfl))) (jfs_cons T.cl_Hall T.na_Hall_scale (je_var (i := 0) rfl (by first | exact .inl rfl | exact .inr (.inl rfl) | exact .inr (.inr rfl))) jfs_nil)))))⟩), (F.binds (ps := ["self"]) fun _ _ _ _ _ _ us hl => match us, hl with | [_], _ => rfl)⟩, F.kp⟩
end Mi

namespace Mi
open PySem PySem.Spec PyProof.Rows L2
theorem sc__law_did : FnScope ["_law_hall", "_law_deed", "_law_word"] ["_law_hall", "_law_deed"] (defScope s__law_did) := ⟨rfl, rfl, rfl, by decide +kernel, rfl, by decide +kernel, by decide +kernel⟩
theorem ok__law_did {P : Program} {w : World} {K : PySem.W.Frag} {mg : Str → Option Value} {base : Heap} {ca : Nat → Addr} {A : Ad} {fd : FuncData} (T : Txt A K w mg ca) (H_Hall_say : Fn P w K mg base ca 25 A.f_Hall_say ["self", "saying"] g_Hall_say) (H_Hall_drop : Fn P w K mg base ca 3 A.f_Hall_drop ["self", "index"] g_Hall_drop) (H_Hall_weigh : Fn P w K mg base ca 4 A.f_Hall_weigh ["self", "name", "fraction"] g_Hall_weigh) (H_Hall_back : Fn P w K mg base ca 1 A.f_Hall_back ["self"] g_Hall_back) (F : Fun K "_law_did" "_law_did" s__law_did A.f__law_did fd) : Fn P w K mg base ca 26 A.f__law_did ["_law_hall", "_law_deed"] g__law_did := by
  obtain ⟨fd_Hall_say, F_Hall_say, B_Hall_say⟩ := H_Hall_say.ok
  have KP_Hall_say := H_Hall_say.kp
  obtain ⟨fd_Hall_drop, F_Hall_drop, B_Hall_drop⟩ := H_Hall_drop.ok
  have KP_Hall_drop := H_Hall_drop.kp
  obtain ⟨fd_Hall_weigh, F_Hall_weigh, B_Hall_weigh⟩ := H_Hall_weigh.ok
  have KP_Hall_weigh := H_Hall_weigh.kp
  obtain ⟨fd_Hall_back, F_Hall_back, B_Hall_back⟩ := H_Hall_back.ok
  have KP_Hall_back := H_Hall_back.kp
  refine ⟨⟨fd, fn_mir (P := P) (w := w) (mg := mg) (base := base) (ca := ca) (N := ["_law_hall", "_law_deed", "_law_word"]) (body := b__law_did) F sc__law_did fun cdv AA outer s H E hr => (by
    have nd := sc__law_did.nd
    have tk := takes_of (X := cxOf (L2.CX P w) P w K mg base ["_law_hall", "_law_deed", "_law_word"] "_law_did" (defScope s__law_did) A.f__law_did cdv AA outer s H E) (E := E) rfl rfl rfl rfl
    exact ⟨_, (jb_cons (js_set (i := 2) nd rfl (by first | exact .inl rfl | exact .inr rfl) (je_str (i := ("ok" : Str))))
      (jb_cons (js_try T.x_tab rfl rfl tk (fun _ _ _ tkT po => ⟨_, (jb_one (js_if (jt_cmp (op_eqD hr.units) sp_eq (je_ix ix_seq sp_ix (je_var (i := 1) rfl (by first | exact .inl rfl | exact .inr (.inl rfl) | exact .inr (.inr rfl))) (je_int (i := (0 : Int)))) (je_str (i := ("say" : Str))) (nomark _))
      (jb_one (js_set (i := 2) nd rfl (by first | exact .inl rfl | exact .inr rfl) (je_meth (c := 1) F_Hall_say (hr.mono (by decide)) T.cl_Hall T.me_Hall_say B_Hall_say tkT (je_var (i := 0) rfl (by first | exact .inl rfl | exact .inr (.inl rfl) | exact .inr (.inr rfl))) (ja_cons (je_ix ix_seq sp_ix (je_var (i := 1) rfl (by first | exact .inl rfl | exact .inr (.inl rfl) | exact .inr (.inr rfl))) (je_int (i := (1 : Int)))) ja_nil))))
      (jb_one (js_if (jt_cmp (op_eqD hr.units) sp_eq (je_ix ix_seq sp_ix (je_var (i := 1) rfl (by first | exact .inl rfl | exact .inr (.inl rfl) | exact .inr (.inr rfl))) (je_int (i := (0 : Int)))) (je_str (i := ("drop" : Str))) (nomark _))
      (jb_one (js_set (i := 2) nd rfl (by first | exact .inl rfl | exact .inr rfl) (je_meth (c := 1) F_Hall_drop (hr.mono (by decide)) T.cl_Hall T.me_Hall_drop B_Hall_drop tkT (je_var (i := 0) rfl (by first | exact .inl rfl | exact .inr (.inl rfl) | exact .inr (.inr rfl))) (ja_cons (je_ix ix_seq sp_ix (je_var (i := 1) rfl (by first | exact .inl rfl | exact .inr (.inl rfl) | exact .inr (.inr rfl))) (je_int (i := (1 : Int)))) ja_nil))))
      (jb_one (js_if (jt_cmp (op_eqD hr.units) sp_eq (je_ix ix_seq sp_ix (je_var (i := 1) rfl (by first | exact .inl rfl | exact .inr (.inl rfl) | exact .inr (.inr rfl))) (je_int (i := (0 : Int)))) (je_str (i := ("weigh" : Str))) (nomark _))
      (jb_one (js_set (i := 2) nd rfl (by first | exact .inl rfl | exact .inr rfl) (je_meth (c := 1) F_Hall_weigh (hr.mono (by decide)) T.cl_Hall T.me_Hall_weigh B_Hall_weigh tkT (je_var (i := 0) rfl (by first | exact .inl rfl | exact .inr (.inl rfl) | exact .inr (.inr rfl))) (ja_cons (je_ix ix_seq sp_ix (je_var (i := 1) rfl (by first | exact .inl rfl | exact .inr (.inl rfl) | exact .inr (.inr rfl))) (je_int (i := (1 : Int)))) (ja_cons (je_ix ix_seq sp_ix (je_var (i := 1) rfl (by first | exact .inl rfl | exact .inr (.inl rfl) | exact .inr (.inr rfl))) (je_int (i := (2 : Int)))) ja_nil)))))
      (jb_one (js_set (i := 2) nd rfl (by first | exact .inl rfl | exact .inr rfl) (je_meth0 (c := 1) F_Hall_back (hr.mono (by decide)) T.cl_Hall T.me_Hall_back B_Hall_back tkT (je_var (i := 0) rfl (by first | exact .inl rfl | exact .inr (.inl rfl) | exact .inr (.inr rfl))))))))))))⟩) (.cons ⟨rfl, by decide, .inl T.gx_TooMany⟩ (fun _ _ => ⟨_, (jb_one (js_set (i := 2) nd rfl (by first | exact .inl rfl | exact .inr rfl) (je_str (i := ("many" : Str)))))⟩) (.cons ⟨rfl, by decide, .inl T.gx_NoSaid⟩ (fun _ _ => ⟨_, (jb_one (js_set (i := 2) nd rfl (by first | exact .inl rfl | exact .inr rfl) (je_str (i := ("said" : Str)))))⟩) (.cons ⟨rfl, by decide, .inl T.gx_NoWeights⟩ (fun _ _ => ⟨_, (jb_one (js_set (i := 2) nd rfl (by first | exact .inl rfl | exact .inr rfl) (je_str (i := ("weights" : Str)))))⟩) (.cons ⟨rfl, by decide, .inl T.gx_NoUndo⟩ (fun _ _ => ⟨_, (jb_one (js_set (i := 2) nd rfl (by first | exact .inl rfl | exact .inr rfl) (je_str (i := ("undo" : Str)))))⟩) .nil)))))
      (jb_one (js_ret (je_var (i := 2) rfl (by first | exact .inl rfl | exact .inr (.inl rfl) | exact .inr (.inr rfl)))))))⟩), (F.binds (ps := ["_law_hall", "_law_deed"]) fun _ _ _ _ _ _ us hl => match us, hl with | [_, _], _ => rfl)⟩, F.kp⟩
end Mi

namespace Mi
open PySem PySem.Spec PyProof.Rows L2
theorem sc_Hall_scales : FnScope ["self"] ["self"] (defScope s_Hall_scales) := ⟨rfl, rfl, rfl, by decide +kernel, rfl, by decide +kernel, by decide +kernel⟩
theorem ok_Hall_scales {P : Program} {w : World} {K : PySem.W.Frag} {mg : Str → Option Value} {base : Heap} {ca : Nat → Addr} {A : Ad} {fd : FuncData} (T : Txt A K w mg ca) (F : Fun K "scales" "Hall.scales" s_Hall_scales A.f_Hall_scales fd) : Fn P w K mg base ca 1 A.f_Hall_scales ["self"] g_Hall_scales := by
  refine ⟨⟨fd, fn_mir (P := P) (w := w) (mg := mg) (base := base) (ca := ca) (N := ["self"]) (body := b_Hall_scales) F sc_Hall_scales fun cdv AA outer s H E hr => (by
    have nd := sc_Hall_scales.nd
    have tk := takes_of (X := cxOf (L2.CX P w) P w K mg base ["self"] "Hall.scales" (defScope s_Hall_scales) A.f_Hall_scales cdv AA outer s H E) (E := E) rfl rfl rfl rfl
    exact ⟨_, (jb_one (js_ret (JN.ptr (jn_copy (je_fld (c := 1) T.cl_Hall T.na_Hall_scale (je_var (i := 0) rfl (by first | exact .inl rfl | exact .inr (.inl rfl) | exact .inr (.inr rfl))))))))⟩), (F.binds (ps := ["self"]) fun _ _ _ _ _ _ us hl => match us, hl with | [_], _ => rfl)⟩, F.kp⟩
end Mi

namespace Mi
open PySem PySem.Spec PyProof.Rows L2
theorem sc_Tongue___eq__ : FnScope ["self", "other"] ["self", "other"] (defScope s_Tongue___eq__) := ⟨rfl, rfl, rfl, by decide +kernel, rfl, by decide +kernel, by decide +kernel⟩
theorem ok_Tongue___eq__ {P : Program} {w : World} {K : PySem.W.Frag} {mg : Str → Option Value} {base : Heap} {ca : Nat → Addr} {A : Ad} {fd : FuncData} (T : Txt A K w mg ca) (H_Tongue_marks : Fn P w K mg base ca 1 A.f_Tongue_marks ["self"] g_Tongue_marks) (H_Tongue_ties : Fn P w K mg base ca 1 A.f_Tongue_ties ["self"] g_Tongue_ties) (F : Fun K "__eq__" "Tongue.__eq__" s_Tongue___eq__ A.f_Tongue___eq__ fd) : Fn P w K mg base ca 3 A.f_Tongue___eq__ ["self", "other"] g_Tongue___eq__ := by
  obtain ⟨fd_Tongue_marks, F_Tongue_marks, B_Tongue_marks⟩ := H_Tongue_marks.ok
  have KP_Tongue_marks := H_Tongue_marks.kp
  obtain ⟨fd_Tongue_ties, F_Tongue_ties, B_Tongue_ties⟩ := H_Tongue_ties.ok
  have KP_Tongue_ties := H_Tongue_ties.kp
  refine ⟨⟨fd, fn_mir (P := P) (w := w) (mg := mg) (base := base) (ca := ca) (N := ["self", "other"]) (body := b_Tongue___eq__) F sc_Tongue___eq__ fun cdv AA outer s H E hr => (by
    have nd := sc_Tongue___eq__.nd
    have tk := takes_of (X := cxOf (L2.CX P w) P w K mg base ["self", "other"] "Tongue.__eq__" (defScope s_Tongue___eq__) A.f_Tongue___eq__ cdv AA outer s H E) (E := E) rfl rfl rfl rfl
    exact ⟨_, (jb_cons (js_if (jt_not (jt_val (je_isi (cv := .ref (ca 0)) rfl T.b_isinstance (je_var (i := 1) rfl (by first | exact .inl rfl | exact .inr (.inl rfl) | exact .inr (.inr rfl))) (pe_glob rfl T.g_Tongue rfl) (.own _) (isa_own_Tongue_ok T.cf_Tongue))))
      (jb_one (js_ret (je_bl (i := false))))
      jb_nil)
      (jb_one (js_ret (je_and (je_cmp (op_eqD hr.units) sp_eq (je_prop (c := 0) T.cl_Tongue T.pr_Tongue_marks F_Tongue_marks (hr.mono (by decide)) B_Tongue_marks (je_var (i := 0) rfl (by first | exact .inl rfl | exact .inr (.inl rfl) | exact .inr (.inr rfl)))) (je_prop (c := 0) T.cl_Tongue T.pr_Tongue_marks F_Tongue_marks (hr.mono (by decide)) B_Tongue_marks (je_var (i := 1) rfl (by first | exact .inl rfl | exact .inr (.inl rfl) | exact .inr (.inr rfl)))) (nomark _)) (je_and (je_cmp (op_eqD hr.units) sp_eq (je_prop (c := 0) T.cl_Tongue T.pr_Tongue_ties F_Tongue_ties (hr.mono (by decide)) B_Tongue_ties (je_var (i := 0) rfl (by first | exact .inl rfl | exact .inr (.inl rfl) | exact .inr (.inr rfl)))) (je_prop (c := 0) T.cl_Tongue T.pr_Tongue_ties F_Tongue_ties (hr.mono (by decide)) B_Tongue_ties (je_var (i := 1) rfl (by first | exact .inl rfl | exact .inr (.inl rfl) | exact .inr (.inr rfl)))) (nomark _)) (je_one (je_cmp (op_eqD hr.units) sp_eq (je_fld (c := 0) T.cl_Tongue T.na_Tongue_functions (je_var (i := 0) rfl (by first | exact .inl rfl | exact .inr (.inl rfl) | exact .inr (.inr rfl)))) (je_fld (c := 0) T.cl_Tongue T.na_Tongue_functions (je_var (i := 1) rfl (by first | exact .inl rfl | exact .inr (.inl rfl) | exact .inr (.inr rfl)))) (nomark _))))))))⟩), (F.binds (ps := ["self", "other"]) fun _ _ _ _ _ _ us hl => match us, hl with | [_, _], _ => rfl)⟩, F.kp⟩
end Mi

namespace Mi
open PySem PySem.Spec PyProof.Rows L2
theorem sc__law_quantor : FnScope ["_law_pool_here"] ["_law_pool_here"] (defScope s__law_quantor) := ⟨rfl, rfl, rfl, by decide +kernel, rfl, by decide +kernel, by decide +kernel⟩
theorem ok__law_quantor {P : Program} {w : World} {K : PySem.W.Frag} {mg : Str → Option Value} {base : Heap} {ca : Nat → Addr} {A : Ad} {fd : FuncData} (T : Txt A K w mg ca) (H__law_draw : Fn P w K mg base ca 1 A.f__law_draw ["_law_pool_here", "_law_many"] g__law_draw) (F : Fun K "_law_quantor" "_law_quantor" s__law_quantor A.f__law_quantor fd) : Fn P w K mg base ca 2 A.f__law_quantor ["_law_pool_here"] g__law_quantor := by
  obtain ⟨fd__law_draw, F__law_draw, B__law_draw⟩ := H__law_draw.ok
  have KP__law_draw := H__law_draw.kp
  refine ⟨⟨fd, fn_mir (P := P) (w := w) (mg := mg) (base := base) (ca := ca) (N := ["_law_pool_here"]) (body := b__law_quantor) F sc__law_quantor fun cdv AA outer s H E hr => (by
    have nd := sc__law_quantor.nd
    have tk := takes_of (X := cxOf (L2.CX P w) P w K mg base ["_law_pool_here"] "_law_quantor" (defScope s__law_quantor) A.f__law_quantor cdv AA outer s H E) (E := E) rfl rfl rfl rfl
    exact ⟨_, (jb_one (js_ret (je_ix ix_seq sp_ix (JN.frz (jn_lst (ja_cons (je_str (i := ("each" : Str))) (ja_cons (je_str (i := ("some" : Str))) ja_nil)))) (je_call F__law_draw (hr.mono (by decide)) rfl T.g__law_draw KP__law_draw B__law_draw tk (ja_cons (je_var (i := 0) rfl (by first | exact .inl rfl | exact .inr (.inl rfl) | exact .inr (.inr rfl))) (ja_cons (je_int (i := (2 : Int))) ja_nil))))))⟩), (F.binds (ps := ["_law_pool_here"]) fun _ _ _ _ _ _ us hl => match us, hl with | [_], _ => rfl)⟩, F.kp⟩
end Mi

namespace Mi
open PySem PySem.Spec PyProof.Rows L2
theorem sc__law_test : FnScope ["_law_pool_here", "_law_shape_here", "_law_names_here", "_law_one_here", "_law_two", "_law_kind", "_law_marks", "_law_ties", "_law_functions"] ["_law_pool_here", "_law_shape_here", "_law_names_here"] (defScope s__law_test) := ⟨rfl, rfl, rfl, by decide +kernel, rfl, by decide +kernel, by decide +kernel⟩
theorem ok__law_test {P : Program} {w : World} {K : PySem.W.Frag} {mg : Str → Option Value} {base : Heap} {ca : Nat → Addr} {A : Ad} {fd : FuncData} (T : Txt A K w mg ca) (H__law_draw : Fn P w K mg base ca 1 A.f__law_draw ["_law_pool_here", "_law_many"] g__law_draw) (F : Fun K "_law_test" "_law_test" s__law_test A.f__law_test fd) : Fn P w K mg base ca 2 A.f__law_test ["_law_pool_here", "_law_shape_here", "_law_names_here"] g__law_test := by
  obtain ⟨fd__law_draw, F__law_draw, B__law_draw⟩ := H__law_draw.ok
  have KP__law_draw := H__law_draw.kp
  refine ⟨⟨fd, fn_mir (P := P) (w := w) (mg := mg) (base := base) (ca := ca) (N := ["_law_pool_here", "_law_shape_here", "_law_names_here", "_law_one_here", "_law_two", "_law_kind", "_law_marks", "_law_ties", "_law_functions"]) (body := b__law_test) F sc__law_test fun cdv AA outer s H E hr => (by
    have nd := sc__law_test.nd
    have tk := takes_of (X := cxOf (L2.CX P w) P w K mg base ["_law_pool_here", "_law_shape_here", "_law_names_here", "_law_one_here", "_law_two", "_law_kind", "_law_marks", "_law_ties", "_law_functions"] "_law_test" (defScope s__law_test) A.f__law_test cdv AA outer s H E) (E := E) rfl rfl rfl rfl
    exact ⟨_, (jb_cons (js_asg (je_var (i := 1) rfl (by first | exact .inl rfl | exact .inr (.inl rfl) | exact .inr (.inr rfl))) (jg_tup rfl (jgs_cons (jg_name (i := 6) nd rfl (by first | exact .inl rfl | exact .inr rfl)) (jgs_cons (jg_name (i := 7) nd rfl (by first | exact .inl rfl | exact .inr rfl)) (jgs_cons (jg_name (i := 8) nd rfl (by first | exact .inl rfl | exact .inr rfl)) jgs_nil)))))
      (jb_cons (js_set (i := 3) nd rfl (by first | exact .inl rfl | exact .inr rfl) (je_ix ix_seq sp_ix (je_var (i := 2) rfl (by first | exact .inl rfl | exact .inr (.inl rfl) | exact .inr (.inr rfl))) (je_call F__law_draw (hr.mono (by decide)) rfl T.g__law_draw KP__law_draw B__law_draw tk (ja_cons (je_var (i := 0) rfl (by first | exact .inl rfl | exact .inr (.inl rfl) | exact .inr (.inr rfl))) (ja_cons (je_callB call_lenU sp_lenU rfl T.b_len (by decide +kernel) (ja_cons (je_var (i := 2) rfl (by first | exact .inl rfl | exact .inr (.inl rfl) | exact .inr (.inr rfl))) ja_nil)) ja_nil)))))
      (jb_cons (js_set (i := 4) nd rfl (by first | exact .inl rfl | exact .inr rfl) (je_ix ix_seq sp_ix (je_var (i := 2) rfl (by first | exact .inl rfl | exact .inr (.inl rfl) | exact .inr (.inr rfl))) (je_call F__law_draw (hr.mono (by decide)) rfl T.g__law_draw KP__law_draw B__law_draw tk (ja_cons (je_var (i := 0) rfl (by first | exact .inl rfl | exact .inr (.inl rfl) | exact .inr (.inr rfl))) (ja_cons (je_callB call_lenU sp_lenU rfl T.b_len (by decide +kernel) (ja_cons (je_var (i := 2) rfl (by first | exact .inl rfl | exact .inr (.inl rfl) | exact .inr (.inr rfl))) ja_nil)) ja_nil)))))
      (jb_cons (js_set (i := 5) nd rfl (by first | exact .inl rfl | exact .inr rfl) (je_call F__law_draw (hr.mono (by decide)) rfl T.g__law_draw KP__law_draw B__law_draw tk (ja_cons (je_var (i := 0) rfl (by first | exact .inl rfl | exact .inr (.inl rfl) | exact .inr (.inr rfl))) (ja_cons (je_int (i := (8 : Int))) ja_nil))))
      (jb_cons (js_if (JW.jt (jw_and (jt_cmp op_lt sp_cmp (je_var (i := 5) rfl (by first | exact .inl rfl | exact .inr (.inl rfl) | exact .inr (.inr rfl))) (je_int (i := (3 : Int))) (nomark _)) (jw_and1 (jt_cmp op_gt sp_cmp (je_callB call_lenU sp_lenU rfl T.b_len (by decide +kernel) (ja_cons (je_var (i := 6) rfl (by first | exact .inl rfl | exact .inr (.inl rfl) | exact .inr (.inr rfl))) ja_nil)) (je_int (i := (0 : Int))) (nomark _)))))
      (jb_one (js_ret (je_tup (ja_cons (je_str (i := ("mark" : Str))) (ja_cons (je_ix ix_seq sp_ix (je_var (i := 6) rfl (by first | exact .inl rfl | exact .inr (.inl rfl) | exact .inr (.inr rfl))) (je_call F__law_draw (hr.mono (by decide)) rfl T.g__law_draw KP__law_draw B__law_draw tk (ja_cons (je_var (i := 0) rfl (by first | exact .inl rfl | exact .inr (.inl rfl) | exact .inr (.inr rfl))) (ja_cons (je_callB call_lenU sp_lenU rfl T.b_len (by decide +kernel) (ja_cons (je_var (i := 6) rfl (by first | exact .inl rfl | exact .inr (.inl rfl) | exact .inr (.inr rfl))) ja_nil)) ja_nil)))) (ja_cons (je_var (i := 3) rfl (by first | exact .inl rfl | exact .inr (.inl rfl) | exact .inr (.inr rfl))) ja_nil))))))
      jb_nil)
      (jb_cons (js_if (JW.jt (jw_and (jt_cmp op_lt sp_cmp (je_var (i := 5) rfl (by first | exact .inl rfl | exact .inr (.inl rfl) | exact .inr (.inr rfl))) (je_int (i := (6 : Int))) (nomark _)) (jw_and1 (jt_cmp op_gt sp_cmp (je_callB call_lenU sp_lenU rfl T.b_len (by decide +kernel) (ja_cons (je_var (i := 7) rfl (by first | exact .inl rfl | exact .inr (.inl rfl) | exact .inr (.inr rfl))) ja_nil)) (je_int (i := (0 : Int))) (nomark _)))))
      (jb_one (js_ret (je_tup (ja_cons (je_str (i := ("tie" : Str))) (ja_cons (je_ix ix_seq sp_ix (je_var (i := 7) rfl (by first | exact .inl rfl | exact .inr (.inl rfl) | exact .inr (.inr rfl))) (je_call F__law_draw (hr.mono (by decide)) rfl T.g__law_draw KP__law_draw B__law_draw tk (ja_cons (je_var (i := 0) rfl (by first | exact .inl rfl | exact .inr (.inl rfl) | exact .inr (.inr rfl))) (ja_cons (je_callB call_lenU sp_lenU rfl T.b_len (by decide +kernel) (ja_cons (je_var (i := 7) rfl (by first | exact .inl rfl | exact .inr (.inl rfl) | exact .inr (.inr rfl))) ja_nil)) ja_nil)))) (ja_cons (je_var (i := 3) rfl (by first | exact .inl rfl | exact .inr (.inl rfl) | exact .inr (.inr rfl))) (ja_cons (je_var (i := 4) rfl (by first | exact .inl rfl | exact .inr (.inl rfl) | exact .inr (.inr rfl))) ja_nil)))))))
      jb_nil)
      (jb_cons (js_if (JW.jt (jw_and (jt_cmp (op_eqD hr.units) sp_eq (je_var (i := 5) rfl (by first | exact .inl rfl | exact .inr (.inl rfl) | exact .inr (.inr rfl))) (je_int (i := (6 : Int))) (nomark _)) (jw_and1 (jt_cmp op_gt sp_cmp (je_callB call_lenU sp_lenU rfl T.b_len (by decide +kernel) (ja_cons (je_var (i := 2) rfl (by first | exact .inl rfl | exact .inr (.inl rfl) | exact .inr (.inr rfl))) ja_nil)) (je_int (i := (1 : Int))) (nomark _)))))
      (jb_one (js_ret (je_tup (ja_cons (je_str (i := ("same" : Str))) (ja_cons (je_var (i := 3) rfl (by first | exact .inl rfl | exact .inr (.inl rfl) | exact .inr (.inr rfl))) (ja_cons (je_var (i := 4) rfl (by first | exact .inl rfl | exact .inr (.inl rfl) | exact .inr (.inr rfl))) ja_nil))))))
      jb_nil)
      (jb_cons (js_if (jt_cmp (op_eqD hr.units) sp_eq (je_var (i := 5) rfl (by first | exact .inl rfl | exact .inr (.inl rfl) | exact .inr (.inr rfl))) (je_int (i := (7 : Int))) (nomark _))
      (jb_one (js_ret (je_tup (ja_cons (je_str (i := ("true" : Str))) ja_nil))))
      jb_nil)
      (jb_cons (js_if (jt_cmp op_gt sp_cmp (je_callB call_lenU sp_lenU rfl T.b_len (by decide +kernel) (ja_cons (je_var (i := 6) rfl (by first | exact .inl rfl | exact .inr (.inl rfl) | exact .inr (.inr rfl))) ja_nil)) (je_int (i := (0 : Int))) (nomark _))
      (jb_one (js_ret (je_tup (ja_cons (je_str (i := ("mark" : Str))) (ja_cons (je_ix ix_seq sp_ix (je_var (i := 6) rfl (by first | exact .inl rfl | exact .inr (.inl rfl) | exact .inr (.inr rfl))) (je_int (i := (0 : Int)))) (ja_cons (je_var (i := 3) rfl (by first | exact .inl rfl | exact .inr (.inl rfl) | exact .inr (.inr rfl))) ja_nil))))))
      jb_nil)
      (jb_cons (js_if (jt_cmp op_gt sp_cmp (je_callB call_lenU sp_lenU rfl T.b_len (by decide +kernel) (ja_cons (je_var (i := 7) rfl (by first | exact .inl rfl | exact .inr (.inl rfl) | exact .inr (.inr rfl))) ja_nil)) (je_int (i := (0 : Int))) (nomark _))
      (jb_one (js_ret (je_tup (ja_cons (je_str (i := ("tie" : Str))) (ja_cons (je_ix ix_seq sp_ix (je_var (i := 7) rfl (by first | exact .inl rfl | exact .inr (.inl rfl) | exact .inr (.inr rfl))) (je_int (i := (0 : Int)))) (ja_cons (je_var (i := 3) rfl (by first | exact .inl rfl | exact .inr (.inl rfl) | exact .inr (.inr rfl))) (ja_cons (je_var (i := 4) rfl (by first | exact .inl rfl | exact .inr (.inl rfl) | exact .inr (.inr rfl))) ja_nil)))))))
      jb_nil)
      (jb_one (js_ret (je_tup (ja_cons (je_str (i := ("same" : Str))) (ja_cons (je_var (i := 3) rfl (by first | exact .inl rfl | exact .inr (.inl rfl) | exact .inr (.inr rfl))) (ja_cons (je_var (i := 4) rfl (by first | exact .inl rfl | exact .inr (.inl rfl) | exact .inr (.inr rfl))) ja_nil))))))))))))))))⟩), (F.binds (ps := ["_law_pool_here", "_law_shape_here", "_law_names_here"]) fun _ _ _ _ _ _ us hl => match us, hl with | [_, _, _], _ => rfl)⟩, F.kp⟩
end Mi

namespace Mi
open PySem PySem.Spec PyProof.Rows L2
theorem sc__law_matrix : FnScope ["_law_pool_here", "_law_shape_here", "_law_names_here", "_law_depth", "_law_kind", "_law_first"] ["_law_pool_here", "_law_shape_here", "_law_names_here", "_law_depth"] (defScope s__law_matrix) := ⟨rfl, rfl, rfl, by decide +kernel, rfl, by decide +kernel, by decide +kernel⟩
theorem ok__law_matrix {P : Program} {w : World} {K : PySem.W.Frag} {mg : Str → Option Value} {base : Heap} {ca : Nat → Addr} {A : Ad} {fd : FuncData} (T : Txt A K w mg ca) (H__law_draw : Fn P w K mg base ca 1 A.f__law_draw ["_law_pool_here", "_law_many"] g__law_draw) (H__law_test : Fn P w K mg base ca 2 A.f__law_test ["_law_pool_here", "_law_shape_here", "_law_names_here"] g__law_test) (F : Fun K "_law_matrix" "_law_matrix" s__law_matrix A.f__law_matrix fd) : ∀ n, Fn P w K mg base ca (2 + n) A.f__law_matrix ["_law_pool_here", "_law_shape_here", "_law_names_here", "_law_depth"] (g__law_matrix n)
  | 0 => ⟨⟨fd, fn_zero, (F.binds (ps := ["_law_pool_here", "_law_shape_here", "_law_names_here", "_law_depth"]) fun _ _ _ _ _ _ us hl => match us, hl with | [_, _, _, _], _ => rfl)⟩, F.kp⟩
  | n + 1 => by
    have HH__law_matrix := ok__law_matrix (P := P) (base := base) T H__law_draw H__law_test F n
    obtain ⟨fd__law_matrix, F__law_matrix, B__law_matrix⟩ := HH__law_matrix.ok
    have KP__law_matrix := HH__law_matrix.kp
    obtain ⟨fd__law_draw, F__law_draw, B__law_draw⟩ := H__law_draw.ok
    have KP__law_draw := H__law_draw.kp
    obtain ⟨fd__law_test, F__law_test, B__law_test⟩ := H__law_test.ok
    have KP__law_test := H__law_test.kp
    refine ⟨⟨fd, fn_mir (P := P) (w := w) (mg := mg) (base := base) (ca := ca) (N := ["_law_pool_here", "_law_shape_here", "_law_names_here", "_law_depth", "_law_kind", "_law_first"]) (body := b__law_matrix (g__law_matrix n)) (k := 2 + n) F sc__law_matrix fun cdv AA outer s H E hr => (by
    have nd := sc__law_matrix.nd
    have tk := takes_of (X := cxOf (L2.CX P w) P w K mg base ["_law_pool_here", "_law_shape_here", "_law_names_here", "_law_depth", "_law_kind", "_law_first"] "_law_matrix" (defScope s__law_matrix) A.f__law_matrix cdv AA outer s H E) (E := E) rfl rfl rfl rfl
    exact ⟨_, (jb_cons (js_set (i := 4) nd rfl (by first | exact .inl rfl | exact .inr rfl) (je_call F__law_draw (hr.mono (by omega)) rfl T.g__law_draw KP__law_draw B__law_draw tk (ja_cons (je_var (i := 0) rfl (by first | exact .inl rfl | exact .inr (.inl rfl) | exact .inr (.inr rfl))) (ja_cons (je_int (i := (6 : Int))) ja_nil))))
      (jb_cons (js_if (JW.jt (jw_or (jt_cmp (op_eqD hr.units) sp_eq (je_var (i := 3) rfl (by first | exact .inl rfl | exact .inr (.inl rfl) | exact .inr (.inr rfl))) (je_int (i := (0 : Int))) (nomark _)) (jw_or1 (jt_cmp op_lt sp_cmp (je_var (i := 4) rfl (by first | exact .inl rfl | exact .inr (.inl rfl) | exact .inr (.inr rfl))) (je_int (i := (2 : Int))) (nomark _)))))
      (jb_one (js_ret (je_call F__law_test (hr.mono (by omega)) rfl T.g__law_test KP__law_test B__law_test tk (ja_cons (je_var (i := 0) rfl (by first | exact .inl rfl | exact .inr (.inl rfl) | exact .inr (.inr rfl))) (ja_cons (je_var (i := 1) rfl (by first | exact .inl rfl | exact .inr (.inl rfl) | exact .inr (.inr rfl))) (ja_cons (je_var (i := 2) rfl (by first | exact .inl rfl | exact .inr (.inl rfl) | exact .inr (.inr rfl))) ja_nil))))))
      jb_nil)
      (jb_cons (js_if (jt_cmp (op_eqD hr.units) sp_eq (je_var (i := 4) rfl (by first | exact .inl rfl | exact .inr (.inl rfl) | exact .inr (.inr rfl))) (je_int (i := (2 : Int))) (nomark _))
      (jb_one (js_ret (je_tup (ja_cons (je_str (i := ("not" : Str))) (ja_cons (je_call F__law_matrix hr rfl T.g__law_matrix KP__law_matrix B__law_matrix tk (ja_cons (je_var (i := 0) rfl (by first | exact .inl rfl | exact .inr (.inl rfl) | exact .inr (.inr rfl))) (ja_cons (je_var (i := 1) rfl (by first | exact .inl rfl | exact .inr (.inl rfl) | exact .inr (.inr rfl))) (ja_cons (je_var (i := 2) rfl (by first | exact .inl rfl | exact .inr (.inl rfl) | exact .inr (.inr rfl))) (ja_cons (je_op op_sub sp_sub (je_var (i := 3) rfl (by first | exact .inl rfl | exact .inr (.inl rfl) | exact .inr (.inr rfl))) (je_int (i := (1 : Int)))) ja_nil))))) ja_nil)))))
      jb_nil)
      (jb_cons (js_set (i := 5) nd rfl (by first | exact .inl rfl | exact .inr rfl) (je_call F__law_matrix hr rfl T.g__law_matrix KP__law_matrix B__law_matrix tk (ja_cons (je_var (i := 0) rfl (by first | exact .inl rfl | exact .inr (.inl rfl) | exact .inr (.inr rfl))) (ja_cons (je_var (i := 1) rfl (by first | exact .inl rfl | exact .inr (.inl rfl) | exact .inr (.inr rfl))) (ja_cons (je_var (i := 2) rfl (by first | exact .inl rfl | exact .inr (.inl rfl) | exact .inr (.inr rfl))) (ja_cons (je_op op_sub sp_sub (je_var (i := 3) rfl (by first | exact .inl rfl | exact .inr (.inl rfl) | exact .inr (.inr rfl))) (je_int (i := (1 : Int)))) ja_nil))))))
      (jb_one (js_ret (je_tup (ja_cons (je_ix ix_seq sp_ix (JN.frz (jn_lst (ja_cons (je_str (i := ("and" : Str))) (ja_cons (je_str (i := ("or" : Str))) (ja_cons (je_str (i := ("or" : Str))) ja_nil))))) (je_op op_sub sp_sub (je_var (i := 4) rfl (by first | exact .inl rfl | exact .inr (.inl rfl) | exact .inr (.inr rfl))) (je_int (i := (3 : Int))))) (ja_cons (je_var (i := 5) rfl (by first | exact .inl rfl | exact .inr (.inl rfl) | exact .inr (.inr rfl))) (ja_cons (je_call F__law_matrix hr rfl T.g__law_matrix KP__law_matrix B__law_matrix tk (ja_cons (je_var (i := 0) rfl (by first | exact .inl rfl | exact .inr (.inl rfl) | exact .inr (.inr rfl))) (ja_cons (je_var (i := 1) rfl (by first | exact .inl rfl | exact .inr (.inl rfl) | exact .inr (.inr rfl))) (ja_cons (je_var (i := 2) rfl (by first | exact .inl rfl | exact .inr (.inl rfl) | exact .inr (.inr rfl))) (ja_cons (je_op op_sub sp_sub (je_var (i := 3) rfl (by first | exact .inl rfl | exact .inr (.inl rfl) | exact .inr (.inr rfl))) (je_int (i := (1 : Int)))) ja_nil))))) ja_nil))))))))))⟩), (F.binds (ps := ["_law_pool_here", "_law_shape_here", "_law_names_here", "_law_depth"]) fun _ _ _ _ _ _ us hl => match us, hl with | [_, _, _, _], _ => rfl)⟩, F.kp⟩
end Mi

namespace Mi
open PySem PySem.Spec PyProof.Rows L2
theorem sc__law_one : FnScope ["_law_pool_here", "_law_shape_here", "_law_name", "_law_parts", "_law_other", "_law_inner", "_law_more"] ["_law_pool_here", "_law_shape_here", "_law_name", "_law_parts"] (defScope s__law_one) := ⟨rfl, rfl, rfl, by decide +kernel, rfl, by decide +kernel, by decide +kernel⟩
theorem ok__law_one {P : Program} {w : World} {K : PySem.W.Frag} {mg : Str → Option Value} {base : Heap} {ca : Nat → Addr} {A : Ad} {fd : FuncData} (T : Txt A K w mg ca) (H__law_draw : Fn P w K mg base ca 1 A.f__law_draw ["_law_pool_here", "_law_many"] g__law_draw) (H__law_matrix : Fn P w K mg base ca 7 A.f__law_matrix ["_law_pool_here", "_law_shape_here", "_law_names_here", "_law_depth"] (g__law_matrix 5)) (H__law_quantor : Fn P w K mg base ca 2 A.f__law_quantor ["_law_pool_here"] g__law_quantor) (F : Fun K "_law_one" "_law_one" s__law_one A.f__law_one fd) : Fn P w K mg base ca 8 A.f__law_one ["_law_pool_here", "_law_shape_here", "_law_name", "_law_parts"] g__law_one := by
  obtain ⟨fd__law_draw, F__law_draw, B__law_draw⟩ := H__law_draw.ok
  have KP__law_draw := H__law_draw.kp
  obtain ⟨fd__law_matrix, F__law_matrix, B__law_matrix⟩ := H__law_matrix.ok
  have KP__law_matrix := H__law_matrix.kp
  obtain ⟨fd__law_quantor, F__law_quantor, B__law_quantor⟩ := H__law_quantor.ok
  have KP__law_quantor := H__law_quantor.kp
  refine ⟨⟨fd, fn_mir (P := P) (w := w) (mg := mg) (base := base) (ca := ca) (N := ["_law_pool_here", "_law_shape_here", "_law_name", "_law_parts", "_law_other", "_law_inner", "_law_more"]) (body := b__law_one) F sc__law_one fun cdv AA outer s H E hr => (by
    have nd := sc__law_one.nd
    have tk := takes_of (X := cxOf (L2.CX P w) P w K mg base ["_law_pool_here", "_law_shape_here", "_law_name", "_law_parts", "_law_other", "_law_inner", "_law_more"] "_law_one" (defScope s__law_one) A.f__law_one cdv AA outer s H E) (E := E) rfl rfl rfl rfl
    exact ⟨_, (jb_cons (js_set (i := 4) nd rfl (by first | exact .inl rfl | exact .inr rfl) (je_ix ix_seq sp_ix (JN.frz (jn_lst (ja_cons (je_str (i := ("x" : Str))) (ja_cons (je_str (i := ("y" : Str))) ja_nil)))) (je_callTy call_int1 sp_int rfl T.b_int (by decide +kernel) (ja_cons (je_cmp (op_eqD hr.units) sp_eq (je_var (i := 2) rfl (by first | exact .inl rfl | exact .inr (.inl rfl) | exact .inr (.inr rfl))) (je_str (i := ("x" : Str))) (nomark _)) ja_nil))))
      (jb_cons (js_if (JW.jt (jw_or (jt_cmp (op_eqD hr.units) sp_eq (je_var (i := 3) rfl (by first | exact .inl rfl | exact .inr (.inl rfl) | exact .inr (.inr rfl))) (je_int (i := (0 : Int))) (nomark _)) (jw_or1 (jt_cmp (op_eqD hr.units) sp_eq (je_call F__law_draw (hr.mono (by decide)) rfl T.g__law_draw KP__law_draw B__law_draw tk (ja_cons (je_var (i := 0) rfl (by first | exact .inl rfl | exact .inr (.inl rfl) | exact .inr (.inr rfl))) (ja_cons (je_int (i := (5 : Int))) ja_nil))) (je_int (i := (0 : Int))) (nomark _)))))
      (jb_one (js_ret (je_call F__law_matrix (hr.mono (by decide)) rfl T.g__law_matrix KP__law_matrix B__law_matrix tk (ja_cons (je_var (i := 0) rfl (by first | exact .inl rfl | exact .inr (.inl rfl) | exact .inr (.inr rfl))) (ja_cons (je_var (i := 1) rfl (by first | exact .inl rfl | exact .inr (.inl rfl) | exact .inr (.inr rfl))) (ja_cons (JN.frz (jn_lst (ja_cons (je_var (i := 2) rfl (by first | exact .inl rfl | exact .inr (.inl rfl) | exact .inr (.inr rfl))) ja_nil))) (ja_cons (je_int (i := (2 : Int))) ja_nil)))))))
      jb_nil)
      (jb_cons (js_set (i := 5) nd rfl (by first | exact .inl rfl | exact .inr rfl) (je_call F__law_matrix (hr.mono (by decide)) rfl T.g__law_matrix KP__law_matrix B__law_matrix tk (ja_cons (je_var (i := 0) rfl (by first | exact .inl rfl | exact .inr (.inl rfl) | exact .inr (.inr rfl))) (ja_cons (je_var (i := 1) rfl (by first | exact .inl rfl | exact .inr (.inl rfl) | exact .inr (.inr rfl))) (ja_cons (JN.frz (jn_lst (ja_cons (je_var (i := 2) rfl (by first | exact .inl rfl | exact .inr (.inl rfl) | exact .inr (.inr rfl))) (ja_cons (je_var (i := 4) rfl (by first | exact .inl rfl | exact .inr (.inl rfl) | exact .inr (.inr rfl))) ja_nil)))) (ja_cons (je_int (i := (2 : Int))) ja_nil))))))
      (jb_cons (js_if (JW.jt (jw_and (jt_cmp op_gt sp_cmp (je_var (i := 3) rfl (by first | exact .inl rfl | exact .inr (.inl rfl) | exact .inr (.inr rfl))) (je_int (i := (1 : Int))) (nomark _)) (jw_and1 (jt_cmp op_gt sp_cmp (je_call F__law_draw (hr.mono (by decide)) rfl T.g__law_draw KP__law_draw B__law_draw tk (ja_cons (je_var (i := 0) rfl (by first | exact .inl rfl | exact .inr (.inl rfl) | exact .inr (.inr rfl))) (ja_cons (je_int (i := (3 : Int))) ja_nil))) (je_int (i := (0 : Int))) (nomark _)))))
      (jb_cons (js_set (i := 6) nd rfl (by first | exact .inl rfl | exact .inr rfl) (je_tup (ja_cons (je_call F__law_quantor (hr.mono (by decide)) rfl T.g__law_quantor KP__law_quantor B__law_quantor tk (ja_cons (je_var (i := 0) rfl (by first | exact .inl rfl | exact .inr (.inl rfl) | exact .inr (.inr rfl))) ja_nil)) (ja_cons (je_var (i := 2) rfl (by first | exact .inl rfl | exact .inr (.inl rfl) | exact .inr (.inr rfl))) (ja_cons (je_call F__law_matrix (hr.mono (by decide)) rfl T.g__law_matrix KP__law_matrix B__law_matrix tk (ja_cons (je_var (i := 0) rfl (by first | exact .inl rfl | exact .inr (.inl rfl) | exact .inr (.inr rfl))) (ja_cons (je_var (i := 1) rfl (by first | exact .inl rfl | exact .inr (.inl rfl) | exact .inr (.inr rfl))) (ja_cons (JN.frz (jn_lst (ja_cons (je_var (i := 2) rfl (by first | exact .inl rfl | exact .inr (.inl rfl) | exact .inr (.inr rfl))) (ja_cons (je_var (i := 4) rfl (by first | exact .inl rfl | exact .inr (.inl rfl) | exact .inr (.inr rfl))) ja_nil)))) (ja_cons (je_int (i := (1 : Int))) ja_nil))))) ja_nil)))))
      (jb_one (js_set (i := 5) nd rfl (by first | exact .inl rfl | exact .inr rfl) (je_tup (ja_cons (je_ix ix_seq sp_ix (JN.frz (jn_lst (ja_cons (je_str (i := ("and" : Str))) (ja_cons (je_str (i := ("or" : Str))) ja_nil)))) (je_call F__law_draw (hr.mono (by decide)) rfl T.g__law_draw KP__law_draw B__law_draw tk (ja_cons (je_var (i := 0) rfl (by first | exact .inl rfl | exact .inr (.inl rfl) | exact .inr (.inr rfl))) (ja_cons (je_int (i := (2 : Int))) ja_nil)))) (ja_cons (je_var (i := 5) rfl (by first | exact .inl rfl | exact .inr (.inl rfl) | exact .inr (.inr rfl))) (ja_cons (je_var (i := 6) rfl (by first | exact .inl rfl | exact .inr (.inl rfl) | exact .inr (.inr rfl))) ja_nil)))))))
      jb_nil)
      (jb_cons (js_set (i := 5) nd rfl (by first | exact .inl rfl | exact .inr rfl) (je_tup (ja_cons (je_call F__law_quantor (hr.mono (by decide)) rfl T.g__law_quantor KP__law_quantor B__law_quantor tk (ja_cons (je_var (i := 0) rfl (by first | exact .inl rfl | exact .inr (.inl rfl) | exact .inr (.inr rfl))) ja_nil)) (ja_cons (je_var (i := 4) rfl (by first | exact .inl rfl | exact .inr (.inl rfl) | exact .inr (.inr rfl))) (ja_cons (je_var (i := 5) rfl (by first | exact .inl rfl | exact .inr (.inl rfl) | exact .inr (.inr rfl))) ja_nil)))))
      (jb_cons (js_if (jt_cmp (op_eqD hr.units) sp_eq (je_call F__law_draw (hr.mono (by decide)) rfl T.g__law_draw KP__law_draw B__law_draw tk (ja_cons (je_var (i := 0) rfl (by first | exact .inl rfl | exact .inr (.inl rfl) | exact .inr (.inr rfl))) (ja_cons (je_int (i := (2 : Int))) ja_nil))) (je_int (i := (0 : Int))) (nomark _))
      (jb_one (js_ret (je_var (i := 5) rfl (by first | exact .inl rfl | exact .inr (.inl rfl) | exact .inr (.inr rfl)))))
      jb_nil)
      (jb_cons (js_if (jt_cmp (op_eqD hr.units) sp_eq (je_call F__law_draw (hr.mono (by decide)) rfl T.g__law_draw KP__law_draw B__law_draw tk (ja_cons (je_var (i := 0) rfl (by first | exact .inl rfl | exact .inr (.inl rfl) | exact .inr (.inr rfl))) (ja_cons (je_int (i := (4 : Int))) ja_nil))) (je_int (i := (0 : Int))) (nomark _))
      (jb_one (js_set (i := 5) nd rfl (by first | exact .inl rfl | exact .inr rfl) (je_tup (ja_cons (je_str (i := ("not" : Str))) (ja_cons (je_var (i := 5) rfl (by first | exact .inl rfl | exact .inr (.inl rfl) | exact .inr (.inr rfl))) ja_nil)))))
      jb_nil)
      (jb_one (js_ret (je_tup (ja_cons (je_ix ix_seq sp_ix (JN.frz (jn_lst (ja_cons (je_str (i := ("and" : Str))) (ja_cons (je_str (i := ("or" : Str))) ja_nil)))) (je_call F__law_draw (hr.mono (by decide)) rfl T.g__law_draw KP__law_draw B__law_draw tk (ja_cons (je_var (i := 0) rfl (by first | exact .inl rfl | exact .inr (.inl rfl) | exact .inr (.inr rfl))) (ja_cons (je_int (i := (2 : Int))) ja_nil)))) (ja_cons (je_call F__law_matrix (hr.mono (by decide)) rfl T.g__law_matrix KP__law_matrix B__law_matrix tk (ja_cons (je_var (i := 0) rfl (by first | exact .inl rfl | exact .inr (.inl rfl) | exact .inr (.inr rfl))) (ja_cons (je_var (i := 1) rfl (by first | exact .inl rfl | exact .inr (.inl rfl) | exact .inr (.inr rfl))) (ja_cons (JN.frz (jn_lst (ja_cons (je_var (i := 2) rfl (by first | exact .inl rfl | exact .inr (.inl rfl) | exact .inr (.inr rfl))) ja_nil))) (ja_cons (je_int (i := (1 : Int))) ja_nil))))) (ja_cons (je_var (i := 5) rfl (by first | exact .inl rfl | exact .inr (.inl rfl) | exact .inr (.inr rfl))) ja_nil)))))))))))))⟩), (F.binds (ps := ["_law_pool_here", "_law_shape_here", "_law_name", "_law_parts"]) fun _ _ _ _ _ _ us hl => match us, hl with | [_, _, _, _], _ => rfl)⟩, F.kp⟩
end Mi

namespace Mi
open PySem PySem.Spec PyProof.Rows L2
theorem sc__law_closed : FnScope ["_law_pool_here", "_law_shape_here", "_law_parts", "_law_room", "_law_kind", "_law_name", "_law_first"] ["_law_pool_here", "_law_shape_here", "_law_parts", "_law_room"] (defScope s__law_closed) := ⟨rfl, rfl, rfl, by decide +kernel, rfl, by decide +kernel, by decide +kernel⟩
theorem ok__law_closed {P : Program} {w : World} {K : PySem.W.Frag} {mg : Str → Option Value} {base : Heap} {ca : Nat → Addr} {A : Ad} {fd : FuncData} (T : Txt A K w mg ca) (H__law_draw : Fn P w K mg base ca 1 A.f__law_draw ["_law_pool_here", "_law_many"] g__law_draw) (H__law_quantor : Fn P w K mg base ca 2 A.f__law_quantor ["_law_pool_here"] g__law_quantor) (H__law_one : Fn P w K mg base ca 8 A.f__law_one ["_law_pool_here", "_law_shape_here", "_law_name", "_law_parts"] g__law_one) (F : Fun K "_law_closed" "_law_closed" s__law_closed A.f__law_closed fd) : ∀ n, Fn P w K mg base ca (8 + n) A.f__law_closed ["_law_pool_here", "_law_shape_here", "_law_parts", "_law_room"] (g__law_closed n)
  | 0 => ⟨⟨fd, fn_zero, (F.binds (ps := ["_law_pool_here", "_law_shape_here", "_law_parts", "_law_room"]) fun _ _ _ _ _ _ us hl => match us, hl with | [_, _, _, _], _ => rfl)⟩, F.kp⟩
  | n + 1 => by
    have HH__law_closed := ok__law_closed (P := P) (base := base) T H__law_draw H__law_quantor H__law_one F n
    obtain ⟨fd__law_closed, F__law_closed, B__law_closed⟩ := HH__law_closed.ok
    have KP__law_closed := HH__law_closed.kp
    obtain ⟨fd__law_draw, F__law_draw, B__law_draw⟩ := H__law_draw.ok
    have KP__law_draw := H__law_draw.kp
    obtain ⟨fd__law_quantor, F__law_quantor, B__law_quantor⟩ := H__law_quantor.ok
    have KP__law_quantor := H__law_quantor.kp
    obtain ⟨fd__law_one, F__law_one, B__law_one⟩ := H__law_one.ok
    have KP__law_one := H__law_one.kp
    refine ⟨⟨fd, fn_mir (P := P) (w := w) (mg := mg) (base := base) (ca := ca) (N := ["_law_pool_here", "_law_shape_here", "_law_parts", "_law_room", "_law_kind", "_law_name", "_law_first"]) (body := b__law_closed (g__law_closed n)) (k := 8 + n) F sc__law_closed fun cdv AA outer s H E hr => (by
    have nd := sc__law_closed.nd
    have tk := takes_of (X := cxOf (L2.CX P w) P w K mg base ["_law_pool_here", "_law_shape_here", "_law_parts", "_law_room", "_law_kind", "_law_name", "_law_first"] "_law_closed" (defScope s__law_closed) A.f__law_closed cdv AA outer s H E) (E := E) rfl rfl rfl rfl
    exact ⟨_, (jb_cons (js_set (i := 4) nd rfl (by first | exact .inl rfl | exact .inr rfl) (je_call F__law_draw (hr.mono (by omega)) rfl T.g__law_draw KP__law_draw B__law_draw tk (ja_cons (je_var (i := 0) rfl (by first | exact .inl rfl | exact .inr (.inl rfl) | exact .inr (.inr rfl))) (ja_cons (je_int (i := (7 : Int))) ja_nil))))
      (jb_cons (js_if (JW.jt (jw_and (jt_cmp (op_eqD hr.units) sp_eq (je_var (i := 4) rfl (by first | exact .inl rfl | exact .inr (.inl rfl) | exact .inr (.inr rfl))) (je_int (i := (0 : Int))) (nomark _)) (jw_and1 (jt_cmp op_gt sp_cmp (je_var (i := 3) rfl (by first | exact .inl rfl | exact .inr (.inl rfl) | exact .inr (.inr rfl))) (je_int (i := (0 : Int))) (nomark _)))))
      (jb_one (js_ret (je_tup (ja_cons (je_str (i := ("not" : Str))) (ja_cons (je_call F__law_closed hr rfl T.g__law_closed KP__law_closed B__law_closed tk (ja_cons (je_var (i := 0) rfl (by first | exact .inl rfl | exact .inr (.inl rfl) | exact .inr (.inr rfl))) (ja_cons (je_var (i := 1) rfl (by first | exact .inl rfl | exact .inr (.inl rfl) | exact .inr (.inr rfl))) (ja_cons (je_var (i := 2) rfl (by first | exact .inl rfl | exact .inr (.inl rfl) | exact .inr (.inr rfl))) (ja_cons (je_op op_sub sp_sub (je_var (i := 3) rfl (by first | exact .inl rfl | exact .inr (.inl rfl) | exact .inr (.inr rfl))) (je_int (i := (1 : Int)))) ja_nil))))) ja_nil)))))
      jb_nil)
      (jb_cons (js_if (JW.jt (jw_and (jt_cmp op_lt sp_cmp (je_var (i := 4) rfl (by first | exact .inl rfl | exact .inr (.inl rfl) | exact .inr (.inr rfl))) (je_int (i := (3 : Int))) (nomark _)) (jw_and1 (jt_cmp op_gt sp_cmp (je_var (i := 3) rfl (by first | exact .inl rfl | exact .inr (.inl rfl) | exact .inr (.inr rfl))) (je_int (i := (0 : Int))) (nomark _)))))
      (jb_cons (js_set (i := 6) nd rfl (by first | exact .inl rfl | exact .inr rfl) (je_call F__law_closed hr rfl T.g__law_closed KP__law_closed B__law_closed tk (ja_cons (je_var (i := 0) rfl (by first | exact .inl rfl | exact .inr (.inl rfl) | exact .inr (.inr rfl))) (ja_cons (je_var (i := 1) rfl (by first | exact .inl rfl | exact .inr (.inl rfl) | exact .inr (.inr rfl))) (ja_cons (je_op op_fdiv sp_fdiv (je_var (i := 2) rfl (by first | exact .inl rfl | exact .inr (.inl rfl) | exact .inr (.inr rfl))) (je_int (i := (2 : Int)))) (ja_cons (je_op op_sub sp_sub (je_var (i := 3) rfl (by first | exact .inl rfl | exact .inr (.inl rfl) | exact .inr (.inr rfl))) (je_int (i := (1 : Int)))) ja_nil))))))
      (jb_one (js_ret (je_tup (ja_cons (je_ix ix_seq sp_ix (JN.frz (jn_lst (ja_cons (je_str (i := ("and" : Str))) (ja_cons (je_str (i := ("or" : Str))) ja_nil)))) (je_call F__law_draw (hr.mono (by omega)) rfl T.g__law_draw KP__law_draw B__law_draw tk (ja_cons (je_var (i := 0) rfl (by first | exact .inl rfl | exact .inr (.inl rfl) | exact .inr (.inr rfl))) (ja_cons (je_int (i := (2 : Int))) ja_nil)))) (ja_cons (je_var (i := 6) rfl (by first | exact .inl rfl | exact .inr (.inl rfl) | exact .inr (.inr rfl))) (ja_cons (je_call F__law_closed hr rfl T.g__law_closed KP__law_closed B__law_closed tk (ja_cons (je_var (i := 0) rfl (by first | exact .inl rfl | exact .inr (.inl rfl) | exact .inr (.inr rfl))) (ja_cons (je_var (i := 1) rfl (by first | exact .inl rfl | exact .inr (.inl rfl) | exact .inr (.inr rfl))) (ja_cons (je_op op_sub sp_sub (je_var (i := 2) rfl (by first | exact .inl rfl | exact .inr (.inl rfl) | exact .inr (.inr rfl))) (je_op op_fdiv sp_fdiv (je_var (i := 2) rfl (by first | exact .inl rfl | exact .inr (.inl rfl) | exact .inr (.inr rfl))) (je_int (i := (2 : Int))))) (ja_cons (je_int (i := (0 : Int))) ja_nil))))) ja_nil)))))))
      jb_nil)
      (jb_cons (js_set (i := 5) nd rfl (by first | exact .inl rfl | exact .inr rfl) (je_ix ix_seq sp_ix (JN.frz (jn_lst (ja_cons (je_str (i := ("x" : Str))) (ja_cons (je_str (i := ("y" : Str))) ja_nil)))) (je_call F__law_draw (hr.mono (by omega)) rfl T.g__law_draw KP__law_draw B__law_draw tk (ja_cons (je_var (i := 0) rfl (by first | exact .inl rfl | exact .inr (.inl rfl) | exact .inr (.inr rfl))) (ja_cons (je_int (i := (2 : Int))) ja_nil)))))
      (jb_one (js_ret (je_tup (ja_cons (je_call F__law_quantor (hr.mono (by omega)) rfl T.g__law_quantor KP__law_quantor B__law_quantor tk (ja_cons (je_var (i := 0) rfl (by first | exact .inl rfl | exact .inr (.inl rfl) | exact .inr (.inr rfl))) ja_nil)) (ja_cons (je_var (i := 5) rfl (by first | exact .inl rfl | exact .inr (.inl rfl) | exact .inr (.inr rfl))) (ja_cons (je_call F__law_one (hr.mono (by omega)) rfl T.g__law_one KP__law_one B__law_one tk (ja_cons (je_var (i := 0) rfl (by first | exact .inl rfl | exact .inr (.inl rfl) | exact .inr (.inr rfl))) (ja_cons (je_var (i := 1) rfl (by first | exact .inl rfl | exact .inr (.inl rfl) | exact .inr (.inr rfl))) (ja_cons (je_var (i := 5) rfl (by first | exact .inl rfl | exact .inr (.inl rfl) | exact .inr (.inr rfl))) (ja_cons (je_var (i := 2) rfl (by first | exact .inl rfl | exact .inr (.inl rfl) | exact .inr (.inr rfl))) ja_nil))))) ja_nil))))))))))⟩), (F.binds (ps := ["_law_pool_here", "_law_shape_here", "_law_parts", "_law_room"]) fun _ _ _ _ _ _ us hl => match us, hl with | [_, _, _, _], _ => rfl)⟩, F.kp⟩
end Mi

namespace Mi
open PySem PySem.Spec PyProof.Rows L2
theorem sc__law_free : FnScope ["_law_saying", "_law_found", "_law_item", "_law_names_here", "_law_name"] ["_law_saying"] (defScope s__law_free) := ⟨rfl, rfl, rfl, by decide +kernel, rfl, by decide +kernel, by decide +kernel⟩
theorem ok__law_free {P : Program} {w : World} {K : PySem.W.Frag} {mg : Str → Option Value} {base : Heap} {ca : Nat → Addr} {A : Ad} {fd : FuncData} (T : Txt A K w mg ca) (F : Fun K "_law_free" "_law_free" s__law_free A.f__law_free fd) : ∀ n, Fn P w K mg base ca (0 + n) A.f__law_free ["_law_saying"] (g__law_free n)
  | 0 => ⟨⟨fd, fn_zero, (F.binds (ps := ["_law_saying"]) fun _ _ _ _ _ _ us hl => match us, hl with | [_], _ => rfl)⟩, F.kp⟩
  | n + 1 => by
    have HH__law_free := ok__law_free (P := P) (base := base) T F n
    obtain ⟨fd__law_free, F__law_free, B__law_free⟩ := HH__law_free.ok
    have KP__law_free := HH__law_free.kp
    refine ⟨⟨fd, fn_mir (P := P) (w := w) (mg := mg) (base := base) (ca := ca) (N := ["_law_saying", "_law_found", "_law_item", "_law_names_here", "_law_name"]) (body := b__law_free (g__law_free n)) (k := 0 + n) F sc__law_free fun cdv AA outer s H E hr => (by
    have nd := sc__law_free.nd
    have tk := takes_of (X := cxOf (L2.CX P w) P w K mg base ["_law_saying", "_law_found", "_law_item", "_law_names_here", "_law_name"] "_law_free" (defScope s__law_free) A.f__law_free cdv AA outer s H E) (E := E) rfl rfl rfl rfl
    exact ⟨_, (jb_cons (js_if (jt_cmp (op_eqD hr.units) sp_eq (je_ix ix_seq sp_ix (je_var (i := 0) rfl (by first | exact .inl rfl | exact .inr (.inl rfl) | exact .inr (.inr rfl))) (je_int (i := (0 : Int)))) (je_str (i := ("mark" : Str))) (nomark _))
      (jb_one (js_ret (JN.frz (jn_lst (ja_cons (je_ix ix_seq sp_ix (je_var (i := 0) rfl (by first | exact .inl rfl | exact .inr (.inl rfl) | exact .inr (.inr rfl))) (je_int (i := (2 : Int)))) ja_nil)))))
      jb_nil)
      (jb_cons (js_if (jt_cmp (op_inU (hu_of hr)) sp_inU (je_ix ix_seq sp_ix (je_var (i := 0) rfl (by first | exact .inl rfl | exact .inr (.inl rfl) | exact .inr (.inr rfl))) (je_int (i := (0 : Int)))) (JN.frz (jn_lst (ja_cons (je_str (i := ("tie" : Str))) (ja_cons (je_str (i := ("same" : Str))) ja_nil)))) rfl)
      (jb_one (js_ret (JN.frz (jn_lc (tt := (tTest (tOp (rInU K false) (tVar 4) (tSl (rSlU K) (tVar 0) (tPart (tOp (rI0 fun i j => .int (i - j)) (tCB (rLenU K) (tCons (tVar 0) tNil)) (tC (.int (2 : Int))))) tNoPart)))) (te := (tVar 4)) (mt := (tstB (op2 (inD false) (vr 4) (eSl (vr 0) (pSo (op2 subD (opC lenD (aCons (vr 0) aNil)) (kk (.int (2 : Int))))) pNo)))) (me := (vr 4)) (own := [("_law_name", 4)]) rfl nd (by exact (ji_seq (JN.frz (jn_lst (ja_cons (je_str (i := ("x" : Str))) (ja_cons (je_str (i := ("y" : Str))) ja_nil)))))) (blkOk_by (own := [("_law_name", 4)]) (N := ["_law_saying", "_law_found", "_law_item", "_law_names_here", "_law_name"]) (sc := defScope s__law_free) (by decide +kernel)) (fun _ _ _ _ _ => by exact (jg_name (i := 4) nd rfl (by first | exact .inl rfl | exact .inr rfl))) (gw_name (by decide)) gN_len (fun _ _ _ _ _ => by exact (jts_one (jt_cmp (op_inU (hu_of hr)) sp_inU (je_var (i := 4) rfl (by first | exact .inl rfl | exact .inr (.inl rfl) | exact .inr (.inr rfl))) (je_sl (je_var (i := 0) rfl (by first | exact .inl rfl | exact .inr (.inl rfl) | exact .inr (.inr rfl))) (jo_some (je_op op_sub sp_sub (je_callB call_lenU sp_lenU rfl T.b_len (by decide +kernel) (ja_cons (je_var (i := 0) rfl (by first | exact .inl rfl | exact .inr (.inl rfl) | exact .inr (.inr rfl))) ja_nil)) (je_int (i := (2 : Int))))) jo_none) rfl))) (fun _ _ _ _ _ => by exact (je_var (i := 4) rfl (by first | exact .inl rfl | exact .inr (.inl rfl) | exact .inr (.inr rfl))))))))
      jb_nil)
      (jb_cons (js_set (i := 1) nd rfl (by first | exact .inl rfl | exact .inr rfl) (JN.frz (jn_lst ja_nil)))
      (jb_cons (js_for (passes_of rfl) rfl (ji_seq (je_sl (je_var (i := 0) rfl (by first | exact .inl rfl | exact .inr (.inl rfl) | exact .inr (.inr rfl))) (jo_some (je_int (i := (1 : Int)))) jo_none)) (jg_name (i := 2) nd rfl (by first | exact .inl rfl | exact .inr rfl))
      (jb_one (js_if (jt_val (je_isi rfl T.b_isinstance (je_var (i := 2) rfl (by first | exact .inl rfl | exact .inr (.inl rfl) | exact .inr (.inr rfl))) (pe_bltn (v := .ty "tuple") (u := .type "tuple") rfl T.b_tuple (by decide +kernel) rfl) (.ty _) isa_tuple_ok))
      (jb_cons (js_set (i := 3) nd rfl (by first | exact .inl rfl | exact .inr rfl) (je_call F__law_free hr rfl T.g__law_free KP__law_free B__law_free tk (ja_cons (je_var (i := 2) rfl (by first | exact .inl rfl | exact .inr (.inl rfl) | exact .inr (.inr rfl))) ja_nil)))
      (jb_cons (js_if (jt_cmp (op_inU (hu_of hr)) sp_inU (je_ix ix_seq sp_ix (je_var (i := 0) rfl (by first | exact .inl rfl | exact .inr (.inl rfl) | exact .inr (.inr rfl))) (je_int (i := (0 : Int)))) (JN.frz (jn_lst (ja_cons (je_str (i := ("each" : Str))) (ja_cons (je_str (i := ("some" : Str))) ja_nil)))) rfl)
      (jb_one (js_frzLc (tt := (tTest (tOp (rNeD K) (tVar 4) (tOp (rIx K) (tVar 0) (tC (.int (1 : Int))))))) (te' := (tVar 4)) (mt := (tstB (op2 (eqD true) (vr 4) (op2 ixD (vr 0) (kk (.int (1 : Int))))))) (me := (vr 4)) (i := 3) (own := [("_law_name", 4)]) rfl nd rfl rfl (sw_true rfl rfl rfl (by decide +kernel)) (by exact (ji_seq (je_var (i := 3) rfl (by first | exact .inl rfl | exact .inr (.inl rfl) | exact .inr (.inr rfl))))) (blkOk_by (own := [("_law_name", 4)]) (N := ["_law_saying", "_law_found", "_law_item", "_law_names_here", "_law_name"]) (sc := defScope s__law_free) (by decide +kernel)) (fun _ _ _ _ _ => by exact (jg_name (i := 4) nd rfl (by first | exact .inl rfl | exact .inr rfl))) (gw_name (by decide)) gN_len (fun _ _ _ _ _ => by exact (jts_one (jt_cmp (op_neD hr.units) sp_ne (je_var (i := 4) rfl (by first | exact .inl rfl | exact .inr (.inl rfl) | exact .inr (.inr rfl))) (je_ix ix_seq sp_ix (je_var (i := 0) rfl (by first | exact .inl rfl | exact .inr (.inl rfl) | exact .inr (.inr rfl))) (je_int (i := (1 : Int)))) (nomark _)))) (fun _ _ _ _ _ => by exact (je_var (i := 4) rfl (by first | exact .inl rfl | exact .inr (.inl rfl) | exact .inr (.inr rfl))))))
      jb_nil)
      (jb_one (js_set (i := 1) nd rfl (by first | exact .inl rfl | exact .inr rfl) (je_op op_addU sp_addU (je_var (i := 1) rfl (by first | exact .inl rfl | exact .inr (.inl rfl) | exact .inr (.inr rfl))) (je_var (i := 3) rfl (by first | exact .inl rfl | exact .inr (.inl rfl) | exact .inr (.inr rfl))))))))
      jb_nil)))
      (jb_one (js_ret (JN.frz (jn_lc (tt := (tTest (tOp (rInU K false) (tVar 4) (tVar 1)))) (te := (tVar 4)) (mt := (tstB (op2 (inD false) (vr 4) (vr 1)))) (me := (vr 4)) (own := [("_law_name", 4)]) rfl nd (by exact (ji_seq (JN.frz (jn_lst (ja_cons (je_str (i := ("x" : Str))) (ja_cons (je_str (i := ("y" : Str))) ja_nil)))))) (blkOk_by (own := [("_law_name", 4)]) (N := ["_law_saying", "_law_found", "_law_item", "_law_names_here", "_law_name"]) (sc := defScope s__law_free) (by decide +kernel)) (fun _ _ _ _ _ => by exact (jg_name (i := 4) nd rfl (by first | exact .inl rfl | exact .inr rfl))) (gw_name (by decide)) gN_len (fun _ _ _ _ _ => by exact (jts_one (jt_cmp (op_inU (hu_of hr)) sp_inU (je_var (i := 4) rfl (by first | exact .inl rfl | exact .inr (.inl rfl) | exact .inr (.inr rfl))) (je_var (i := 1) rfl (by first | exact .inl rfl | exact .inr (.inl rfl) | exact .inr (.inr rfl))) rfl))) (fun _ _ _ _ _ => by exact (je_var (i := 4) rfl (by first | exact .inl rfl | exact .inr (.inl rfl) | exact .inr (.inr rfl))))))))))))⟩), (F.binds (ps := ["_law_saying"]) fun _ _ _ _ _ _ us hl => match us, hl with | [_], _ => rfl)⟩, F.kp⟩
end Mi

namespace Mi
open PySem PySem.Spec PyProof.Rows L2
theorem sc__law_places : FnScope ["_law_saying", "_law_inner", "_law_closed_here", "_law_item", "_law_pair"] ["_law_saying"] (defScope s__law_places) := ⟨rfl, rfl, rfl, by decide +kernel, rfl, by decide +kernel, by decide +kernel⟩
theorem ok__law_places {P : Program} {w : World} {K : PySem.W.Frag} {mg : Str → Option Value} {base : Heap} {ca : Nat → Addr} {A : Ad} {fd : FuncData} (T : Txt A K w mg ca) (H__law_free : Fn P w K mg base ca 24 A.f__law_free ["_law_saying"] (g__law_free 24)) (F : Fun K "_law_places" "_law_places" s__law_places A.f__law_places fd) : ∀ n, Fn P w K mg base ca (24 + n) A.f__law_places ["_law_saying"] (g__law_places n)
  | 0 => ⟨⟨fd, fn_zero, (F.binds (ps := ["_law_saying"]) fun _ _ _ _ _ _ us hl => match us, hl with | [_], _ => rfl)⟩, F.kp⟩
  | n + 1 => by
    have HH__law_places := ok__law_places (P := P) (base := base) T H__law_free F n
    obtain ⟨fd__law_places, F__law_places, B__law_places⟩ := HH__law_places.ok
    have KP__law_places := HH__law_places.kp
    obtain ⟨fd__law_free, F__law_free, B__law_free⟩ := H__law_free.ok
    have KP__law_free := H__law_free.kp
    refine ⟨⟨fd, fn_mir (P := P) (w := w) (mg := mg) (base := base) (ca := ca) (N := ["_law_saying", "_law_inner", "_law_closed_here", "_law_item", "_law_pair"]) (body := b__law_places (g__law_places n)) (k := 24 + n) F sc__law_places fun cdv AA outer s H E hr => (by
    have nd := sc__law_places.nd
    have tk := takes_of (X := cxOf (L2.CX P w) P w K mg base ["_law_saying", "_law_inner", "_law_closed_here", "_law_item", "_law_pair"] "_law_places" (defScope s__law_places) A.f__law_places cdv AA outer s H E) (E := E) rfl rfl rfl rfl
    exact ⟨_, (jb_cons (js_set (i := 1) nd rfl (by first | exact .inl rfl | exact .inr rfl) (je_int (i := (0 : Int))))
      (jb_cons (js_set (i := 2) nd rfl (by first | exact .inl rfl | exact .inr rfl) (je_int (i := (0 : Int))))
      (jb_cons (js_if (jt_cmp (op_inU (hu_of hr)) sp_inU (je_ix ix_seq sp_ix (je_var (i := 0) rfl (by first | exact .inl rfl | exact .inr (.inl rfl) | exact .inr (.inr rfl))) (je_int (i := (0 : Int)))) (JN.frz (jn_lst (ja_cons (je_str (i := ("each" : Str))) (ja_cons (je_str (i := ("some" : Str))) ja_nil)))) rfl)
      (jb_one (js_if (jt_cmp (op_eqD hr.units) sp_eq (je_callB call_lenU sp_lenU rfl T.b_len (by decide +kernel) (ja_cons (je_call F__law_free (hr.mono (by omega)) rfl T.g__law_free KP__law_free B__law_free tk (ja_cons (je_var (i := 0) rfl (by first | exact .inl rfl | exact .inr (.inl rfl) | exact .inr (.inr rfl))) ja_nil)) ja_nil)) (je_int (i := (0 : Int))) (nomark _))
      (jb_one (js_set (i := 2) nd rfl (by first | exact .inl rfl | exact .inr rfl) (je_int (i := (1 : Int)))))
      (jb_one (js_set (i := 1) nd rfl (by first | exact .inl rfl | exact .inr rfl) (je_int (i := (1 : Int)))))))
      jb_nil)
      (jb_cons (js_for (passes_of rfl) rfl (ji_seq (je_sl (je_var (i := 0) rfl (by first | exact .inl rfl | exact .inr (.inl rfl) | exact .inr (.inr rfl))) (jo_some (je_int (i := (1 : Int)))) jo_none)) (jg_name (i := 3) nd rfl (by first | exact .inl rfl | exact .inr rfl))
      (jb_one (js_if (jt_val (je_isi rfl T.b_isinstance (je_var (i := 3) rfl (by first | exact .inl rfl | exact .inr (.inl rfl) | exact .inr (.inr rfl))) (pe_bltn (v := .ty "tuple") (u := .type "tuple") rfl T.b_tuple (by decide +kernel) rfl) (.ty _) isa_tuple_ok))
      (jb_cons (js_set (i := 4) nd rfl (by first | exact .inl rfl | exact .inr rfl) (je_call F__law_places hr rfl T.g__law_places KP__law_places B__law_places tk (ja_cons (je_var (i := 3) rfl (by first | exact .inl rfl | exact .inr (.inl rfl) | exact .inr (.inr rfl))) ja_nil)))
      (jb_cons (js_set (i := 1) nd rfl (by first | exact .inl rfl | exact .inr rfl) (je_op op_addU sp_addU (je_var (i := 1) rfl (by first | exact .inl rfl | exact .inr (.inl rfl) | exact .inr (.inr rfl))) (je_ix ix_seq sp_ix (je_var (i := 4) rfl (by first | exact .inl rfl | exact .inr (.inl rfl) | exact .inr (.inr rfl))) (je_int (i := (0 : Int))))))
      (jb_one (js_set (i := 2) nd rfl (by first | exact .inl rfl | exact .inr rfl) (je_op op_addU sp_addU (je_var (i := 2) rfl (by first | exact .inl rfl | exact .inr (.inl rfl) | exact .inr (.inr rfl))) (je_ix ix_seq sp_ix (je_var (i := 4) rfl (by first | exact .inl rfl | exact .inr (.inl rfl) | exact .inr (.inr rfl))) (je_int (i := (1 : Int)))))))))
      jb_nil)))
      (jb_one (js_ret (je_tup (ja_cons (je_var (i := 1) rfl (by first | exact .inl rfl | exact .inr (.inl rfl) | exact .inr (.inr rfl))) (ja_cons (je_var (i := 2) rfl (by first | exact .inl rfl | exact .inr (.inl rfl) | exact .inr (.inr rfl))) ja_nil)))))))))⟩), (F.binds (ps := ["_law_saying"]) fun _ _ _ _ _ _ us hl => match us, hl with | [_], _ => rfl)⟩, F.kp⟩
end Mi

namespace Mi
open PySem PySem.Spec PyProof.Rows L2
theorem sc__law_said : FnScope ["_law_pool_here", "_law_shape_here", "_law_parts", "_law_turn", "_law_saying", "_law_pair"] ["_law_pool_here", "_law_shape_here", "_law_parts"] (defScope s__law_said) := ⟨rfl, rfl, rfl, by decide +kernel, rfl, by decide +kernel, by decide +kernel⟩
theorem ok__law_said {P : Program} {w : World} {K : PySem.W.Frag} {mg : Str → Option Value} {base : Heap} {ca : Nat → Addr} {A : Ad} {fd : FuncData} (T : Txt A K w mg ca) (H__law_closed : Fn P w K mg base ca 12 A.f__law_closed ["_law_pool_here", "_law_shape_here", "_law_parts", "_law_room"] (g__law_closed 4)) (H__law_places : Fn P w K mg base ca 48 A.f__law_places ["_law_saying"] (g__law_places 24)) (H__law_quantor : Fn P w K mg base ca 2 A.f__law_quantor ["_law_pool_here"] g__law_quantor) (H__law_test : Fn P w K mg base ca 2 A.f__law_test ["_law_pool_here", "_law_shape_here", "_law_names_here"] g__law_test) (F : Fun K "_law_said" "_law_said" s__law_said A.f__law_said fd) : Fn P w K mg base ca 49 A.f__law_said ["_law_pool_here", "_law_shape_here", "_law_parts"] g__law_said := by
  obtain ⟨fd__law_closed, F__law_closed, B__law_closed⟩ := H__law_closed.ok
  have KP__law_closed := H__law_closed.kp
  obtain ⟨fd__law_places, F__law_places, B__law_places⟩ := H__law_places.ok
  have KP__law_places := H__law_places.kp
  obtain ⟨fd__law_quantor, F__law_quantor, B__law_quantor⟩ := H__law_quantor.ok
  have KP__law_quantor := H__law_quantor.kp
  obtain ⟨fd__law_test, F__law_test, B__law_test⟩ := H__law_test.ok
  have KP__law_test := H__law_test.kp
  refine ⟨⟨fd, fn_mir (P := P) (w := w) (mg := mg) (base := base) (ca := ca) (N := ["_law_pool_here", "_law_shape_here", "_law_parts", "_law_turn", "_law_saying", "_law_pair"]) (body := b__law_said) F sc__law_said fun cdv AA outer s H E hr => (by
    have nd := sc__law_said.nd
    have tk := takes_of (X := cxOf (L2.CX P w) P w K mg base ["_law_pool_here", "_law_shape_here", "_law_parts", "_law_turn", "_law_saying", "_law_pair"] "_law_said" (defScope s__law_said) A.f__law_said cdv AA outer s H E) (E := E) rfl rfl rfl rfl
    exact ⟨_, (jb_cons (js_for (passes_of rfl) rfl (ji_range1 rfl T.b_range (ja_cons (je_int (i := (4 : Int))) ja_nil)) (jg_name (i := 3) nd rfl (by first | exact .inl rfl | exact .inr rfl))
      (jb_cons (js_set (i := 4) nd rfl (by first | exact .inl rfl | exact .inr rfl) (je_call F__law_closed (hr.mono (by decide)) rfl T.g__law_closed KP__law_closed B__law_closed tk (ja_cons (je_var (i := 0) rfl (by first | exact .inl rfl | exact .inr (.inl rfl) | exact .inr (.inr rfl))) (ja_cons (je_var (i := 1) rfl (by first | exact .inl rfl | exact .inr (.inl rfl) | exact .inr (.inr rfl))) (ja_cons (je_var (i := 2) rfl (by first | exact .inl rfl | exact .inr (.inl rfl) | exact .inr (.inr rfl))) (ja_cons (je_int (i := (1 : Int))) ja_nil))))))
      (jb_cons (js_set (i := 5) nd rfl (by first | exact .inl rfl | exact .inr rfl) (je_call F__law_places (hr.mono (by decide)) rfl T.g__law_places KP__law_places B__law_places tk (ja_cons (je_var (i := 4) rfl (by first | exact .inl rfl | exact .inr (.inl rfl) | exact .inr (.inr rfl))) ja_nil)))
      (jb_one (js_if (JW.jt (jw_and (jt_cmp op_le sp_cmp (je_ix ix_seq sp_ix (je_var (i := 5) rfl (by first | exact .inl rfl | exact .inr (.inl rfl) | exact .inr (.inr rfl))) (je_int (i := (0 : Int)))) (je_var (i := 2) rfl (by first | exact .inl rfl | exact .inr (.inl rfl) | exact .inr (.inr rfl))) (nomark _)) (jw_and1 (jt_cmp op_le sp_cmp (je_ix ix_seq sp_ix (je_var (i := 5) rfl (by first | exact .inl rfl | exact .inr (.inl rfl) | exact .inr (.inr rfl))) (je_int (i := (1 : Int)))) (je_int (i := (3 : Int))) (nomark _)))))
      (jb_one (js_ret (je_var (i := 4) rfl (by first | exact .inl rfl | exact .inr (.inl rfl) | exact .inr (.inr rfl)))))
      jb_nil)))))
      (jb_one (js_ret (je_tup (ja_cons (je_call F__law_quantor (hr.mono (by decide)) rfl T.g__law_quantor KP__law_quantor B__law_quantor tk (ja_cons (je_var (i := 0) rfl (by first | exact .inl rfl | exact .inr (.inl rfl) | exact .inr (.inr rfl))) ja_nil)) (ja_cons (je_str (i := ("x" : Str))) (ja_cons (je_call F__law_test (hr.mono (by decide)) rfl T.g__law_test KP__law_test B__law_test tk (ja_cons (je_var (i := 0) rfl (by first | exact .inl rfl | exact .inr (.inl rfl) | exact .inr (.inr rfl))) (ja_cons (je_var (i := 1) rfl (by first | exact .inl rfl | exact .inr (.inl rfl) | exact .inr (.inr rfl))) (ja_cons (JN.frz (jn_lst (ja_cons (je_str (i := ("x" : Str))) ja_nil))) ja_nil)))) ja_nil)))))))⟩), (F.binds (ps := ["_law_pool_here", "_law_shape_here", "_law_parts"]) fun _ _ _ _ _ _ us hl => match us, hl with | [_, _, _], _ => rfl)⟩, F.kp⟩
end Mi

namespace Mi
open PySem PySem.Spec PyProof.Rows L2
theorem sc_Hall_said : FnScope ["self"] ["self"] (defScope s_Hall_said) := ⟨rfl, rfl, rfl, by decide +kernel, rfl, by decide +kernel, by decide +kernel⟩
theorem ok_Hall_said {P : Program} {w : World} {K : PySem.W.Frag} {mg : Str → Option Value} {base : Heap} {ca : Nat → Addr} {A : Ad} {fd : FuncData} (T : Txt A K w mg ca) (F : Fun K "said" "Hall.said" s_Hall_said A.f_Hall_said fd) : Fn P w K mg base ca 1 A.f_Hall_said ["self"] g_Hall_said := by
  refine ⟨⟨fd, fn_mir (P := P) (w := w) (mg := mg) (base := base) (ca := ca) (N := ["self"]) (body := b_Hall_said) F sc_Hall_said fun cdv AA outer s H E hr => (by
    have nd := sc_Hall_said.nd
    have tk := takes_of (X := cxOf (L2.CX P w) P w K mg base ["self"] "Hall.said" (defScope s_Hall_said) A.f_Hall_said cdv AA outer s H E) (E := E) rfl rfl rfl rfl
    exact ⟨_, (jb_one (js_ret (JN.ptr (jn_callTy call_list_of sp_list rfl T.b_list (by decide +kernel) (ja_cons (je_fld (c := 1) T.cl_Hall T.na_Hall_kept (je_var (i := 0) rfl (by first | exact .inl rfl | exact .inr (.inl rfl) | exact .inr (.inr rfl)))) ja_nil)))))⟩), (F.binds (ps := ["self"]) fun _ _ _ _ _ _ us hl => match us, hl with | [_], _ => rfl)⟩, F.kp⟩
end Mi

namespace Mi
open PySem PySem.Spec PyProof.Rows L2
theorem sc_Hall_depth : FnScope ["self"] ["self"] (defScope s_Hall_depth) := ⟨rfl, rfl, rfl, by decide +kernel, rfl, by decide +kernel, by decide +kernel⟩
theorem ok_Hall_depth {P : Program} {w : World} {K : PySem.W.Frag} {mg : Str → Option Value} {base : Heap} {ca : Nat → Addr} {A : Ad} {fd : FuncData} (T : Txt A K w mg ca) (F : Fun K "depth" "Hall.depth" s_Hall_depth A.f_Hall_depth fd) : Fn P w K mg base ca 1 A.f_Hall_depth ["self"] g_Hall_depth := by
  refine ⟨⟨fd, fn_mir (P := P) (w := w) (mg := mg) (base := base) (ca := ca) (N := ["self"]) (body := b_Hall_depth) F sc_Hall_depth fun cdv AA outer s H E hr => (by
    have nd := sc_Hall_depth.nd
    have tk := takes_of (X := cxOf (L2.CX P w) P w K mg base ["self"] "Hall.depth" (defScope s_Hall_depth) A.f_Hall_depth cdv AA outer s H E) (E := E) rfl rfl rfl rfl
    exact ⟨_, (jb_one (js_ret (je_callB call_lenU sp_lenU rfl T.b_len (by decide +kernel) (ja_cons (je_fld (c := 1) T.cl_Hall T.na_Hall_past (je_var (i := 0) rfl (by first | exact .inl rfl | exact .inr (.inl rfl) | exact .inr (.inr rfl)))) ja_nil))))⟩), (F.binds (ps := ["self"]) fun _ _ _ _ _ _ us hl => match us, hl with | [_], _ => rfl)⟩, F.kp⟩
end Mi

namespace Mi
open PySem PySem.Spec PyProof.Rows L2
theorem sc_Hall_language : FnScope ["self"] ["self"] (defScope s_Hall_language) := ⟨rfl, rfl, rfl, by decide +kernel, rfl, by decide +kernel, by decide +kernel⟩
theorem ok_Hall_language {P : Program} {w : World} {K : PySem.W.Frag} {mg : Str → Option Value} {base : Heap} {ca : Nat → Addr} {A : Ad} {fd : FuncData} (T : Txt A K w mg ca) (F : Fun K "language" "Hall.language" s_Hall_language A.f_Hall_language fd) : Fn P w K mg base ca 1 A.f_Hall_language ["self"] g_Hall_language := by
  refine ⟨⟨fd, fn_mir (P := P) (w := w) (mg := mg) (base := base) (ca := ca) (N := ["self"]) (body := b_Hall_language) F sc_Hall_language fun cdv AA outer s H E hr => (by
    have nd := sc_Hall_language.nd
    have tk := takes_of (X := cxOf (L2.CX P w) P w K mg base ["self"] "Hall.language" (defScope s_Hall_language) A.f_Hall_language cdv AA outer s H E) (E := E) rfl rfl rfl rfl
    exact ⟨_, (jb_one (js_ret (je_fld (c := 1) T.cl_Hall T.na_Hall_kept_tongue (je_var (i := 0) rfl (by first | exact .inl rfl | exact .inr (.inl rfl) | exact .inr (.inr rfl))))))⟩), (F.binds (ps := ["self"]) fun _ _ _ _ _ _ us hl => match us, hl with | [_], _ => rfl)⟩, F.kp⟩
end Mi

namespace Mi
open PySem PySem.Spec PyProof.Rows L2
theorem sc_law : FnScope ["_law_script", "_law_pool_here", "_law_shape_here", "_law_tongue_here", "_law_hall", "_law_names_here", "_law_rows", "_law_turn", "_law_kind", "_law_deed", "_law_due_here", "_law_told", "_law_table", "_law_fractions"] ["_law_script"] (defScope s_law) := ⟨rfl, rfl, rfl, by decide +kernel, rfl, by decide +kernel, by decide +kernel⟩
theorem ok_law {P : Program} {w : World} {K : PySem.W.Frag} {mg : Str → Option Value} {base : Heap} {ca : Nat → Addr} {A : Ad} {fd : FuncData} (T : Txt A K w mg ca) (H__law_pool : Fn P w K mg base ca 1 A.f__law_pool ["_law_script"] g__law_pool) (H__law_small_shape : Fn P w K mg base ca 4 A.f__law_small_shape ["_law_pool_here"] g__law_small_shape) (H__law_tongue : Fn P w K mg base ca 5 A.f__law_tongue ["_law_shape_here"] g__law_tongue) (H_Hall___init__ : FnI P w K mg base ca 1 2 A.f_Hall___init__ "self" ["tongue"] g_Hall___init__) (H__law_draw : Fn P w K mg base ca 1 A.f__law_draw ["_law_pool_here", "_law_many"] g__law_draw) (H__law_said : Fn P w K mg base ca 49 A.f__law_said ["_law_pool_here", "_law_shape_here", "_law_parts"] g__law_said) (H__law_one : Fn P w K mg base ca 8 A.f__law_one ["_law_pool_here", "_law_shape_here", "_law_name", "_law_parts"] g__law_one) (H__law_due : Fn P w K mg base ca 1 A.f__law_due ["_law_rows", "_law_deed", "_law_names_here"] g__law_due) (H__law_did : Fn P w K mg base ca 26 A.f__law_did ["_law_hall", "_law_deed"] g__law_did) (H_Hall_said : Fn P w K mg base ca 1 A.f_Hall_said ["self"] g_Hall_said) (H_Hall_scales : Fn P w K mg base ca 1 A.f_Hall_scales ["self"] g_Hall_scales) (H_Hall_depth : Fn P w K mg base ca 1 A.f_Hall_depth ["self"] g_Hall_depth) (H_Tongue___eq__ : Fn P w K mg base ca 3 A.f_Tongue___eq__ ["self", "other"] g_Tongue___eq__) (H_Hall_language : Fn P w K mg base ca 1 A.f_Hall_language ["self"] g_Hall_language) (F : Fun K "law" "law" s_law A.f_law fd) : FnOk P w K mg base (L2.CX P w) 50 A.f_law fd ["_law_script"] (spM ⟨K, ca⟩ 1 g_law) := by
  obtain ⟨fd__law_pool, F__law_pool, B__law_pool⟩ := H__law_pool.ok
  have KP__law_pool := H__law_pool.kp
  obtain ⟨fd__law_small_shape, F__law_small_shape, B__law_small_shape⟩ := H__law_small_shape.ok
  have KP__law_small_shape := H__law_small_shape.kp
  obtain ⟨fd__law_tongue, F__law_tongue, B__law_tongue⟩ := H__law_tongue.ok
  have KP__law_tongue := H__law_tongue.kp
  obtain ⟨fd_Hall___init__, F_Hall___init__, B_Hall___init__⟩ := H_Hall___init__.ok
  obtain ⟨fd__law_draw, F__law_draw, B__law_draw⟩ := H__law_draw.ok
  have KP__law_draw := H__law_draw.kp
  obtain ⟨fd__law_said, F__law_said, B__law_said⟩ := H__law_said.ok
  have KP__law_said := H__law_said.kp
  obtain ⟨fd__law_one, F__law_one, B__law_one⟩ := H__law_one.ok
  have KP__law_one := H__law_one.kp
  obtain ⟨fd__law_due, F__law_due, B__law_due⟩ := H__law_due.ok
  have KP__law_due := H__law_due.kp
  obtain ⟨fd__law_did, F__law_did, B__law_did⟩ := H__law_did.ok
  have KP__law_did := H__law_did.kp
  obtain ⟨fd_Hall_said, F_Hall_said, B_Hall_said⟩ := H_Hall_said.ok
  have KP_Hall_said := H_Hall_said.kp
  obtain ⟨fd_Hall_scales, F_Hall_scales, B_Hall_scales⟩ := H_Hall_scales.ok
  have KP_Hall_scales := H_Hall_scales.kp
  obtain ⟨fd_Hall_depth, F_Hall_depth, B_Hall_depth⟩ := H_Hall_depth.ok
  have KP_Hall_depth := H_Hall_depth.kp
  obtain ⟨fd_Tongue___eq__, F_Tongue___eq__, B_Tongue___eq__⟩ := H_Tongue___eq__.ok
  have KP_Tongue___eq__ := H_Tongue___eq__.kp
  obtain ⟨fd_Hall_language, F_Hall_language, B_Hall_language⟩ := H_Hall_language.ok
  have KP_Hall_language := H_Hall_language.kp
  exact fn_mir (P := P) (w := w) (mg := mg) (base := base) (ca := ca) (N := ["_law_script", "_law_pool_here", "_law_shape_here", "_law_tongue_here", "_law_hall", "_law_names_here", "_law_rows", "_law_turn", "_law_kind", "_law_deed", "_law_due_here", "_law_told", "_law_table", "_law_fractions"]) (body := b_law) F sc_law fun cdv AA outer s H E hr => (by
    have nd := sc_law.nd
    have tk := takes_of (X := cxOf (L2.CX P w) P w K mg base ["_law_script", "_law_pool_here", "_law_shape_here", "_law_tongue_here", "_law_hall", "_law_names_here", "_law_rows", "_law_turn", "_law_kind", "_law_deed", "_law_due_here", "_law_told", "_law_table", "_law_fractions"] "law" (defScope s_law) A.f_law cdv AA outer s H E) (E := E) rfl rfl rfl rfl
    exact ⟨_, (jb_cons (js_set (i := 1) nd rfl (by first | exact .inl rfl | exact .inr rfl) (je_call F__law_pool (hr.mono (by decide)) rfl T.g__law_pool KP__law_pool B__law_pool tk (ja_cons (je_var (i := 0) rfl (by first | exact .inl rfl | exact .inr (.inl rfl) | exact .inr (.inr rfl))) ja_nil)))
      (jb_cons (js_set (i := 2) nd rfl (by first | exact .inl rfl | exact .inr rfl) (je_call F__law_small_shape (hr.mono (by decide)) rfl T.g__law_small_shape KP__law_small_shape B__law_small_shape tk (ja_cons (je_var (i := 1) rfl (by first | exact .inl rfl | exact .inr (.inl rfl) | exact .inr (.inr rfl))) ja_nil)))
      (jb_cons (js_set (i := 3) nd rfl (by first | exact .inl rfl | exact .inr rfl) (je_call F__law_tongue (hr.mono (by decide)) rfl T.g__law_tongue KP__law_tongue B__law_tongue tk (ja_cons (je_var (i := 2) rfl (by first | exact .inl rfl | exact .inr (.inl rfl) | exact .inr (.inr rfl))) ja_nil)))
      (jb_cons (js_set (i := 4) nd rfl (by first | exact .inl rfl | exact .inr rfl) (JN.ptr (jn_make T.mk_Hall F_Hall___init__ (hr.mono (by decide)) rfl T.g_Hall B_Hall___init__ tk (ja_cons (je_var (i := 3) rfl (by first | exact .inl rfl | exact .inr (.inl rfl) | exact .inr (.inr rfl))) ja_nil))))
      (jb_cons (js_set (i := 5) nd rfl (by first | exact .inl rfl | exact .inr rfl) (JN.frz (jn_callTy call_list_of sp_list rfl T.b_list (by decide +kernel) (ja_cons (je_op op_addU sp_addU (je_ix ix_seq sp_ix (je_var (i := 2) rfl (by first | exact .inl rfl | exact .inr (.inl rfl) | exact .inr (.inr rfl))) (je_int (i := (0 : Int)))) (je_ix ix_seq sp_ix (je_var (i := 2) rfl (by first | exact .inl rfl | exact .inr (.inl rfl) | exact .inr (.inr rfl))) (je_int (i := (1 : Int))))) ja_nil))))
      (jb_cons (js_set (i := 6) nd rfl (by first | exact .inl rfl | exact .inr rfl) (JN.ptr (jn_lst (ja_cons (je_tup (ja_cons (JN.frz (jn_lst ja_nil)) (ja_cons (JN.frz jn_dicK) ja_nil))) ja_nil))))
      (jb_cons (js_for (passes_of rfl) rfl (ji_range1 rfl T.b_range (ja_cons (je_op op_addU sp_addU (je_int (i := (4 : Int))) (je_call F__law_draw (hr.mono (by decide)) rfl T.g__law_draw KP__law_draw B__law_draw tk (ja_cons (je_var (i := 1) rfl (by first | exact .inl rfl | exact .inr (.inl rfl) | exact .inr (.inr rfl))) (ja_cons (je_int (i := (21 : Int))) ja_nil)))) ja_nil)) (jg_name (i := 7) nd rfl (by first | exact .inl rfl | exact .inr rfl))
      (jb_cons (js_set (i := 8) nd rfl (by first | exact .inl rfl | exact .inr rfl) (je_call F__law_draw (hr.mono (by decide)) rfl T.g__law_draw KP__law_draw B__law_draw tk (ja_cons (je_var (i := 1) rfl (by first | exact .inl rfl | exact .inr (.inl rfl) | exact .inr (.inr rfl))) (ja_cons (je_int (i := (5 : Int))) ja_nil))))
      (jb_cons (js_set (i := 9) nd rfl (by first | exact .inl rfl | exact .inr rfl) (je_tup (ja_cons (je_str (i := ("back" : Str))) ja_nil)))
      (jb_cons (js_if (jt_cmp op_lt sp_cmp (je_var (i := 8) rfl (by first | exact .inl rfl | exact .inr (.inl rfl) | exact .inr (.inr rfl))) (je_int (i := (2 : Int))) (nomark _))
      (jb_cons (js_set (i := 9) nd rfl (by first | exact .inl rfl | exact .inr rfl) (je_tup (ja_cons (je_str (i := ("say" : Str))) (ja_cons (je_call F__law_said (hr.mono (by decide)) rfl T.g__law_said KP__law_said B__law_said tk (ja_cons (je_var (i := 1) rfl (by first | exact .inl rfl | exact .inr (.inl rfl) | exact .inr (.inr rfl))) (ja_cons (je_var (i := 2) rfl (by first | exact .inl rfl | exact .inr (.inl rfl) | exact .inr (.inr rfl))) (ja_cons (je_int (i := (1 : Int))) ja_nil)))) ja_nil))))
      (jb_one (js_if (jt_cmp (op_eqD hr.units) sp_eq (je_call F__law_draw (hr.mono (by decide)) rfl T.g__law_draw KP__law_draw B__law_draw tk (ja_cons (je_var (i := 1) rfl (by first | exact .inl rfl | exact .inr (.inl rfl) | exact .inr (.inr rfl))) (ja_cons (je_int (i := (6 : Int))) ja_nil))) (je_int (i := (0 : Int))) (nomark _))
      (jb_one (js_set (i := 9) nd rfl (by first | exact .inl rfl | exact .inr rfl) (je_tup (ja_cons (je_str (i := ("say" : Str))) (ja_cons (je_tup (ja_cons (je_str (i := ("each" : Str))) (ja_cons (je_str (i := ("x" : Str))) (ja_cons (je_tup (ja_cons (je_str (i := ("and" : Str))) (ja_cons (je_call F__law_one (hr.mono (by decide)) rfl T.g__law_one KP__law_one B__law_one tk (ja_cons (je_var (i := 1) rfl (by first | exact .inl rfl | exact .inr (.inl rfl) | exact .inr (.inr rfl))) (ja_cons (je_var (i := 2) rfl (by first | exact .inl rfl | exact .inr (.inl rfl) | exact .inr (.inr rfl))) (ja_cons (je_str (i := ("x" : Str))) (ja_cons (je_int (i := (2 : Int))) ja_nil))))) (ja_cons (je_call F__law_one (hr.mono (by decide)) rfl T.g__law_one KP__law_one B__law_one tk (ja_cons (je_var (i := 1) rfl (by first | exact .inl rfl | exact .inr (.inl rfl) | exact .inr (.inr rfl))) (ja_cons (je_var (i := 2) rfl (by first | exact .inl rfl | exact .inr (.inl rfl) | exact .inr (.inr rfl))) (ja_cons (je_str (i := ("x" : Str))) (ja_cons (je_int (i := (2 : Int))) ja_nil))))) ja_nil)))) ja_nil)))) ja_nil)))))
      jb_nil)))
      (jb_one (js_if (jt_cmp (op_eqD hr.units) sp_eq (je_var (i := 8) rfl (by first | exact .inl rfl | exact .inr (.inl rfl) | exact .inr (.inr rfl))) (je_int (i := (2 : Int))) (nomark _))
      (jb_one (js_set (i := 9) nd rfl (by first | exact .inl rfl | exact .inr rfl) (je_tup (ja_cons (je_str (i := ("drop" : Str))) (ja_cons (je_ix ix_seq sp_ix (JN.frz (jn_lst (ja_cons (je_int (i := (0 : Int))) (ja_cons (je_int (i := (1 : Int))) (ja_cons (je_int (i := (2 : Int))) (ja_cons (je_un un_neg sp_neg (je_int (i := (1 : Int)))) (ja_cons (je_int (i := (3 : Int))) (ja_cons (je_op op_pow sp_pow (je_int (i := (10 : Int))) (je_int (i := (20 : Int)))) ja_nil)))))))) (je_call F__law_draw (hr.mono (by decide)) rfl T.g__law_draw KP__law_draw B__law_draw tk (ja_cons (je_var (i := 1) rfl (by first | exact .inl rfl | exact .inr (.inl rfl) | exact .inr (.inr rfl))) (ja_cons (je_int (i := (6 : Int))) ja_nil)))) ja_nil)))))
      (jb_one (js_if (jt_cmp (op_eqD hr.units) sp_eq (je_var (i := 8) rfl (by first | exact .inl rfl | exact .inr (.inl rfl) | exact .inr (.inr rfl))) (je_int (i := (3 : Int))) (nomark _))
      (jb_cons (js_set (i := 13) nd rfl (by first | exact .inl rfl | exact .inr rfl) (JN.frz (jn_lst (ja_cons (je_tup (ja_cons (je_int (i := (1 : Int))) (ja_cons (je_int (i := (2 : Int))) ja_nil))) (ja_cons (je_tup (ja_cons (je_int (i := (3 : Int))) (ja_cons (je_int (i := (1 : Int))) ja_nil))) (ja_cons (je_tup (ja_cons (je_int (i := (0 : Int))) (ja_cons (je_int (i := (1 : Int))) ja_nil))) (ja_cons (je_tup (ja_cons (je_int (i := (5 : Int))) (ja_cons (je_int (i := (4 : Int))) ja_nil))) (ja_cons (je_tup (ja_cons (je_int (i := (2 : Int))) (ja_cons (je_int (i := (4 : Int))) ja_nil))) (ja_cons (je_tup (ja_cons (je_un un_neg sp_neg (je_int (i := (1 : Int)))) (ja_cons (je_int (i := (2 : Int))) ja_nil))) (ja_cons (je_tup (ja_cons (je_int (i := (1 : Int))) (ja_cons (je_int (i := (0 : Int))) ja_nil))) ja_nil))))))))))
      (jb_one (js_set (i := 9) nd rfl (by first | exact .inl rfl | exact .inr rfl) (je_tup (ja_cons (je_str (i := ("weigh" : Str))) (ja_cons (je_ix ix_seq sp_ix (je_op op_addU sp_addU (je_var (i := 5) rfl (by first | exact .inl rfl | exact .inr (.inl rfl) | exact .inr (.inr rfl))) (JN.frz (jn_lst (ja_cons (je_str (i := ("spares" : Str))) ja_nil)))) (je_call F__law_draw (hr.mono (by decide)) rfl T.g__law_draw KP__law_draw B__law_draw tk (ja_cons (je_var (i := 1) rfl (by first | exact .inl rfl | exact .inr (.inl rfl) | exact .inr (.inr rfl))) (ja_cons (je_op op_addU sp_addU (je_callB call_lenU sp_lenU rfl T.b_len (by decide +kernel) (ja_cons (je_var (i := 5) rfl (by first | exact .inl rfl | exact .inr (.inl rfl) | exact .inr (.inr rfl))) ja_nil)) (je_int (i := (1 : Int)))) ja_nil)))) (ja_cons (je_ix ix_seq sp_ix (je_var (i := 13) rfl (by first | exact .inl rfl | exact .inr (.inl rfl) | exact .inr (.inr rfl))) (je_call F__law_draw (hr.mono (by decide)) rfl T.g__law_draw KP__law_draw B__law_draw tk (ja_cons (je_var (i := 1) rfl (by first | exact .inl rfl | exact .inr (.inl rfl) | exact .inr (.inr rfl))) (ja_cons (je_int (i := (7 : Int))) ja_nil)))) ja_nil)))))))
      jb_nil)))))
      (jb_cons (js_set (i := 10) nd rfl (by first | exact .inl rfl | exact .inr rfl) (je_call F__law_due (hr.mono (by decide)) rfl T.g__law_due KP__law_due B__law_due tk (ja_cons (je_var (i := 6) rfl (by first | exact .inl rfl | exact .inr (.inl rfl) | exact .inr (.inr rfl))) (ja_cons (je_var (i := 9) rfl (by first | exact .inl rfl | exact .inr (.inl rfl) | exact .inr (.inr rfl))) (ja_cons (je_var (i := 5) rfl (by first | exact .inl rfl | exact .inr (.inl rfl) | exact .inr (.inr rfl))) ja_nil)))))
      (jb_cons (js_set (i := 11) nd rfl (by first | exact .inl rfl | exact .inr rfl) (je_call F__law_did (hr.mono (by decide)) rfl T.g__law_did KP__law_did B__law_did tk (ja_cons (je_var (i := 4) rfl (by first | exact .inl rfl | exact .inr (.inl rfl) | exact .inr (.inr rfl))) (ja_cons (je_var (i := 9) rfl (by first | exact .inl rfl | exact .inr (.inl rfl) | exact .inr (.inr rfl))) ja_nil))))
      (jb_cons (js_if (JW.jt (jw_or (jt_cmp (op_neD hr.units) sp_ne (je_var (i := 11) rfl (by first | exact .inl rfl | exact .inr (.inl rfl) | exact .inr (.inr rfl))) (je_var (i := 10) rfl (by first | exact .inl rfl | exact .inr (.inl rfl) | exact .inr (.inr rfl))) (nomark _)) (jw_or (jt_cmp (op_neD hr.units) sp_ne (je_meth0 (c := 1) F_Hall_said (hr.mono (by decide)) T.cl_Hall T.me_Hall_said B_Hall_said tk (je_var (i := 4) rfl (by first | exact .inl rfl | exact .inr (.inl rfl) | exact .inr (.inr rfl)))) (je_ix ix_seq sp_ix (je_ix ix_seq sp_ix (je_var (i := 6) rfl (by first | exact .inl rfl | exact .inr (.inl rfl) | exact .inr (.inr rfl))) (je_un un_neg sp_neg (je_int (i := (1 : Int))))) (je_int (i := (0 : Int)))) (nomark _)) (jw_or (jt_cmp (op_neDD (room65 hr)) sp_eqDD (je_meth0 (c := 1) F_Hall_scales (hr.mono (by decide)) T.cl_Hall T.me_Hall_scales B_Hall_scales tk (je_var (i := 4) rfl (by first | exact .inl rfl | exact .inr (.inl rfl) | exact .inr (.inr rfl)))) (je_ix ix_seq sp_ix (je_ix ix_seq sp_ix (je_var (i := 6) rfl (by first | exact .inl rfl | exact .inr (.inl rfl) | exact .inr (.inr rfl))) (je_un un_neg sp_neg (je_int (i := (1 : Int))))) (je_int (i := (1 : Int)))) (nomark _)) (jw_or1 (jt_cmp (op_neD hr.units) sp_ne (je_meth0 (c := 1) F_Hall_depth (hr.mono (by decide)) T.cl_Hall T.me_Hall_depth B_Hall_depth tk (je_var (i := 4) rfl (by first | exact .inl rfl | exact .inr (.inl rfl) | exact .inr (.inr rfl)))) (je_op op_sub sp_sub (je_callB call_lenU sp_lenU rfl T.b_len (by decide +kernel) (ja_cons (je_var (i := 6) rfl (by first | exact .inl rfl | exact .inr (.inl rfl) | exact .inr (.inr rfl))) ja_nil)) (je_int (i := (1 : Int)))) (nomark _)))))))
      (jb_one (js_ret (je_bl (i := false))))
      jb_nil)
      (jb_cons (js_expr (je_mu PySem.F.plainAttrs_list PySem.F.slot_list_append PySem.F.type_list_append mt_append sp_append ty_lst (je_meth0 (c := 1) F_Hall_said (hr.mono (by decide)) T.cl_Hall T.me_Hall_said B_Hall_said tk (je_var (i := 4) rfl (by first | exact .inl rfl | exact .inr (.inl rfl) | exact .inr (.inr rfl)))) (ja_cons je_non ja_nil)))
      (jb_cons (js_set (i := 12) nd rfl (by first | exact .inl rfl | exact .inr rfl) (je_meth0 (c := 1) F_Hall_scales (hr.mono (by decide)) T.cl_Hall T.me_Hall_scales B_Hall_scales tk (je_var (i := 4) rfl (by first | exact .inl rfl | exact .inr (.inl rfl) | exact .inr (.inr rfl)))))
      (jb_cons (js_sub (set_U (hu_of hr)) sp_setU je_non (je_var (i := 12) rfl (by first | exact .inl rfl | exact .inr (.inl rfl) | exact .inr (.inr rfl))) (je_str (i := ("spares" : Str))))
      (jb_one (js_if (JW.jt (jw_or (jt_cmp (op_neD hr.units) sp_ne (je_meth0 (c := 1) F_Hall_said (hr.mono (by decide)) T.cl_Hall T.me_Hall_said B_Hall_said tk (je_var (i := 4) rfl (by first | exact .inl rfl | exact .inr (.inl rfl) | exact .inr (.inr rfl)))) (je_ix ix_seq sp_ix (je_ix ix_seq sp_ix (je_var (i := 6) rfl (by first | exact .inl rfl | exact .inr (.inl rfl) | exact .inr (.inr rfl))) (je_un un_neg sp_neg (je_int (i := (1 : Int))))) (je_int (i := (0 : Int)))) (nomark _)) (jw_or (jt_cmp (op_neDD (room65 hr)) sp_eqDD (je_meth0 (c := 1) F_Hall_scales (hr.mono (by decide)) T.cl_Hall T.me_Hall_scales B_Hall_scales tk (je_var (i := 4) rfl (by first | exact .inl rfl | exact .inr (.inl rfl) | exact .inr (.inr rfl)))) (je_ix ix_seq sp_ix (je_ix ix_seq sp_ix (je_var (i := 6) rfl (by first | exact .inl rfl | exact .inr (.inl rfl) | exact .inr (.inr rfl))) (je_un un_neg sp_neg (je_int (i := (1 : Int))))) (je_int (i := (1 : Int)))) (nomark _)) (jw_or1 (jt_neO T.eo_Tongue F_Tongue___eq__ (hr.mono (by decide)) B_Tongue___eq__ (je_meth0 (c := 1) F_Hall_language (hr.mono (by decide)) T.cl_Hall T.me_Hall_language B_Hall_language tk (je_var (i := 4) rfl (by first | exact .inl rfl | exact .inr (.inl rfl) | exact .inr (.inr rfl)))) (je_var (i := 3) rfl (by first | exact .inl rfl | exact .inr (.inl rfl) | exact .inr (.inr rfl))) (nomark _))))))
      (jb_one (js_ret (je_bl (i := false))))
      jb_nil))))))))))))
      (jb_one (js_ret (je_bl (i := true)))))))))))⟩)
end Mi

/-! what a mirror computes: rules for its runs. -/
namespace Mi
open PySem PySem.Spec PyProof.Rows L2

inductive Tg {α : Type} (Q : α → S → Prop) : Type | mk
def Wp {α : Type} (r : Res α) (Q : α → S → Prop) (_ : Tg Q := .mk) : Prop := match r with
  | .ok a s => Q a s
  | _ => False
section
variable {α β : Type} {s : S} {e : List Slot} {t : List D} {i : Nat} {d : D}
theorem Wp.mono {r : Res α} {Q Q' : α → S → Prop} (h : Wp r Q) (k : ∀ a s, Q a s → Q' a s) : Wp r Q' := by
  cases r with
  | ok a s => exact k a s h
  | exc x s => exact h
  | stuck => exact h
theorem wp_ex {r : Res α} {Q : α → S → Prop} : Wp r Q ↔ ∃ a s, r = .ok a s ∧ Q a s := by
  cases r with
  | ok a s => exact ⟨fun h => ⟨a, s, rfl, h⟩, fun ⟨_, _, h, q⟩ => by cases h; exact q⟩
  | exc x s => exact ⟨fun h => h.elim, fun ⟨_, _, h, _⟩ => by cases h⟩
  | stuck => exact ⟨fun h => h.elim, fun ⟨_, _, h, _⟩ => by cases h⟩
@[simp] theorem wp_ok {a : α} {Q : α → S → Prop} : Wp (.ok a s) Q = Q a s := rfl
@[simp] theorem wp_ret {a : α} {Q : α → S → Prop} : Wp (ret a s) Q = Q a s := rfl
@[simp] theorem wp_bnd {m : M α} {f : α → M β} {Q : β → S → Prop} : Wp (bnd m f s) Q = Wp (m s) fun a s1 => Wp (f a s1) Q := by
  unfold bnd Res.bind
  cases m s <;> rfl
theorem wp_bndQ {m : M α} {f : α → M β} {Q : β → S → Prop} {Q' : α → S → Prop} (h : ∀ a s1, Wp (f a s1) Q = Q' a s1) : Wp (bnd m f s) Q = Wp (m s) Q' := by
  rw [wp_bnd]
  have : (fun a s1 => Wp (f a s1) Q) = Q' := by funext a s1; exact h a s1
  rw [this]
@[simp] theorem wp_opt {d : D} {Q : Loc → S → Prop} : Wp (opt (some d) s) Q = Q (.val d) s := rfl
@[simp] theorem wp_op2 {f : D → D → Option D} {ma mb : M Loc} {Q : Loc → S → Prop} : Wp (op2 f ma mb s) Q = Wp (ma s) fun x s1 => Wp (mb s1) fun y s2 => Wp (cont x s2) fun dx s3 => Wp (cont y s3) fun dy s4 => Wp (opt (f dx dy) s4) Q := by
  unfold op2; (repeat with_reducible refine wp_bndQ fun _ _ => ?_) <;> rfl
@[simp] theorem wp_op1 {f : D → Option D} {ma : M Loc} {Q : Loc → S → Prop} : Wp (op1 f ma s) Q = Wp (ma s) fun x s1 => Wp (cont x s1) fun dx s3 => Wp (opt (f dx) s3) Q := by
  unfold op1; (repeat with_reducible refine wp_bndQ fun _ _ => ?_) <;> rfl
@[simp] theorem wp_opC {f : List D → Option D} {ma : M (List Loc)} {Q : Loc → S → Prop} : Wp (opC f ma s) Q = Wp (ma s) fun x s1 => Wp (conts x s1) fun dx s3 => Wp (opt (f dx) s3) Q := by
  unfold opC; (repeat with_reducible refine wp_bndQ fun _ _ => ?_) <;> rfl
@[simp] theorem wp_aNil {Q : List Loc → S → Prop} : Wp (aNil s) Q = Q [] s := rfl
@[simp] theorem wp_aCons {m : M Loc} {ms : M (List Loc)} {Q : List Loc → S → Prop} : Wp (aCons m ms s) Q = Wp (m s) fun x s1 => Wp (ms s1) fun xs s2 => Q (x :: xs) s2 := by
  unfold aCons; (repeat with_reducible refine wp_bndQ fun _ _ => ?_) <;> rfl
@[simp] theorem wp_conts_nil {Q : List D → S → Prop} : Wp (conts [] s) Q = Q [] s := rfl
@[simp] theorem wp_conts_cons {l : Loc} {ls : List Loc} {Q : List D → S → Prop} : Wp (conts (l :: ls) s) Q = Wp (cont l s) fun d s1 => Wp (conts ls s1) fun ds s2 => Q (d :: ds) s2 := by
  rw [conts]; (repeat with_reducible refine wp_bndQ fun _ _ => ?_) <;> rfl
@[simp] theorem wp_vals_nil {Q : List D → S → Prop} : Wp (vals [] s) Q = Q [] s := rfl
@[simp] theorem wp_vals_cons {l : Loc} {ls : List Loc} {Q : List D → S → Prop} : Wp (vals (l :: ls) s) Q = Wp (toVal l s) fun d s1 => Wp (vals ls s1) fun ds s2 => Q (d :: ds) s2 := by
  rw [vals]; (repeat with_reducible refine wp_bndQ fun _ _ => ?_) <;> rfl
@[simp] theorem wp_toVal {Q : D → S → Prop} : Wp (toVal (.val d) s) Q = Q d s := by
  unfold toVal; rfl
@[simp] theorem wp_toOwn {Q : D → S → Prop} : Wp (toVal (.own i) ⟨e, t⟩) Q = Wp (match e[i]? with | some (.own d) => .ok d ⟨e.set i (.val d), t⟩ | some (.val d) => .ok d ⟨e, t⟩ | _ => .stuck) Q := rfl
@[simp] theorem wp_contOwn {Q : D → S → Prop} : Wp (cont (.own i) ⟨e, t⟩) Q = Wp (match e[i]? with | some (.own d) => .ok d ⟨e, t⟩ | _ => .stuck) Q := rfl
@[simp] theorem wp_contPtr {Q : D → S → Prop} : Wp (cont (.val (.ptr i)) ⟨e, t⟩) Q = Wp (match t[i]? with | some d => .ok d ⟨e, t⟩ | none => .stuck) Q := rfl
def noPtr : D → Bool | .ptr _ => false | _ => true
theorem wp_cont {Q : D → S → Prop} (h : noPtr d = true) : Wp (cont (.val d) s) Q = Q d s := by
  cases d <;> first | rfl | cases h
@[simp] theorem wp_contInt {k : Int} {Q : D → S → Prop} : Wp (cont (.val (.int k)) s) Q = Q (.int k) s := rfl
@[simp] theorem wp_contStr {k : Str} {Q : D → S → Prop} : Wp (cont (.val (.str k)) s) Q = Q (.str k) s := rfl
@[simp] theorem wp_contBl {k : Bool} {Q : D → S → Prop} : Wp (cont (.val (.bl k)) s) Q = Q (.bl k) s := rfl
@[simp] theorem wp_contNon {Q : D → S → Prop} : Wp (cont (.val .non) s) Q = Q .non s := rfl
@[simp] theorem wp_contTup {k : List D} {Q : D → S → Prop} : Wp (cont (.val (.tup k)) s) Q = Q (.tup k) s := rfl
@[simp] theorem wp_contLst {k : List D} {Q : D → S → Prop} : Wp (cont (.val (.lst k)) s) Q = Q (.lst k) s := rfl
@[simp] theorem wp_contLck {k : List D} {Q : D → S → Prop} : Wp (cont (.val (.lck k)) s) Q = Q (.lck k) s := rfl
@[simp] theorem wp_contDic {k} {Q : D → S → Prop} : Wp (cont (.val (.dic k)) s) Q = Q (.dic k) s := rfl
@[simp] theorem wp_contObj {k c} {Q : D → S → Prop} : Wp (cont (.val (.obj c k)) s) Q = Q (.obj c k) s := rfl
@[simp] theorem wp_vr {Q : Loc → S → Prop} : Wp (vr i ⟨e, t⟩) Q = Wp (match e[i]? with | some (.val d) => .ok (.val d) ⟨e, t⟩ | some (.own _) => .ok (.own i) ⟨e, t⟩ | _ => .stuck) Q := rfl
@[simp] theorem wp_kk {Q : Loc → S → Prop} : Wp (kk d s) Q = Q (.val d) s := rfl
@[simp] theorem wp_tst {m : M Loc} {Q : Bool → S → Prop} : Wp (tst m s) Q = Wp (m s) fun x s1 => Wp (cont x s1) fun d s2 => Wp (match truD d with | some b => .ok b s2 | none => .stuck) Q := by
  unfold tst; (repeat with_reducible refine wp_bndQ fun _ _ => ?_) <;> rfl
@[simp] theorem wp_tstB {m : M Loc} {Q : Bool → S → Prop} : Wp (tstB m s) Q = Wp (m s) fun x s1 => Wp (match x with | .val (.bl b) => .ok b s1 | _ => .stuck) Q := by
  unfold tstB; (repeat with_reducible refine wp_bndQ fun _ _ => ?_) <;> rfl
@[simp] theorem wp_chn {f g : D → D → Option D} {ma mb mc : M Loc} {Q : Loc → S → Prop} : Wp (chn f g ma mb mc s) Q = Wp (ma s) fun x s1 => Wp (mb s1) fun y s2 => Wp (cont x s2) fun dx s3 => Wp (cont y s3) fun dy s4 => Wp (match f dx dy with
  | some (.bl true) => op2 g (ret y) mc s4
  | some (.bl false) => .ok (.val (.bl false)) s4
  | _ => .stuck) Q := by
  unfold chn; (repeat with_reducible refine wp_bndQ fun _ _ => ?_) <;> rfl
@[simp] theorem wp_mAnd {a b : M Bool} {Q : Bool → S → Prop} : Wp (mAnd a b s) Q = Wp (a s) fun k s1 => Wp ((if k = true then b else ret false) s1) Q := by unfold mAnd; (repeat with_reducible refine wp_bndQ fun _ _ => ?_) <;> rfl
@[simp] theorem wp_mOr {a b : M Bool} {Q : Bool → S → Prop} : Wp (mOr a b s) Q = Wp (a s) fun k s1 => Wp ((if k = true then ret true else b) s1) Q := by unfold mOr; (repeat with_reducible refine wp_bndQ fun _ _ => ?_) <;> rfl
@[simp] theorem wp_mNot {a : M Bool} {Q : Bool → S → Prop} : Wp (mNot a s) Q = Wp (a s) fun k s1 => Q (!k) s1 := by unfold mNot; (repeat with_reducible refine wp_bndQ fun _ _ => ?_) <;> rfl
@[simp] theorem wp_eAnd {a b : M Loc} {Q : Loc → S → Prop} : Wp (eAnd a b s) Q = Wp (a s) fun x s1 => Wp (match x with | .val (.bl true) => b s1 | .val (.bl false) => .ok (.val (.bl false)) s1 | _ => .stuck) Q := by unfold eAnd; (repeat with_reducible refine wp_bndQ fun _ _ => ?_) <;> rfl
@[simp] theorem wp_eOr {a b : M Loc} {Q : Loc → S → Prop} : Wp (eOr a b s) Q = Wp (a s) fun x s1 => Wp (match x with | .val (.bl false) => b s1 | .val (.bl true) => .ok (.val (.bl true)) s1 | _ => .stuck) Q := by unfold eOr; (repeat with_reducible refine wp_bndQ fun _ _ => ?_) <;> rfl
@[simp] theorem wp_eNot {a : M Loc} {Q : Loc → S → Prop} : Wp (eNot a s) Q = Wp (a s) fun x s1 => Wp (match x with | .val (.bl k) => .ok (.val (.bl (!k))) s1 | _ => .stuck) Q := by unfold eNot; (repeat with_reducible refine wp_bndQ fun _ _ => ?_) <;> rfl
@[simp] theorem wp_eIf {c : M Bool} {a b : M Loc} {Q : Loc → S → Prop} : Wp (eIf c a b s) Q = Wp (c s) fun k s1 => Wp ((if k = true then a else b) s1) Q := by unfold eIf; (repeat with_reducible refine wp_bndQ fun _ _ => ?_) <;> rfl
@[simp] theorem wp_eTup {m : M (List Loc)} {Q : Loc → S → Prop} : Wp (eTup m s) Q = Wp (m s) fun ls s1 => Wp (vals ls s1) fun ds s2 => Wp (if ds.length ≤ lim then .ok (.val (.tup ds)) s2 else .stuck) Q := by unfold eTup; (repeat with_reducible refine wp_bndQ fun _ _ => ?_) <;> rfl
@[simp] theorem wp_nLst {m : M (List Loc)} {Q : D → S → Prop} : Wp (nLst m s) Q = Wp (m s) fun ls s1 => Wp (vals ls s1) fun ds s2 => Wp (if ds.length ≤ lim then .ok (.lst ds) s2 else .stuck) Q := by unfold nLst; (repeat with_reducible refine wp_bndQ fun _ _ => ?_) <;> rfl
@[simp] theorem wp_eFrz {m : M D} {Q : Loc → S → Prop} : Wp (eFrz m s) Q = Wp (m s) fun d s1 => Q (.val d) s1 := by unfold eFrz; (repeat with_reducible refine wp_bndQ fun _ _ => ?_) <;> rfl
@[simp] theorem wp_ePtr {m : M D} {Q : Loc → S → Prop} : Wp (ePtr m s) Q = Wp (m s) fun d s1 => Q (.val (.ptr s1.t.length)) ⟨s1.e, s1.t ++ [d]⟩ := by unfold ePtr; (repeat with_reducible refine wp_bndQ fun _ _ => ?_) <;> rfl
@[simp] theorem wp_eCall {g : List D → M D} {m : M (List Loc)} {Q : Loc → S → Prop} : Wp (eCall g m s) Q = Wp (m s) fun ls s1 => Wp (vals ls s1) fun ds s2 => Wp (callF g ds s2) Q := by unfold eCall; (repeat with_reducible refine wp_bndQ fun _ _ => ?_) <;> rfl
@[simp] theorem wp_eCallK {pm : {α : Type} → List α → List α} {g : List D → M D} {m : M (List Loc)} {Q : Loc → S → Prop} : Wp (eCallK pm g m s) Q = Wp (m s) fun ls s1 => Wp (vals ls s1) fun ds s2 => Wp (callF g (pm ds) s2) Q := by unfold eCallK; (repeat with_reducible refine wp_bndQ fun _ _ => ?_) <;> rfl
@[simp] theorem wp_callF {g : List D → M D} {ds : List D} {Q : Loc → S → Prop} : Wp (callF g ds ⟨e, t⟩) Q = Wp (g ds ⟨[], t⟩) fun d s' => Q (.val d) ⟨e, s'.t⟩ := by
  show Wp (match g ds ⟨[], t⟩ with | .ok d s' => .ok (.val d) ⟨e, s'.t⟩ | .exc x s' => .exc x ⟨e, s'.t⟩ | .stuck => .stuck) Q = _
  cases g ds ⟨[], t⟩ <;> rfl
@[simp] theorem wp_callP {g : List D → M D} {ds : List D} {Q : Loc → S → Prop} : Wp (callP g ds ⟨e, t⟩) Q = Wp (g ds ⟨[], t⟩) fun d s' => Q (.val d) ⟨e, s'.t⟩ := by
  unfold callP
  show Wp (match g ds ⟨[], t⟩ with | _ => _) Q = _
  cases g ds ⟨[], t⟩ <;> rfl
@[simp] theorem wp_eSl {m : M Loc} {ml mh : M (Option Int)} {Q : Loc → S → Prop} : Wp (eSl m ml mh s) Q = Wp (m s) fun l s1 => Wp (ml s1) fun lo s2 => Wp (mh s2) fun hi s3 => Wp (cont l s3) fun c s4 => Wp (opt (slD lo hi c) s4) Q := by unfold eSl; (repeat with_reducible refine wp_bndQ fun _ _ => ?_) <;> rfl
@[simp] theorem wp_pNo {Q : Option Int → S → Prop} : Wp (pNo s) Q = Q none s := rfl
@[simp] theorem wp_pSo {m : M Loc} {Q : Option Int → S → Prop} : Wp (pSo m s) Q = Wp (m s) fun l s1 => Wp (match l with | .val (.int i) => .ok (some i) s1 | _ => .stuck) Q := by unfold pSo; (repeat with_reducible refine wp_bndQ fun _ _ => ?_) <;> rfl
@[simp] theorem wp_eMe {kd : D → Bool} {f : D → List D → Option D} {mo : M Loc} {ma : M (List Loc)} {Q : Loc → S → Prop} : Wp (eMe kd f mo ma s) Q = Wp (mo s) fun l s1 => Wp (cont l s1) fun c0 s2 => Wp ((if kd c0 = true then bnd ma fun ls => bnd (cont l) fun c => bnd (conts ls) fun ds => opt (f c ds) else stk) s2) Q := by unfold eMe; (repeat with_reducible refine wp_bndQ fun _ _ => ?_) <;> rfl
@[simp] theorem wp_eIsi {isa : String ⊕ Nat → Option Bool} {m : M Loc} {Q : Loc → S → Prop} : Wp (eIsi isa m s) Q = Wp (m s) fun x s1 => Wp (cont x s1) fun dx s3 => Wp (opt (match tyN dx with | some k => (isa k).map .bl | none => none) s3) Q := by unfold eIsi; exact wp_op1
@[simp] theorem wp_eFld {c : Nat} {fn : Str} {m : M Loc} {Q : Loc → S → Prop} : Wp (eFld c fn m s) Q = Wp (m s) fun x s1 => Wp (cont x s1) fun dx s3 => Wp (opt (fldD c fn dx) s3) Q := by unfold eFld; exact wp_op1
@[simp] theorem wp_eInW {neg : Bool} {ws : List Str} {m : M Loc} {Q : Loc → S → Prop} : Wp (eInW neg ws m s) Q = Wp (m s) fun x s1 => Wp (cont x s1) fun dx s3 => Wp (opt (inWD neg ws dx) s3) Q := by unfold eInW; (repeat with_reducible refine wp_bndQ fun _ _ => ?_) <;> rfl
@[simp] theorem wp_eProp {c : Nat} {g : List D → M D} {m : M Loc} {Q : Loc → S → Prop} : Wp (eProp c g m s) Q = Wp (m s) fun l s1 => Wp (toVal l s1) fun d s2 => Wp (if isCls c d s2 = true then callP g [d] s2 else .stuck) Q := by unfold eProp; (repeat with_reducible refine wp_bndQ fun _ _ => ?_) <;> rfl
-- statements
def nxt (Q : Fl → S → Prop) (b : M Fl) : Fl → S → Prop := fun f s1 => match f with
  | .nx => Wp (b s1) Q
  | f => Q f s1
@[simp] theorem wp_sSeq {a b : M Fl} {Q : Fl → S → Prop} : Wp (sSeq a b s) Q = Wp (a s) (nxt Q b) := by
  unfold sSeq
  refine wp_bndQ fun f s1 => ?_
  cases f <;> rfl
@[simp] theorem nxt_nx {Q : Fl → S → Prop} {b : M Fl} : nxt Q b .nx s = Wp (b s) Q := rfl
@[simp] theorem nxt_rt {Q : Fl → S → Prop} {b : M Fl} {d : D} : nxt Q b (.rt d) s = Q (.rt d) s := rfl
@[simp] theorem nxt_bk {Q : Fl → S → Prop} {b : M Fl} : nxt Q b .bk s = Q .bk s := rfl
@[simp] theorem nxt_ct {Q : Fl → S → Prop} {b : M Fl} : nxt Q b .ct s = Q .ct s := rfl
@[simp] theorem wp_sNx {Q : Fl → S → Prop} : Wp (sNx s) Q = Q .nx s := rfl
@[simp] theorem wp_sExpr {m : M Loc} {Q : Fl → S → Prop} : Wp (sExpr m s) Q = Wp (m s) fun _ s1 => Q .nx s1 := by unfold sExpr; (repeat with_reducible refine wp_bndQ fun _ _ => ?_) <;> rfl
@[simp] theorem wp_sRet {m : M Loc} {Q : Fl → S → Prop} : Wp (sRet m s) Q = Wp (m s) fun l s1 => Wp (toVal l s1) fun d s2 => Q (.rt d) s2 := by unfold sRet; (repeat with_reducible refine wp_bndQ fun _ _ => ?_) <;> rfl
@[simp] theorem wp_sIf {c : M Bool} {a b : M Fl} {Q : Fl → S → Prop} : Wp (sIf c a b s) Q = Wp (c s) fun k s1 => Wp ((if k = true then a else b) s1) Q := by unfold sIf; (repeat with_reducible refine wp_bndQ fun _ _ => ?_) <;> rfl
@[simp] theorem wp_ifM {α : Type} {p : Prop} [Decidable p] {a b : M α} {Q : α → S → Prop} : Wp ((if p then a else b) s) Q = if p then Wp (a s) Q else Wp (b s) Q := by split <;> rfl
@[simp] theorem wp_if {α : Type} {p : Prop} [Decidable p] {a b : Res α} {Q : α → S → Prop} : Wp (if p then a else b) Q = if p then Wp a Q else Wp b Q := by split <;> rfl
@[simp] theorem wp_sAsgN {m : M Loc} {Q : Fl → S → Prop} : Wp (sAsg (gN i) m s) Q = Wp (m s) fun l s1 => Wp (toVal l s1) fun d s2 => if i < s2.e.length then Q .nx ⟨s2.e.set i (.val d), s2.t⟩ else False := by
  unfold sAsg gN
  refine wp_bndQ fun l s1 => wp_bndQ fun d s2 => ?_
  by_cases h : i < s2.e.length
  · simp only [if_pos h]; rfl
  · simp only [if_neg h]; rfl
theorem wp_sAsg {a : TgF} {m : M Loc} {Q : Fl → S → Prop} : Wp (sAsg a m s) Q = Wp (m s) fun l s1 => Wp (toVal l s1) fun d s2 => Wp (match a d s2 with | some s' => .ok .nx s' | none => .stuck) Q := by
  unfold sAsg; (repeat with_reducible refine wp_bndQ fun _ _ => ?_) <;> rfl
@[simp] theorem wp_sAsgT {b : List D → S → Option S} {n : Nat} {m : M Loc} {Q : Fl → S → Prop} : Wp (sAsg (gT b n) m s) Q = Wp (m s) fun l s1 => Wp (toVal l s1) fun d s2 => Wp (match gT b n d s2 with | some s' => .ok .nx s' | none => .stuck) Q := wp_sAsg
@[simp] theorem gT_tup {b : List D → S → Option S} {n : Nat} {ds : List D} : gT b n (.tup ds) s = if ds.length = n then b ds s else none := rfl
@[simp] theorem gsC_cons {a : TgF} {b : List D → S → Option S} {ds : List D} : gsC a b (d :: ds) s = (a d s).bind (b ds) := rfl
@[simp] theorem gsN_nil : gsN [] s = some s := rfl
@[simp] theorem gN_at : gN i d ⟨e, t⟩ = if i < e.length then some ⟨e.set i (.val d), t⟩ else none := rfl
@[simp] theorem wp_sAug {f : D → D → Option D} {m : M Loc} {Q : Fl → S → Prop} : Wp (sAug i f m s) Q = Wp (vr i s) fun l0 s1 => Wp (toVal l0 s1) fun d0 s2 => Wp (m s2) fun l s3 => Wp (cont l s3) fun d s4 => Wp (opt (f d0 d) s4) fun l2 s5 => Wp (toVal l2 s5) fun d2 s6 => Wp (match gN i d2 s6 with | some s' => .ok .nx s' | none => .stuck) Q := by
  unfold sAug; (repeat with_reducible refine wp_bndQ fun _ _ => ?_) <;> rfl
@[simp] theorem wp_sOwn {m : M D} {Q : Fl → S → Prop} : Wp (sOwn i m s) Q = Wp (m s) fun d s2 => if i < s2.e.length then Q .nx ⟨s2.e.set i (.own d), s2.t⟩ else False := by
  unfold sOwn
  refine wp_bndQ fun d s2 => ?_
  show Wp (if _ then _ else _) Q = _
  split <;> rfl
@[simp] theorem wp_sSub {f : D → D → D → Option D} {mv mo mi : M Loc} {Q : Fl → S → Prop} : Wp (sSub f mv mo mi s) Q = Wp (mv s) fun lv s1 => Wp (toVal lv s1) fun dv s2 => Wp (mo s2) fun l s3 => Wp (mi s3) fun li s4 => Wp (cont li s4) fun di s5 => Wp (cont l s5) fun c s6 => Wp ((match f c di dv with | some c' => bnd (setc l c') fun _ => ret Fl.nx | none => stk) s6) Q := by
  unfold sSub; (repeat with_reducible refine wp_bndQ fun _ _ => ?_) <;> rfl
@[simp] theorem wp_setcOwn {Q : Unit → S → Prop} : Wp (setc (.own i) d ⟨e, t⟩) Q = Wp (match e[i]? with | some (.own _) => .ok () ⟨e.set i (.own d), t⟩ | _ => .stuck) Q := rfl
@[simp] theorem wp_setcPtr {Q : Unit → S → Prop} : Wp (setc (.val (.ptr i)) d ⟨e, t⟩) Q = Wp (if i < t.length then .ok () ⟨e, t.set i d⟩ else .stuck) Q := rfl
@[simp] theorem wp_eMuG {kd : D → Bool} {f : D → List D → Option (D × D)} {mo : M Loc} {ma : M (List Loc)} {Q : Loc → S → Prop} : Wp (eMu kd f mo ma s) Q = Wp (mo s) fun l s1 => Wp (cont l s1) fun c0 s2 => Wp ((if kd c0 = true then bnd ma fun ls => bnd (vals ls) fun ds => bnd (cont l) fun c => match f c ds with
  | some cd => bnd (setc l cd.1) fun _ => ret (.val cd.2)
  | none => stk else stk) s2) Q := by
  unfold eMu
  refine wp_bndQ fun l s1 => wp_bndQ fun c0 s2 => ?_
  congr 3
@[simp] theorem wp_runB {n : Nat} {b : M Fl} {ds : List D} {Q : D → S → Prop} : Wp (runB n b ds s) Q = Wp (b ⟨ds.map .val ++ List.replicate (n - ds.length) .no, s.t⟩) fun f s' => match f with | .rt d => Q d ⟨[], s'.t⟩ | .nx => Q .non ⟨[], s'.t⟩ | _ => False := by
  unfold runB
  cases b ⟨ds.map .val ++ List.replicate (n - ds.length) .no, s.t⟩ with
  | ok f s' => cases f <;> rfl
  | exc x s' => rfl
  | stuck => rfl
-- loops
def forL (tg : TgF) (body : M Fl) : List D → M Fl
  | [] => ret .nx
  | d :: ds => fun s => match tg d s with
    | none => .stuck
    | some s' => (body s').bind (aft (forL tg body ds))
theorem forF_at {tg : TgF} {body : M Fl} {d : D} {ds : List D} (hs : seqOf d = some ds) (hp : noPtr d = true) : ∀ (n i : Nat) (s : S), ds.length - i < n → i ≤ ds.length → forF (.seq d) tg body n i s = forL tg body (ds.drop i) s
  | 0, i, s, h, _ => by omega
  | n + 1, i, s, h, hi => by
    have e1 : itN (.seq d) i s = .ok ds[i]? s := by
      unfold itN
      cases d <;> first | (simp only [hs]; done) | (cases hp; done) | (cases hs; done)
    unfold forF
    show (bnd (itN (.seq d) i) _) s = _
    unfold bnd
    rw [e1]
    by_cases c : i < ds.length
    · rw [List.getElem?_eq_getElem c, List.drop_eq_getElem_cons c]
      show (match tg ds[i] s with | none => Res.stuck | some s' => (body s').bind (aft (forF (.seq d) tg body n (i + 1)))) = (match tg ds[i] s with | none => Res.stuck | some s' => (body s').bind (aft (forL tg body (ds.drop (i + 1)))))
      have e2 : (forF (.seq d) tg body n (i + 1)) = forL tg body (ds.drop (i + 1)) := by
        funext s2
        exact forF_at hs hp n (i + 1) s2 (by omega) (by omega)
      rw [e2]
    · have : i = ds.length := by omega
      subst this
      rw [List.getElem?_eq_none (Nat.le_refl _), List.drop_length]
      rfl
theorem forF_rng {tg : TgF} {body : M Fl} {lo : Int} {m : Nat} : ∀ (n i : Nat) (s : S), m - i < n → i ≤ m → forF (.rng lo m) tg body n i s = forL tg body (((List.range m).map fun (j : Nat) => D.int (lo + (j : Int))).drop i) s
  | 0, i, s, h, _ => by omega
  | n + 1, i, s, h, hi => by
    unfold forF
    show (bnd (itN (.rng lo m) i) _) s = _
    unfold bnd
    show Res.bind (Res.ok (if i < m then some (D.int (lo + i)) else none) s) _ = _
    by_cases c : i < m
    · rw [if_pos c, List.drop_eq_getElem_cons (by simpa using c)]
      simp only [List.getElem_map, List.getElem_range]
      have e2 : (forF (.rng lo m) tg body n (i + 1)) = forL tg body (((List.range m).map fun (j : Nat) => D.int (lo + (j : Int))).drop (i + 1)) := by
        funext s2
        exact forF_rng n (i + 1) s2 (by omega) (by omega)
      show (match tg (.int (lo + i)) s with | none => Res.stuck | some s' => (body s').bind (aft (forF (.rng lo m) tg body n (i + 1)))) = (match tg (.int (lo + i)) s with | none => Res.stuck | some s' => (body s').bind (aft (forL tg body _)))
      rw [e2]
    · have : i = m := by omega
      subst this
      rw [if_neg c, List.drop_eq_nil_of_le (by simp)]
      rfl
theorem wp_forSeq {tg : TgF} {body : M Fl} {d : D} {ds : List D} {Q : Fl → S → Prop} (hs : seqOf d = some ds) (hp : noPtr d = true) (hl : ds.length < lim) : Wp (forF (.seq d) tg body lim 0 s) Q = Wp (forL tg body ds s) Q := by
  rw [forF_at hs hp lim 0 s (by omega) (by omega), List.drop_zero]
theorem wp_forRng {tg : TgF} {body : M Fl} {lo : Int} {m : Nat} {Q : Fl → S → Prop} (hl : m < lim) : Wp (forF (.rng lo m) tg body lim 0 s) Q = Wp (forL tg body ((List.range m).map fun (j : Nat) => D.int (lo + (j : Int))) s) Q := by
  rw [forF_rng lim 0 s (by omega) (by omega), List.drop_zero]
@[simp] theorem wp_forL_nil {tg : TgF} {body : M Fl} {Q : Fl → S → Prop} : Wp (forL tg body [] s) Q = Q .nx s := rfl
def nxtF (Q : Fl → S → Prop) (b : M Fl) : Fl → S → Prop := fun f s1 => match f with
  | .nx => Wp (b s1) Q
  | .ct => Wp (b s1) Q
  | .bk => Q .nx s1
  | .rt d => Q (.rt d) s1
@[simp] theorem nxtF_nx {Q : Fl → S → Prop} {b : M Fl} : nxtF Q b .nx s = Wp (b s) Q := rfl
@[simp] theorem nxtF_rt {Q : Fl → S → Prop} {b : M Fl} {d : D} : nxtF Q b (.rt d) s = Q (.rt d) s := rfl
@[simp] theorem nxtF_bk {Q : Fl → S → Prop} {b : M Fl} : nxtF Q b .bk s = Q .nx s := rfl
@[simp] theorem nxtF_ct {Q : Fl → S → Prop} {b : M Fl} : nxtF Q b .ct s = Wp (b s) Q := rfl
@[simp] theorem wp_aft {r : Res Fl} {k : M Fl} {Q : Fl → S → Prop} : Wp (r.bind (aft k)) Q = Wp r (nxtF Q k) := by
  cases r with
  | ok f s => cases f <;> rfl
  | exc x s => rfl
  | stuck => rfl
@[simp] theorem wp_forL_cons {body : M Fl} {ds : List D} {Q : Fl → S → Prop} : Wp (forL (gN i) body (d :: ds) ⟨e, t⟩) Q = if i < e.length then Wp (body ⟨e.set i (.val d), t⟩) (nxtF Q (forL (gN i) body ds)) else False := by
  show Wp (match gN i d ⟨e, t⟩ with | none => .stuck | some s' => (body s').bind (aft (forL (gN i) body ds))) Q = _
  unfold gN
  by_cases h : i < e.length
  · simp only [h, if_true]; rw [wp_aft]
  · simp only [h, if_false]; rfl
@[simp] theorem wp_sFor {mi : M Itd} {tg : TgF} {body : M Fl} {Q : Fl → S → Prop} : Wp (sFor mi tg body s) Q = Wp (mi s) fun I s1 => Wp (forF I tg body lim 0 s1) Q := by unfold sFor; (repeat with_reducible refine wp_bndQ fun _ _ => ?_) <;> rfl
@[simp] theorem wp_iSeq {m : M Loc} {Q : Itd → S → Prop} : Wp (iSeq m s) Q = Wp (m s) fun l s1 => Wp (toVal l s1) fun d s2 => Wp (match d with
  | .ptr n => match s2.t[n]? with | some (.lst _) => .ok (.seq d) s2 | _ => .stuck
  | _ => match seqOf d with | some _ => .ok (.seq d) s2 | none => .stuck) Q := by unfold iSeq; (repeat with_reducible refine wp_bndQ fun _ _ => ?_) <;> rfl
@[simp] theorem wp_iRng1 {m : M (List Loc)} {Q : Itd → S → Prop} : Wp (iRng1 m s) Q = Wp (m s) fun ls s1 => Wp (match ls with
  | [.val (.int j)] => if -(2 ^ 62) ≤ j ∧ j < 2 ^ 62 then .ok (.rng 0 j.toNat) s1 else .stuck
  | _ => .stuck) Q := by unfold iRng1; (repeat with_reducible refine wp_bndQ fun _ _ => ?_) <;> rfl
theorem wp_whF {c : M Bool} {body : M Fl} {n : Nat} {Q : Fl → S → Prop} : Wp (whF c body (n + 1) s) Q = Wp (c s) fun k s1 => if k = true then Wp (body s1) (nxtF Q (whF c body n)) else Q .nx s1 := by
  rw [whF]
  refine wp_bndQ fun k s1 => ?_
  cases k
  · rfl
  · show Wp ((bnd body (aft (whF c body n))) s1) Q = _
    refine Eq.trans (wp_bndQ (Q' := nxtF Q (whF c body n)) fun f s2 => ?_) rfl
    cases f <;> rfl
theorem wp_sWhile {c : M Bool} {body : M Fl} {Q : Fl → S → Prop} : Wp (sWhile c body s) Q = Wp (whF c body lim s) Q := rfl
-- comprehensions
def lcL (tg : TgF) (tt : M Bool) (te : M Loc) (vs : List Nat) : List D → List D → M D
  | acc, [] => ret (.lst acc)
  | acc, d :: ds => fun s => if freeOf s.e vs = true then match tg d ⟨wipeE s.e vs, s.t⟩ with
      | none => .stuck
      | some s1 => match tt s1 with
        | .ok true s2 => match (te s2).bind toVal with
          | .ok d s3 => if freeOf s3.e vs = true ∧ acc.length < lim then lcL tg tt te vs (acc ++ [d]) ds ⟨backE s.e s3.e vs, s3.t⟩ else .stuck
          | _ => .stuck
        | .ok false s2 => if freeOf s2.e vs = true then lcL tg tt te vs acc ds ⟨backE s.e s2.e vs, s2.t⟩ else .stuck
        | _ => .stuck
      else .stuck
theorem lcF_at {I : Itd} {tg : TgF} {tt : M Bool} {te : M Loc} {vs : List Nat} {ds : List D} (hI : ∀ i s, itN I i s = .ok ds[i]? s) : ∀ (n : Nat) (acc : List D) (i : Nat) (s : S), ds.length - i < n → i ≤ ds.length → lcF I tg tt te vs n acc i s = lcL tg tt te vs acc (ds.drop i) s
  | 0, acc, i, s, h, _ => by omega
  | n + 1, acc, i, s, h, hi => by
    unfold lcF
    show (bnd (itN I i) _) s = _
    unfold bnd
    rw [hI]
    by_cases c : i < ds.length
    · rw [List.getElem?_eq_getElem c, List.drop_eq_getElem_cons c]
      have e2 : ∀ a s2, lcF I tg tt te vs n a (i + 1) s2 = lcL tg tt te vs a (ds.drop (i + 1)) s2 := fun a s2 => lcF_at hI n a (i + 1) s2 (by omega) (by omega)
      simp only [Res.bind, lcL, e2]
      all_goals rfl
    · have : i = ds.length := by omega
      subst this
      rw [List.getElem?_eq_none (Nat.le_refl _), List.drop_length]
      rfl
theorem itN_seq' {d : D} {ds : List D} (hs : seqOf d = some ds) (hp : noPtr d = true) (i : Nat) (s : S) : itN (.seq d) i s = .ok ds[i]? s := by
  unfold itN
  cases d <;> first | (simp only [hs]; done) | (cases hp; done) | (cases hs; done)
theorem itN_rng' {lo : Int} {m : Nat} (i : Nat) (s : S) : itN (.rng lo m) i s = .ok ((List.range m).map fun (j : Nat) => D.int (lo + (j : Int)))[i]? s := by
  show Res.ok (if i < m then some (D.int (lo + i)) else none) s = _
  by_cases c : i < m
  · rw [if_pos c, List.getElem?_eq_getElem (by simpa using c)]; simp
  · rw [if_neg c, List.getElem?_eq_none (by simpa using c)]
theorem wp_lcSeq {tg : TgF} {tt : M Bool} {te : M Loc} {vs : List Nat} {d : D} {ds : List D} {Q : D → S → Prop} (hs : seqOf d = some ds) (hp : noPtr d = true) (hl : ds.length < lim) : Wp (lcF (.seq d) tg tt te vs lim [] 0 s) Q = Wp (lcL tg tt te vs [] ds s) Q := by
  rw [lcF_at (itN_seq' hs hp) lim [] 0 s (by omega) (by omega), List.drop_zero]
theorem wp_lcRng {tg : TgF} {tt : M Bool} {te : M Loc} {vs : List Nat} {lo : Int} {m : Nat} {Q : D → S → Prop} (hl : m < lim) : Wp (lcF (.rng lo m) tg tt te vs lim [] 0 s) Q = Wp (lcL tg tt te vs [] ((List.range m).map fun (j : Nat) => D.int (lo + (j : Int))) s) Q := by
  rw [lcF_at itN_rng' lim [] 0 s (by simp; omega) (by omega), List.drop_zero]
@[simp] theorem wp_nLc {mi : M Itd} {tg : TgF} {tt : M Bool} {te : M Loc} {vs : List Nat} {Q : D → S → Prop} : Wp (nLc mi tg tt te vs s) Q = Wp (mi s) fun I s1 => Wp (lcF I tg tt te vs lim [] 0 s1) Q := by unfold nLc; (repeat with_reducible refine wp_bndQ fun _ _ => ?_) <;> rfl
@[simp] theorem wp_lcL_nil {tg : TgF} {tt : M Bool} {te : M Loc} {vs : List Nat} {acc : List D} {Q : D → S → Prop} : Wp (lcL tg tt te vs acc [] s) Q = Q (.lst acc) s := by unfold lcL; rfl
theorem wp_lcL_cons {tg : TgF} {tt : M Bool} {te : M Loc} {vs : List Nat} {acc ds : List D} {Q : D → S → Prop} (hf : freeOf s.e vs = true) {s1 : S} (h1 : tg d ⟨wipeE s.e vs, s.t⟩ = some s1)
    (h : Wp (tt s1) fun b s2 => if b = true then Wp (te s2) fun l s3 => Wp (toVal l s3) fun d s4 => freeOf s4.e vs = true ∧ acc.length < lim ∧ Wp (lcL tg tt te vs (acc ++ [d]) ds ⟨backE s.e s4.e vs, s4.t⟩) Q
      else freeOf s2.e vs = true ∧ Wp (lcL tg tt te vs acc ds ⟨backE s.e s2.e vs, s2.t⟩) Q) : Wp (lcL tg tt te vs acc (d :: ds) s) Q := by
  rw [lcL]
  show Wp (if freeOf s.e vs = true then _ else _) Q
  rw [if_pos hf, h1]
  obtain ⟨b, s2, e2, h⟩ := wp_ex.mp h
  simp only [e2]
  cases b with
  | true =>
    rw [if_pos rfl] at h
    obtain ⟨l, s3, e3, h⟩ := wp_ex.mp h
    obtain ⟨d', s4, e4, h5, h6, h⟩ := wp_ex.mp h
    have e5 : (te s2).bind toVal = .ok d' s4 := by rw [e3]; exact e4
    simp only [e5]
    rw [if_pos ⟨h5, h6⟩]
    exact h
  | false =>
    have h : freeOf s2.e vs = true ∧ Wp (lcL tg tt te vs acc ds ⟨backE s.e s2.e vs, s2.t⟩) Q := h
    show Wp (if freeOf s2.e vs = true then _ else _) Q
    rw [if_pos h.1]
    exact h.2
variable {tg : TgF} {body : M Fl} {ds : List D} {tt : M Bool} {te : M Loc} {vs : List Nat}
@[simp] theorem wp_forTup {Q : Fl → S → Prop} (hl : ds.length < lim) : Wp (forF (.seq (.tup ds)) tg body lim 0 s) Q = Wp (forL tg body ds s) Q := wp_forSeq rfl rfl hl
@[simp] theorem wp_forLst {Q : Fl → S → Prop} (hl : ds.length < lim) : Wp (forF (.seq (.lst ds)) tg body lim 0 s) Q = Wp (forL tg body ds s) Q := wp_forSeq rfl rfl hl
@[simp] theorem wp_forLck {Q : Fl → S → Prop} (hl : ds.length < lim) : Wp (forF (.seq (.lck ds)) tg body lim 0 s) Q = Wp (forL tg body ds s) Q := wp_forSeq rfl rfl hl
@[simp] theorem wp_lcTup {Q : D → S → Prop} (hl : ds.length < lim) : Wp (lcF (.seq (.tup ds)) tg tt te vs lim [] 0 s) Q = Wp (lcL tg tt te vs [] ds s) Q := wp_lcSeq rfl rfl hl
@[simp] theorem wp_lcLst {Q : D → S → Prop} (hl : ds.length < lim) : Wp (lcF (.seq (.lst ds)) tg tt te vs lim [] 0 s) Q = Wp (lcL tg tt te vs [] ds s) Q := wp_lcSeq rfl rfl hl
@[simp] theorem wp_lcLck {Q : D → S → Prop} (hl : ds.length < lim) : Wp (lcF (.seq (.lck ds)) tg tt te vs lim [] 0 s) Q = Wp (lcL tg tt te vs [] ds s) Q := wp_lcSeq rfl rfl hl
-- values
@[simp] theorem addD_i {i j : Int} : addD (.int i) (.int j) = some (.int (i + j)) := rfl
@[simp] theorem subD_i {i j : Int} : subD (.int i) (.int j) = some (.int (i - j)) := rfl
@[simp] theorem addI_i {i j : Int} : addI (.int i) (.int j) = some (.int (i + j)) := rfl
theorem mulD_l {i j : Int} (h : smallI i = true) : mulD (.int i) (.int j) = some (.int (i * j)) := by unfold mulD; simp [h]
theorem mulD_r {i j : Int} (h : smallI j = true) : mulD (.int i) (.int j) = some (.int (i * j)) := by unfold mulD; simp [h]
theorem small_mod {a b : Int} (h0 : 0 < b) (h : b ≤ 18446744073709551616) : smallI (a % b) = true := by
  unfold smallI
  have h1 := Int.emod_nonneg a (show b ≠ 0 by omega)
  have h2 := Int.emod_lt_of_pos a h0
  rw [Bool.and_eq_true]
  exact ⟨decide_eq_true (by omega), decide_eq_true (by omega)⟩
theorem modD_i {i j : Int} (h : 0 < j) : modD (.int i) (.int j) = some (.int (i % j)) := by unfold modD; simp [h]
theorem fdivD_i {i j : Int} (h : 0 < j) (h2 : j < 1073741824) : fdivD (.int i) (.int j) = some (.int (i / j)) := by unfold fdivD; simp [h, h2]
@[simp] theorem cmpD_i {p : Int → Int → Bool} {i j : Int} : cmpD p (.int i) (.int j) = some (.bl (p i j)) := rfl
@[simp] theorem intD_i {i : Int} : intD [.int i] = some (.int i) := rfl
@[simp] theorem intD_b {k : Bool} : intD [.bl k] = some (.int (if k then 1 else 0)) := rfl
@[simp] theorem absD_i {i : Int} : absD [.int i] = some (.int (if i < 0 then -i else i)) := rfl
@[simp] theorem lenD_lst {ds : List D} : lenD [.lst ds] = some (.int ds.length) := rfl
@[simp] theorem lenD_lck {ds : List D} : lenD [.lck ds] = some (.int ds.length) := rfl
@[simp] theorem lenD_tup {ds : List D} : lenD [.tup ds] = some (.int ds.length) := rfl
@[simp] theorem lenD_dic {ds} : lenD [.dic ds] = some (.int ds.length) := rfl
@[simp] theorem tupleD_lst {ds : List D} : tupleD [.lst ds] = some (.tup ds) := rfl
@[simp] theorem tupleD_tup {ds : List D} : tupleD [.tup ds] = some (.tup ds) := rfl
@[simp] theorem truD_bl {b : Bool} : truD (.bl b) = some b := rfl
@[simp] theorem truD_lst {ds : List D} : truD (.lst ds) = some !ds.isEmpty := rfl
@[simp] theorem seqOf_lst {ds : List D} : seqOf (.lst ds) = some ds := rfl
@[simp] theorem seqOf_tup {ds : List D} : seqOf (.tup ds) = some ds := rfl
@[simp] theorem seqOf_lck {ds : List D} : seqOf (.lck ds) = some ds := rfl
@[simp] theorem slD_lst {lo hi} {ds : List D} : slD lo hi (.lst ds) = some (.lst (cutD ds lo hi)) := rfl
@[simp] theorem slD_lck {lo hi} {ds : List D} : slD lo hi (.lck ds) = some (.lst (cutD ds lo hi)) := rfl
@[simp] theorem slD_tup {lo hi} {ds : List D} : slD lo hi (.tup ds) = some (.tup (cutD ds lo hi)) := rfl
@[simp] theorem eqD_i {b : Bool} {i j : Int} : eqD b (.int i) (.int j) = some (.bl (b ^^ decide (i = j))) := by
  show some (D.bl (b ^^ (PyData.eqv (.int i) (.int j)))) = _
  congr 2
theorem eqD_s {b : Bool} {i j : Str} (hi : PyData.strOk i = true) (hj : PyData.strOk j = true) : eqD b (.str i) (.str j) = some (.bl (b ^^ decide (i = j))) := by
  have e : eqD b (.str i) (.str j) = if SeqAt.shaped (.str i) && SeqAt.shaped (.str j) then some (D.bl (b ^^ PyData.eqv (.str i) (.str j))) else none := rfl
  rw [e, if_pos (by simp [SeqAt.shaped, PyData.canLay0, PyData.depth, hi, hj])]
  show some (D.bl (b ^^ (i == j))) = _
  have e2 : (i == j) = decide (i = j) := by
    by_cases c : i = j
    · subst c; simp
    · simp [c]
  rw [e2]
@[simp] theorem ixD_tup {ds : List D} {i : Int} : ixD (.tup ds) (.int i) = atI ds i := rfl
@[simp] theorem ixD_lst {ds : List D} {i : Int} : ixD (.lst ds) (.int i) = atI ds i := rfl
@[simp] theorem ixD_lck {ds : List D} {i : Int} : ixD (.lck ds) (.int i) = atI ds i := rfl
end
@[simp] theorem sok_true : PyData.strOk ("true" : Str) = true := by decide +kernel
@[simp] theorem sok_mark : PyData.strOk ("mark" : Str) = true := by decide +kernel
@[simp] theorem sok_tie : PyData.strOk ("tie" : Str) = true := by decide +kernel
@[simp] theorem sok_same : PyData.strOk ("same" : Str) = true := by decide +kernel
@[simp] theorem sok_not : PyData.strOk ("not" : Str) = true := by decide +kernel
@[simp] theorem sok_and : PyData.strOk ("and" : Str) = true := by decide +kernel
@[simp] theorem sok_or : PyData.strOk ("or" : Str) = true := by decide +kernel
@[simp] theorem sok_each : PyData.strOk ("each" : Str) = true := by decide +kernel
@[simp] theorem sok_some : PyData.strOk ("some" : Str) = true := by decide +kernel
@[simp] theorem sok_x : PyData.strOk ("x" : Str) = true := by decide +kernel
@[simp] theorem sok_y : PyData.strOk ("y" : Str) = true := by decide +kernel
@[simp] theorem ne_true_mark : (("true" : Str) = ("mark" : Str)) = False := eq_false (by decide +kernel)
@[simp] theorem ne_true_tie : (("true" : Str) = ("tie" : Str)) = False := eq_false (by decide +kernel)
@[simp] theorem ne_true_same : (("true" : Str) = ("same" : Str)) = False := eq_false (by decide +kernel)
@[simp] theorem ne_true_not : (("true" : Str) = ("not" : Str)) = False := eq_false (by decide +kernel)
@[simp] theorem ne_true_and : (("true" : Str) = ("and" : Str)) = False := eq_false (by decide +kernel)
@[simp] theorem ne_true_or : (("true" : Str) = ("or" : Str)) = False := eq_false (by decide +kernel)
@[simp] theorem ne_true_each : (("true" : Str) = ("each" : Str)) = False := eq_false (by decide +kernel)
@[simp] theorem ne_true_some : (("true" : Str) = ("some" : Str)) = False := eq_false (by decide +kernel)
@[simp] theorem ne_true_x : (("true" : Str) = ("x" : Str)) = False := eq_false (by decide +kernel)
@[simp] theorem ne_true_y : (("true" : Str) = ("y" : Str)) = False := eq_false (by decide +kernel)
@[simp] theorem ne_mark_true : (("mark" : Str) = ("true" : Str)) = False := eq_false (by decide +kernel)
@[simp] theorem ne_mark_tie : (("mark" : Str) = ("tie" : Str)) = False := eq_false (by decide +kernel)
@[simp] theorem ne_mark_same : (("mark" : Str) = ("same" : Str)) = False := eq_false (by decide +kernel)
@[simp] theorem ne_mark_not : (("mark" : Str) = ("not" : Str)) = False := eq_false (by decide +kernel)
@[simp] theorem ne_mark_and : (("mark" : Str) = ("and" : Str)) = False := eq_false (by decide +kernel)
@[simp] theorem ne_mark_or : (("mark" : Str) = ("or" : Str)) = False := eq_false (by decide +kernel)
@[simp] theorem ne_mark_each : (("mark" : Str) = ("each" : Str)) = False := eq_false (by decide +kernel)
@[simp] theorem ne_mark_some : (("mark" : Str) = ("some" : Str)) = False := eq_false (by decide +kernel)
@[simp] theorem ne_mark_x : (("mark" : Str) = ("x" : Str)) = False := eq_false (by decide +kernel)
@[simp] theorem ne_mark_y : (("mark" : Str) = ("y" : Str)) = False := eq_false (by decide +kernel)
@[simp] theorem ne_tie_true : (("tie" : Str) = ("true" : Str)) = False := eq_false (by decide +kernel)
@[simp] theorem ne_tie_mark : (("tie" : Str) = ("mark" : Str)) = False := eq_false (by decide +kernel)
@[simp] theorem ne_tie_same : (("tie" : Str) = ("same" : Str)) = False := eq_false (by decide +kernel)
@[simp] theorem ne_tie_not : (("tie" : Str) = ("not" : Str)) = False := eq_false (by decide +kernel)
@[simp] theorem ne_tie_and : (("tie" : Str) = ("and" : Str)) = False := eq_false (by decide +kernel)
@[simp] theorem ne_tie_or : (("tie" : Str) = ("or" : Str)) = False := eq_false (by decide +kernel)
@[simp] theorem ne_tie_each : (("tie" : Str) = ("each" : Str)) = False := eq_false (by decide +kernel)
@[simp] theorem ne_tie_some : (("tie" : Str) = ("some" : Str)) = False := eq_false (by decide +kernel)
@[simp] theorem ne_tie_x : (("tie" : Str) = ("x" : Str)) = False := eq_false (by decide +kernel)
@[simp] theorem ne_tie_y : (("tie" : Str) = ("y" : Str)) = False := eq_false (by decide +kernel)
@[simp] theorem ne_same_true : (("same" : Str) = ("true" : Str)) = False := eq_false (by decide +kernel)
@[simp] theorem ne_same_mark : (("same" : Str) = ("mark" : Str)) = False := eq_false (by decide +kernel)
@[simp] theorem ne_same_tie : (("same" : Str) = ("tie" : Str)) = False := eq_false (by decide +kernel)
@[simp] theorem ne_same_not : (("same" : Str) = ("not" : Str)) = False := eq_false (by decide +kernel)
@[simp] theorem ne_same_and : (("same" : Str) = ("and" : Str)) = False := eq_false (by decide +kernel)
@[simp] theorem ne_same_or : (("same" : Str) = ("or" : Str)) = False := eq_false (by decide +kernel)
@[simp] theorem ne_same_each : (("same" : Str) = ("each" : Str)) = False := eq_false (by decide +kernel)
@[simp] theorem ne_same_some : (("same" : Str) = ("some" : Str)) = False := eq_false (by decide +kernel)
@[simp] theorem ne_same_x : (("same" : Str) = ("x" : Str)) = False := eq_false (by decide +kernel)
@[simp] theorem ne_same_y : (("same" : Str) = ("y" : Str)) = False := eq_false (by decide +kernel)
@[simp] theorem ne_not_true : (("not" : Str) = ("true" : Str)) = False := eq_false (by decide +kernel)
@[simp] theorem ne_not_mark : (("not" : Str) = ("mark" : Str)) = False := eq_false (by decide +kernel)
@[simp] theorem ne_not_tie : (("not" : Str) = ("tie" : Str)) = False := eq_false (by decide +kernel)
@[simp] theorem ne_not_same : (("not" : Str) = ("same" : Str)) = False := eq_false (by decide +kernel)
@[simp] theorem ne_not_and : (("not" : Str) = ("and" : Str)) = False := eq_false (by decide +kernel)
@[simp] theorem ne_not_or : (("not" : Str) = ("or" : Str)) = False := eq_false (by decide +kernel)
@[simp] theorem ne_not_each : (("not" : Str) = ("each" : Str)) = False := eq_false (by decide +kernel)
@[simp] theorem ne_not_some : (("not" : Str) = ("some" : Str)) = False := eq_false (by decide +kernel)
@[simp] theorem ne_not_x : (("not" : Str) = ("x" : Str)) = False := eq_false (by decide +kernel)
@[simp] theorem ne_not_y : (("not" : Str) = ("y" : Str)) = False := eq_false (by decide +kernel)
@[simp] theorem ne_and_true : (("and" : Str) = ("true" : Str)) = False := eq_false (by decide +kernel)
@[simp] theorem ne_and_mark : (("and" : Str) = ("mark" : Str)) = False := eq_false (by decide +kernel)
@[simp] theorem ne_and_tie : (("and" : Str) = ("tie" : Str)) = False := eq_false (by decide +kernel)
@[simp] theorem ne_and_same : (("and" : Str) = ("same" : Str)) = False := eq_false (by decide +kernel)
@[simp] theorem ne_and_not : (("and" : Str) = ("not" : Str)) = False := eq_false (by decide +kernel)
@[simp] theorem ne_and_or : (("and" : Str) = ("or" : Str)) = False := eq_false (by decide +kernel)
@[simp] theorem ne_and_each : (("and" : Str) = ("each" : Str)) = False := eq_false (by decide +kernel)
@[simp] theorem ne_and_some : (("and" : Str) = ("some" : Str)) = False := eq_false (by decide +kernel)
@[simp] theorem ne_and_x : (("and" : Str) = ("x" : Str)) = False := eq_false (by decide +kernel)
@[simp] theorem ne_and_y : (("and" : Str) = ("y" : Str)) = False := eq_false (by decide +kernel)
@[simp] theorem ne_or_true : (("or" : Str) = ("true" : Str)) = False := eq_false (by decide +kernel)
@[simp] theorem ne_or_mark : (("or" : Str) = ("mark" : Str)) = False := eq_false (by decide +kernel)
@[simp] theorem ne_or_tie : (("or" : Str) = ("tie" : Str)) = False := eq_false (by decide +kernel)
@[simp] theorem ne_or_same : (("or" : Str) = ("same" : Str)) = False := eq_false (by decide +kernel)
@[simp] theorem ne_or_not : (("or" : Str) = ("not" : Str)) = False := eq_false (by decide +kernel)
@[simp] theorem ne_or_and : (("or" : Str) = ("and" : Str)) = False := eq_false (by decide +kernel)
@[simp] theorem ne_or_each : (("or" : Str) = ("each" : Str)) = False := eq_false (by decide +kernel)
@[simp] theorem ne_or_some : (("or" : Str) = ("some" : Str)) = False := eq_false (by decide +kernel)
@[simp] theorem ne_or_x : (("or" : Str) = ("x" : Str)) = False := eq_false (by decide +kernel)
@[simp] theorem ne_or_y : (("or" : Str) = ("y" : Str)) = False := eq_false (by decide +kernel)
@[simp] theorem ne_each_true : (("each" : Str) = ("true" : Str)) = False := eq_false (by decide +kernel)
@[simp] theorem ne_each_mark : (("each" : Str) = ("mark" : Str)) = False := eq_false (by decide +kernel)
@[simp] theorem ne_each_tie : (("each" : Str) = ("tie" : Str)) = False := eq_false (by decide +kernel)
@[simp] theorem ne_each_same : (("each" : Str) = ("same" : Str)) = False := eq_false (by decide +kernel)
@[simp] theorem ne_each_not : (("each" : Str) = ("not" : Str)) = False := eq_false (by decide +kernel)
@[simp] theorem ne_each_and : (("each" : Str) = ("and" : Str)) = False := eq_false (by decide +kernel)
@[simp] theorem ne_each_or : (("each" : Str) = ("or" : Str)) = False := eq_false (by decide +kernel)
@[simp] theorem ne_each_some : (("each" : Str) = ("some" : Str)) = False := eq_false (by decide +kernel)
@[simp] theorem ne_each_x : (("each" : Str) = ("x" : Str)) = False := eq_false (by decide +kernel)
@[simp] theorem ne_each_y : (("each" : Str) = ("y" : Str)) = False := eq_false (by decide +kernel)
@[simp] theorem ne_some_true : (("some" : Str) = ("true" : Str)) = False := eq_false (by decide +kernel)
@[simp] theorem ne_some_mark : (("some" : Str) = ("mark" : Str)) = False := eq_false (by decide +kernel)
@[simp] theorem ne_some_tie : (("some" : Str) = ("tie" : Str)) = False := eq_false (by decide +kernel)
@[simp] theorem ne_some_same : (("some" : Str) = ("same" : Str)) = False := eq_false (by decide +kernel)
@[simp] theorem ne_some_not : (("some" : Str) = ("not" : Str)) = False := eq_false (by decide +kernel)
@[simp] theorem ne_some_and : (("some" : Str) = ("and" : Str)) = False := eq_false (by decide +kernel)
@[simp] theorem ne_some_or : (("some" : Str) = ("or" : Str)) = False := eq_false (by decide +kernel)
@[simp] theorem ne_some_each : (("some" : Str) = ("each" : Str)) = False := eq_false (by decide +kernel)
@[simp] theorem ne_some_x : (("some" : Str) = ("x" : Str)) = False := eq_false (by decide +kernel)
@[simp] theorem ne_some_y : (("some" : Str) = ("y" : Str)) = False := eq_false (by decide +kernel)
@[simp] theorem ne_x_true : (("x" : Str) = ("true" : Str)) = False := eq_false (by decide +kernel)
@[simp] theorem ne_x_mark : (("x" : Str) = ("mark" : Str)) = False := eq_false (by decide +kernel)
@[simp] theorem ne_x_tie : (("x" : Str) = ("tie" : Str)) = False := eq_false (by decide +kernel)
@[simp] theorem ne_x_same : (("x" : Str) = ("same" : Str)) = False := eq_false (by decide +kernel)
@[simp] theorem ne_x_not : (("x" : Str) = ("not" : Str)) = False := eq_false (by decide +kernel)
@[simp] theorem ne_x_and : (("x" : Str) = ("and" : Str)) = False := eq_false (by decide +kernel)
@[simp] theorem ne_x_or : (("x" : Str) = ("or" : Str)) = False := eq_false (by decide +kernel)
@[simp] theorem ne_x_each : (("x" : Str) = ("each" : Str)) = False := eq_false (by decide +kernel)
@[simp] theorem ne_x_some : (("x" : Str) = ("some" : Str)) = False := eq_false (by decide +kernel)
@[simp] theorem ne_x_y : (("x" : Str) = ("y" : Str)) = False := eq_false (by decide +kernel)
@[simp] theorem ne_y_true : (("y" : Str) = ("true" : Str)) = False := eq_false (by decide +kernel)
@[simp] theorem ne_y_mark : (("y" : Str) = ("mark" : Str)) = False := eq_false (by decide +kernel)
@[simp] theorem ne_y_tie : (("y" : Str) = ("tie" : Str)) = False := eq_false (by decide +kernel)
@[simp] theorem ne_y_same : (("y" : Str) = ("same" : Str)) = False := eq_false (by decide +kernel)
@[simp] theorem ne_y_not : (("y" : Str) = ("not" : Str)) = False := eq_false (by decide +kernel)
@[simp] theorem ne_y_and : (("y" : Str) = ("and" : Str)) = False := eq_false (by decide +kernel)
@[simp] theorem ne_y_or : (("y" : Str) = ("or" : Str)) = False := eq_false (by decide +kernel)
@[simp] theorem ne_y_each : (("y" : Str) = ("each" : Str)) = False := eq_false (by decide +kernel)
@[simp] theorem ne_y_some : (("y" : Str) = ("some" : Str)) = False := eq_false (by decide +kernel)
@[simp] theorem ne_y_x : (("y" : Str) = ("x" : Str)) = False := eq_false (by decide +kernel)
@[simp] theorem le_lim0 : ((0 : Nat) ≤ lim) = True := eq_true (by decide)
@[simp] theorem le_lim1 : ((1 : Nat) ≤ lim) = True := eq_true (by decide)
@[simp] theorem le_lim2 : ((2 : Nat) ≤ lim) = True := eq_true (by decide)
@[simp] theorem le_lim3 : ((3 : Nat) ≤ lim) = True := eq_true (by decide)
@[simp] theorem le_lim4 : ((4 : Nat) ≤ lim) = True := eq_true (by decide)
@[simp] theorem le_lim5 : ((5 : Nat) ≤ lim) = True := eq_true (by decide)
@[simp] theorem le_lim6 : ((6 : Nat) ≤ lim) = True := eq_true (by decide)
@[simp] theorem le_lim7 : ((7 : Nat) ≤ lim) = True := eq_true (by decide)
@[simp] theorem le_lim8 : ((8 : Nat) ≤ lim) = True := eq_true (by decide)
@[simp] theorem le_lim9 : ((9 : Nat) ≤ lim) = True := eq_true (by decide)
@[simp] theorem le_lim10 : ((10 : Nat) ≤ lim) = True := eq_true (by decide)
@[simp] theorem le_lim11 : ((11 : Nat) ≤ lim) = True := eq_true (by decide)
@[simp] theorem le_lim12 : ((12 : Nat) ≤ lim) = True := eq_true (by decide)
@[simp] theorem le_lim13 : ((13 : Nat) ≤ lim) = True := eq_true (by decide)
@[simp] theorem le_lim14 : ((14 : Nat) ≤ lim) = True := eq_true (by decide)
@[simp] theorem le_lim15 : ((15 : Nat) ≤ lim) = True := eq_true (by decide)
@[simp] theorem le_lim16 : ((16 : Nat) ≤ lim) = True := eq_true (by decide)
@[simp] theorem le_lim17 : ((17 : Nat) ≤ lim) = True := eq_true (by decide)
@[simp] theorem le_lim18 : ((18 : Nat) ≤ lim) = True := eq_true (by decide)
@[simp] theorem le_lim19 : ((19 : Nat) ≤ lim) = True := eq_true (by decide)
@[simp] theorem le_lim20 : ((20 : Nat) ≤ lim) = True := eq_true (by decide)
@[simp] theorem lt_lim0 : ((0 : Nat) < lim) = True := eq_true (by decide)
@[simp] theorem lt_lim1 : ((1 : Nat) < lim) = True := eq_true (by decide)
@[simp] theorem lt_lim2 : ((2 : Nat) < lim) = True := eq_true (by decide)
@[simp] theorem lt_lim3 : ((3 : Nat) < lim) = True := eq_true (by decide)
@[simp] theorem lt_lim4 : ((4 : Nat) < lim) = True := eq_true (by decide)
@[simp] theorem lt_lim5 : ((5 : Nat) < lim) = True := eq_true (by decide)
@[simp] theorem lt_lim6 : ((6 : Nat) < lim) = True := eq_true (by decide)
@[simp] theorem lt_lim7 : ((7 : Nat) < lim) = True := eq_true (by decide)
@[simp] theorem lt_lim8 : ((8 : Nat) < lim) = True := eq_true (by decide)
@[simp] theorem lt_lim9 : ((9 : Nat) < lim) = True := eq_true (by decide)
@[simp] theorem lt_lim10 : ((10 : Nat) < lim) = True := eq_true (by decide)
@[simp] theorem lt_lim11 : ((11 : Nat) < lim) = True := eq_true (by decide)
@[simp] theorem lt_lim12 : ((12 : Nat) < lim) = True := eq_true (by decide)
@[simp] theorem lt_lim13 : ((13 : Nat) < lim) = True := eq_true (by decide)
@[simp] theorem lt_lim14 : ((14 : Nat) < lim) = True := eq_true (by decide)
@[simp] theorem lt_lim15 : ((15 : Nat) < lim) = True := eq_true (by decide)
@[simp] theorem lt_lim16 : ((16 : Nat) < lim) = True := eq_true (by decide)
@[simp] theorem lt_lim17 : ((17 : Nat) < lim) = True := eq_true (by decide)
@[simp] theorem lt_lim18 : ((18 : Nat) < lim) = True := eq_true (by decide)
@[simp] theorem lt_lim19 : ((19 : Nat) < lim) = True := eq_true (by decide)
@[simp] theorem lt_lim20 : ((20 : Nat) < lim) = True := eq_true (by decide)
end Mi

namespace Mi
open PySem PySem.Spec PyProof.Rows L2
variable {R : List D}

theorem ixN_nat {n k : Nat} (h : k < n) : ixN n (k : Int) = some k := by
  unfold ixN; rw [if_pos (by omega), if_pos (by omega)]; simp
theorem ixN_int {n : Nat} {i : Int} (h0 : 0 ≤ i) (h : i < n) : ixN n i = some i.toNat := by
  unfold ixN; rw [if_pos h0, if_pos h]
theorem atI_int {α : Type} {xs : List α} {i : Int} (h0 : 0 ≤ i) (h : i < xs.length) : ∃ x, atI xs i = some x ∧ x ∈ xs := by
  unfold atI
  rw [ixN_int h0 h]
  have hl : i.toNat < xs.length := by omega
  exact ⟨xs[i.toNat], by simp [hl], List.getElem_mem hl⟩
@[simp] theorem atI_0 {α : Type} {x : α} {xs : List α} : atI (x :: xs) 0 = some x := by
  unfold atI; rw [ixN_int (by omega) (by simp <;> omega)]; rfl
@[simp] theorem atI_1 {α : Type} {x y : α} {xs : List α} : atI (x :: y :: xs) 1 = some y := by
  unfold atI; rw [ixN_int (by omega) (by simp <;> omega)]; rfl
@[simp] theorem atI_2 {α : Type} {x y z : α} {xs : List α} : atI (x :: y :: z :: xs) 2 = some z := by
  unfold atI; rw [ixN_int (by omega) (by simp <;> omega)]; rfl
@[simp] theorem atI_3 {α : Type} {x y z u : α} {xs : List α} : atI (x :: y :: z :: u :: xs) 3 = some u := by
  unfold atI; rw [ixN_int (by omega) (by simp <;> omega)]; rfl
@[simp] theorem setD_l0 {x d : D} {xs : List D} : setD (.lst (x :: xs)) (.int 0) d = some (.lst (d :: xs)) := by
  show (match ixN (x :: xs).length 0 with | some j => _ | none => _) = _
  rw [ixN_int (by omega) (by simp <;> omega)]; rfl
@[simp] theorem setD_l1 {x y d : D} {xs : List D} : setD (.lst (x :: y :: xs)) (.int 1) d = some (.lst (x :: d :: xs)) := by
  show (match ixN (x :: y :: xs).length 1 with | some j => _ | none => _) = _
  rw [ixN_int (by omega) (by simp <;> omega)]; rfl

/-- the pool in the store -/
def PoolOk (R : List D) (t : List D) : Prop := ∃ (cs : List Int) (seed count : Int), t = .lst (cs.map .int) :: .lst [.int seed, .int count, .ptr 0] :: R ∧ (∀ c ∈ cs, 0 ≤ c) ∧ cs.length ≤ 63

theorem draw_ok {t : List D} {n : Int} {Q : D → S → Prop} (hp : PoolOk R t) (h0 : 0 < n) (hn : n < 1073741824)
    (k : ∀ d t', 0 ≤ d → d < n → PoolOk R t' → Q (.int d) ⟨[], t'⟩) : Wp (g__law_draw [.ptr 1, .int n] ⟨[], t⟩) Q := by
  obtain ⟨cs, seed, count, rfl, hc, hl⟩ := hp
  cases cs with
  | nil =>
    simp [g__law_draw, b__law_draw, mulD_l, mulD_r, modD_i, fdivD_i, (by decide : smallI 7919 = true), (by decide : smallI 48271 = true), h0, hn, small_mod]
    exact k _ _ (Int.emod_nonneg _ (by omega)) (Int.emod_lt_of_pos _ h0) ⟨[], seed, count + 1, rfl, hc, hl⟩
  | cons c cs =>
    have c0 : 0 ≤ c := hc c List.mem_cons_self
    have c1 : 0 ≤ c / n := Int.ediv_nonneg c0 (by omega)
    have r0 := Int.emod_nonneg c (show n ≠ 0 by omega)
    have r1 := Int.emod_lt_of_pos c h0
    have hl' : cs.length ≤ 62 := by simpa using hl
    have g1 : (0 : Int) < (cs.length : Int) + 1 := by omega
    have g2 : cs.length + 1 ≤ lim := by show _ ≤ 1000000; omega
    simp [g__law_draw, b__law_draw, modD_i, fdivD_i, h0, hn, g1]
    split
    · simp [isLst, popAtD, g1, g2]
      exact k _ _ r0 r1 ⟨cs, seed, count + 1, rfl, fun x hx => hc x (List.mem_cons_of_mem _ hx), by omega⟩
    · exact k _ _ r0 r1 ⟨c / n :: cs, seed, count + 1, rfl, fun x hx => by
        rcases List.mem_cons.mp hx with e | e
        · rw [e]; exact c1
        · exact hc x (List.mem_cons_of_mem _ e), by simpa using hl⟩

theorem cutD_take {ds : List D} {k : Int} (h : 0 ≤ k) : cutD ds none (some k) = ds.take k.toNat := by
  unfold cutD HT.sIx
  simp only
  rw [if_neg (by omega)]
  simp only [List.drop_zero, Nat.sub_zero]
  by_cases c : k.toNat ≤ ds.length
  · rw [Nat.min_eq_left c]
  · rw [Nat.min_eq_right (by omega), List.take_of_length_le (Nat.le_refl _), List.take_of_length_le (by omega)]
theorem cutD_mid {ds : List D} {j k : Int} (hj : 0 ≤ j) (h : 0 ≤ k) : cutD ds (some j) (some k) = (ds.drop j.toNat).take (k.toNat - j.toNat) := by
  unfold cutD HT.sIx
  simp only
  rw [if_neg (by omega), if_neg (by omega)]
  by_cases c : j.toNat ≤ ds.length
  · rw [Nat.min_eq_left c]
    by_cases c2 : k.toNat ≤ ds.length
    · rw [Nat.min_eq_left c2]
    · rw [Nat.min_eq_right (by omega), List.take_of_length_le (by simp), List.take_of_length_le (by simp; omega)]
  · have e1 : min j.toNat ds.length = ds.length := by omega
    rw [e1, List.drop_length, List.drop_eq_nil_of_le (by omega)]
    simp
theorem intsD_map : ∀ ns : List Int, intsD (ns.map .int) = some ns
  | [] => rfl
  | n :: r => by rw [List.map_cons, intsD, intsD_map r]; rfl
theorem pool_loop {t : List D} {sc : Slot} {Q : Fl → S → Prop} (k : ∀ seed x, notOwn x = true → Q .nx ⟨[sc, .val (.int seed), x], t⟩) : ∀ (l : List Int) (seed : Int) (x : Slot), notOwn x = true →
    Wp (forL (gN 2) (sAsg (gN 1) (op2 modD (opC intD (aCons (op2 addD (op2 addD (op2 mulD (vr 1) (kk (.int (48271 : Int)))) (op2 modD (opC intD (aCons (vr 2) aNil)) (kk (.int (2147483629 : Int))))) (kk (.int (11 : Int)))) aNil)) (kk (.int (2147483647 : Int))))) (l.map .int) ⟨[sc, .val (.int seed), x], t⟩) Q
  | [], seed, x, hx => by simpa using k seed x hx
  | y :: l, seed, x, hx => by
    have := pool_loop k l
    simp [mulD_r, modD_i, (by decide : smallI 48271 = true)]
    exact this _ _ rfl
theorem pool_comp {t : List D} {e : List Slot} {tt : M Bool} {te : M Loc} (ht : tt = (tstB (op2 (cmpD fun i j => decide (j ≤ i)) (opC absD (aCons (vr 2) aNil)) (op2 powD (kk (.int (10 : Int))) (kk (.int (18 : Int))))))) (hte : te = (opC absD (aCons (vr 2) aNil)))
    {sc sd sx : Slot} (he : e = [sc, sd, sx]) (hx : notOwn sx = true) {Q : D → S → Prop} {m : Nat} (k : ∀ cs : List Int, (∀ c ∈ cs, 0 ≤ c) → cs.length ≤ m → Q (.lst (cs.map .int)) ⟨e, t⟩) : ∀ (l cs : List Int), (∀ c ∈ cs, 0 ≤ c) → cs.length + l.length ≤ m → m < 1000 →
    Wp (lcL (gN 2) tt te [2] (cs.map .int) (l.map .int) ⟨e, t⟩) Q
  | [], cs, h, hl, hm => by simpa using k cs h (by simpa using hl)
  | y :: l, cs, h, hl, hm => by
    have ih := pool_comp ht hte he hx k l
    have hl' : cs.length + (l.length + 1) ≤ m := hl
    subst ht hte he
    refine wp_lcL_cons (by simp [freeOf, hx]) (s1 := ⟨[sc, sd, .val (.int y)], t⟩) rfl ?_
    have c1 : cs.length < lim := by show _ < 1000000; omega
    obtain ⟨a, ha, a0⟩ : ∃ a : Int, absD [.int y] = some (.int a) ∧ 0 ≤ a := ⟨_, rfl, by split <;> omega⟩
    simp [powD, ha, -absD_i]
    split
    · simp [freeOf, notOwn, backE, c1, ha, -absD_i]
      have := ih (cs ++ [a]) (fun c hc => by
        rcases List.mem_append.mp hc with e | e
        · exact h c e
        · rw [List.mem_singleton.mp e]; exact a0) (by simp; omega) hm
      simpa using this
    · simp [freeOf, notOwn, backE]
      exact ih cs h (by omega) hm
theorem pool_ok (ns : List Int) (hn : ns.length ≤ 63) {Q : D → S → Prop} (k : ∀ t, PoolOk [] t → Q (.ptr 1) ⟨[], t⟩) : Wp (g__law_pool [.lck (ns.map .int)] ⟨[], []⟩) Q := by
  have t63 : (ns.map D.int).take 63 = ns.map .int := List.take_of_length_le (by simpa using hn)
  have lm : ns.length < lim := by show _ < 1000000; omega
  have s1 : ∃ z, sumD [.lst ((ns.map D.int).take 1)] = some (.int z) := by
    rw [← List.map_take]
    refine ⟨(ns.take 1).sum, ?_⟩
    show (intsD ((ns.take 1).map D.int)).map (fun ns => D.int ns.sum) = _
    rw [intsD_map]; rfl
  obtain ⟨z, s1⟩ := s1
  simp [g__law_pool, b__law_pool, cutD_take, s1, modD_i, t63, lm]
  refine pool_loop (fun seed x hx => ?_) ns _ _ rfl
  simp [cutD_take, t63, lm]
  refine pool_comp rfl rfl rfl hx (m := ns.length) (fun cs h0 hl => ?_) ns [] (by simp) (by simp) (by omega)
  simp
  exact k _ ⟨cs, seed, 0, rfl, h0, by omega⟩
end Mi

namespace Mi
open PySem PySem.Spec PyProof.Rows L2

def nxtI (I : S → Prop) (Q : Fl → S → Prop) : Fl → S → Prop := fun f s => match f with
  | .nx => I s
  | .ct => I s
  | .bk => Q .nx s
  | .rt d => Q (.rt d) s
@[simp] theorem nxtI_nx {I : S → Prop} {Q : Fl → S → Prop} {s : S} : nxtI I Q .nx s = I s := rfl
@[simp] theorem nxtI_ct {I : S → Prop} {Q : Fl → S → Prop} {s : S} : nxtI I Q .ct s = I s := rfl
@[simp] theorem nxtI_bk {I : S → Prop} {Q : Fl → S → Prop} {s : S} : nxtI I Q .bk s = Q .nx s := rfl
@[simp] theorem nxtI_rt {I : S → Prop} {Q : Fl → S → Prop} {s : S} {d : D} : nxtI I Q (.rt d) s = Q (.rt d) s := rfl
theorem wp_forL_at {tg : TgF} {body : M Fl} {Q : Fl → S → Prop} (Inv : Nat → S → Prop) (xs : List D) (step : ∀ i d s, xs[i]? = some d → Inv i s → ∃ s1, tg d s = some s1 ∧ Wp (body s1) (nxtI (Inv (i + 1)) Q)) (fin : ∀ s, Inv xs.length s → Q .nx s) : ∀ (l : List D) (i : Nat) (s : S), xs.drop i = l → i + l.length = xs.length → Inv i s → Wp (forL tg body l s) Q
  | [], i, s, h, hl, hi => by
    rw [wp_forL_nil]
    have : i = xs.length := by simpa using hl
    exact fin s (this ▸ hi)
  | d :: l, i, s, h, hl, hi => by
    have e1 : xs[i]? = some d := by rw [← List.head?_drop, h]; rfl
    obtain ⟨s1, e2, w⟩ := step i d s e1 hi
    show Wp (match tg d s with | none => .stuck | some s' => (body s').bind (aft (forL tg body l))) Q
    simp only [e2]
    rw [wp_aft]
    refine w.mono fun f s2 h2 => ?_
    have ih := fun s => wp_forL_at Inv xs step fin l (i + 1) s (by rw [← List.tail_drop, h]; rfl) (by simpa [Nat.add_assoc, Nat.add_comm 1] using hl)
    cases f with
    | nx => exact ih s2 h2
    | ct => exact ih s2 h2
    | bk => exact h2
    | rt d => exact h2
/-- a for by its invariant -/
theorem wp_forL_inv {tg : TgF} {body : M Fl} {Q : Fl → S → Prop} {xs : List D} {s : S} (Inv : Nat → S → Prop) (h0 : Inv 0 s) (step : ∀ i d s, xs[i]? = some d → Inv i s → ∃ s1, tg d s = some s1 ∧ Wp (body s1) (nxtI (Inv (i + 1)) Q)) (fin : ∀ s, Inv xs.length s → Q .nx s) : Wp (forL tg body xs s) Q :=
  wp_forL_at Inv xs step fin xs 0 s rfl (by simp) h0
theorem wp_lcL_at {tg : TgF} {tt : M Bool} {te : M Loc} {vs : List Nat} {e0 : List Slot} {Q : D → S → Prop} (hf : freeOf e0 vs = true) (Inv : Nat → List D → List D → Prop) (xs : List D)
    (step : ∀ i d acc t, xs[i]? = some d → Inv i acc t → ∃ s1, tg d ⟨wipeE e0 vs, t⟩ = some s1 ∧ Wp (tt s1) fun b s2 => if b = true then Wp (te s2) fun l s3 => Wp (toVal l s3) fun d' s4 => freeOf s4.e vs = true ∧ acc.length < lim ∧ backE e0 s4.e vs = e0 ∧ Inv (i + 1) (acc ++ [d']) s4.t
      else freeOf s2.e vs = true ∧ backE e0 s2.e vs = e0 ∧ Inv (i + 1) acc s2.t)
    (fin : ∀ acc t, Inv xs.length acc t → Q (.lst acc) ⟨e0, t⟩) : ∀ (l : List D) (i : Nat) (acc t : List D), xs.drop i = l → i + l.length = xs.length → Inv i acc t → Wp (lcL tg tt te vs acc l ⟨e0, t⟩) Q
  | [], i, acc, t, h, hl, hi => by
    rw [wp_lcL_nil]
    have : i = xs.length := by simpa using hl
    exact fin acc t (this ▸ hi)
  | d :: l, i, acc, t, h, hl, hi => by
    have e1 : xs[i]? = some d := by rw [← List.head?_drop, h]; rfl
    obtain ⟨s1, e2, w⟩ := step i d acc t e1 hi
    have ih := fun acc t => wp_lcL_at hf Inv xs step fin l (i + 1) acc t (by rw [← List.tail_drop, h]; rfl) (by simpa [Nat.add_assoc, Nat.add_comm 1] using hl)
    refine wp_lcL_cons hf e2 (w.mono fun b s2 h2 => ?_)
    cases b with
    | true =>
      rw [if_pos rfl] at h2 ⊢
      refine h2.mono fun l' s3 h3 => h3.mono fun d' s4 h4 => ?_
      obtain ⟨h5, h6, h7, h8⟩ := h4
      refine ⟨h5, h6, ?_⟩
      show Wp (lcL tg tt te vs (acc ++ [d']) l ⟨backE e0 s4.e vs, s4.t⟩) Q
      rw [h7]
      exact ih _ _ h8
    | false =>
      rw [if_neg (by simp)] at h2 ⊢
      obtain ⟨h5, h7, h8⟩ := h2
      refine ⟨h5, ?_⟩
      show Wp (lcL tg tt te vs acc l ⟨backE e0 s2.e vs, s2.t⟩) Q
      rw [h7]
      exact ih _ _ h8
/-- a list comprehension by its invariant -/
theorem wp_lcL_inv {tg : TgF} {tt : M Bool} {te : M Loc} {vs : List Nat} {e0 t : List Slot} : True := trivial
theorem wp_lcL_inv' {tg : TgF} {tt : M Bool} {te : M Loc} {vs : List Nat} {e0 : List Slot} {xs t : List D} {Q : D → S → Prop} (Inv : Nat → List D → List D → Prop) (hf : freeOf e0 vs = true) (h0 : Inv 0 [] t)
    (step : ∀ i d acc t, xs[i]? = some d → Inv i acc t → ∃ s1, tg d ⟨wipeE e0 vs, t⟩ = some s1 ∧ Wp (tt s1) fun b s2 => if b = true then Wp (te s2) fun l s3 => Wp (toVal l s3) fun d' s4 => freeOf s4.e vs = true ∧ acc.length < lim ∧ backE e0 s4.e vs = e0 ∧ Inv (i + 1) (acc ++ [d']) s4.t
      else freeOf s2.e vs = true ∧ backE e0 s2.e vs = e0 ∧ Inv (i + 1) acc s2.t)
    (fin : ∀ acc t, Inv xs.length acc t → Q (.lst acc) ⟨e0, t⟩) : Wp (lcL tg tt te vs [] xs ⟨e0, t⟩) Q :=
  wp_lcL_at hf Inv xs step fin xs 0 [] t rfl (by simp) h0
end Mi

namespace Mi
open PySem PySem.Spec PyProof.Rows L2

def wd (cs : List Nat) : Str := ⟨cs.toArray⟩
def ch (c : Nat) : D := .str ⟨#[c]⟩
theorem wd_len (cs : List Nat) : (wd cs).length = cs.length := by unfold wd Str.length; simp
theorem wd_inj {a b : List Nat} (h : wd a = wd b) : a = b := by
  have := congrArg (fun s => s.cps.toList) h
  simpa [wd] using this
theorem strs_ch : ∀ cs : List Nat, strsD (cs.map ch) = some ((cs.map fun c => [c]).map wd)
  | [] => rfl
  | c :: cs => by rw [List.map_cons, ch, strsD, strs_ch cs]; rfl
theorem joinL_one : ∀ cs : List Nat, TL.joinL [] (cs.map fun c => [c]) = cs
  | [] => rfl
  | [c] => rfl
  | c :: d :: cs => by
    show [c] ++ ([] ++ TL.joinL [] ((d :: cs).map fun c => [c])) = _
    rw [joinL_one (d :: cs)]; rfl
theorem sum_one : ∀ cs : List Nat, (((cs.map fun c => [c]).map wd).map (·.length)).sum = cs.length
  | [] => rfl
  | c :: cs => by
    have := sum_one cs
    simp only [List.map_cons, List.sum_cons, List.length_cons] at this ⊢
    rw [this]
    show 1 + _ = _
    omega
theorem joinD_ch {cs : List Nat} (h : cs.length ≤ 1000) : joinD (.str ("" : Str)) [.lst (cs.map ch)] = some (.str (wd cs)) := by
  show joinS ("" : Str) (cs.map ch) = _
  unfold joinS
  rw [strs_ch]
  have e0 : ("" : Str) = wd [] := by decide +kernel
  have l0 : (wd []).length = 0 := rfl
  simp only [e0, l0, sum_one]
  rw [if_pos (by show _ ≤ 1000000; omega)]
  exact congrArg (fun x => some (D.str x)) ((SX.join_S [] _).trans (by rw [joinL_one]; rfl))
def wordsOf5 : List Str := [("x" : Str), ("y" : Str), ("not" : Str), ("and" : Str), ("or" : Str)]
theorem in_strs (w : Str) (ws : List Str) : inD false (.str w) (.lst (ws.map .str)) = some (.bl (decide (w ∈ ws))) := by
  have h1 : (ws.map D.str).all flatD = true := by simp [flatD]
  show (if flatD (.str w) && (ws.map D.str).all flatD then some (D.bl (false ^^ inV (toV (.str w)) ((ws.map D.str).map toV))) else none) = _
  rw [h1]
  simp only [flatD, Bool.and_self, if_true]
  congr 2
  simp only [Bool.false_xor, inV, List.map_map, List.any_map]
  induction ws with
  | nil => simp
  | cons a r ih =>
    rw [List.any_cons]
    have ih := ih (by simp [flatD])
    rw [ih]
    have : ((fun y => eqV y (toV (D.str w))) ∘ toV ∘ D.str) a = decide (w = a) := by
      show (a == w) = _
      by_cases c : w = a
      · subst c; simp
      · simp [c]; exact fun z => c z.symm
    rw [this]
    by_cases c : w = a <;> simp [c]
theorem in_tups (w : Str) (ws : List Str) : inD false (.str w) (.tup (ws.map .str)) = some (.bl (decide (w ∈ ws))) := in_strs w ws
theorem notin_strs (w : Str) (ws : List Str) : inD true (.str w) (.lst (ws.map .str)) = some (.bl (!decide (w ∈ ws))) := by
  have h1 : (ws.map D.str).all flatD = true := by simp [flatD]
  have h := in_strs w ws
  have e1 : inD false (.str w) (.lst (ws.map .str)) = if flatD (.str w) && (ws.map D.str).all flatD then some (D.bl (false ^^ inV (toV (.str w)) ((ws.map D.str).map toV))) else none := rfl
  have e2 : inD true (.str w) (.lst (ws.map .str)) = if flatD (.str w) && (ws.map D.str).all flatD then some (D.bl (true ^^ inV (toV (.str w)) ((ws.map D.str).map toV))) else none := rfl
  rw [e1, h1] at h
  rw [e2, h1]
  simp only [flatD, Bool.and_self, if_true, Bool.false_xor, Option.some.injEq, D.bl.injEq] at h
  simp only [flatD, Bool.and_self, if_true, h, Bool.true_xor]
theorem notin_tups (w : Str) (ws : List Str) : inD true (.str w) (.tup (ws.map .str)) = some (.bl (!decide (w ∈ ws))) := notin_strs w ws
/-- a small letter -/
def Ltr (c : Nat) : Prop := 97 ≤ c ∧ c ≤ 122
def abc : Str := "abcdefghijklmnopqrstuvwxyz"
theorem abc_at {i : Int} (h0 : 0 ≤ i) (h : i < 26) : ixD (.str ("abcdefghijklmnopqrstuvwxyz" : Str)) (.int i) = some (ch (97 + i.toNat)) := by
  have e0 : ("abcdefghijklmnopqrstuvwxyz" : Str) = wd ((List.range 26).map (97 + ·)) := by decide +kernel
  rw [e0]
  show (if (wd ((List.range 26).map (97 + ·))).length ≤ lim then (atI (wd ((List.range 26).map (97 + ·))).cps.toList i).map (fun c => D.str ⟨#[c]⟩) else none) = _
  rw [if_pos (by rw [wd_len]; decide)]
  unfold wd
  simp only [atI]
  rw [ixN_int h0 (by simp; omega)]
  simp only [Option.bind]
  rw [List.getElem?_map, List.getElem?_range (by omega)]
  rfl
/-- a name that the language takes -/
def NmOk (w : Str) : Prop := 1 ≤ w.length ∧ w.length ≤ 6 ∧ (∀ c ∈ w.cps.toList, Ltr c) ∧ w ∉ KEPT_WORDS_ws
theorem kept3 {w : Str} (h : w.length ≤ 3) (n : w ∉ wordsOf5) : w ∉ KEPT_WORDS_ws := by
  intro m
  have l4 : ∀ v ∈ ([("true" : Str), ("each" : Str), ("some" : Str)] : List Str), v.length = 4 := by decide +kernel
  unfold KEPT_WORDS_ws at m
  unfold wordsOf5 at n
  simp only [List.mem_cons, List.not_mem_nil, or_false, not_or] at m n
  rcases m with e | e | e | e | e | e | e | e
  · exact n.1 e
  · exact n.2.1 e
  · rw [e, l4 _ (by simp)] at h; omega
  · exact n.2.2.1 e
  · exact n.2.2.2.1 e
  · exact n.2.2.2.2 e
  · rw [e, l4 _ (by simp)] at h; omega
  · rw [e, l4 _ (by simp)] at h; omega
theorem nm_wd {cs : List Nat} (h1 : 1 ≤ cs.length) (h3 : cs.length ≤ 3) (hc : ∀ c ∈ cs, Ltr c) (n : wd cs ∉ wordsOf5) : NmOk (wd cs) :=
  ⟨by rw [wd_len]; exact h1, by rw [wd_len]; omega, by simpa [wd] using hc, kept3 (by rw [wd_len]; exact h3) n⟩
theorem nm_q {w : Str} (h : w ∈ wordsOf5) : NmOk (w ++ ("q" : Str)) := by
  have : ∀ w ∈ wordsOf5, 1 ≤ (w ++ ("q" : Str)).length ∧ (w ++ ("q" : Str)).length ≤ 6 ∧ (∀ c ∈ (w ++ ("q" : Str)).cps.toList, 97 ≤ c ∧ c ≤ 122) ∧ (w ++ ("q" : Str)) ∉ KEPT_WORDS_ws := by decide +kernel
  exact this w h
theorem q_at {w : Str} {i : Nat} (h : i < w.cps.size) : (w ++ ("q" : Str)).cps[i]? = w.cps[i]? := by
  show (w.cps ++ ("q" : Str).cps)[i]? = _
  rw [Array.getElem?_append_left h]
end Mi

namespace Mi
open PySem PySem.Spec PyProof.Rows L2
variable {R : List D}
theorem steps_at {d : Int} (h0 : 0 ≤ d) (h : d < 12) : ∃ st : Int, atI ([.int 1, .int 3, .int 5, .int 7, .int 9, .int 11, .int 15, .int 17, .int 19, .int 21, .int 23, .int 25] : List D) d = some (.int st) ∧ st ∈ ([1, 3, 5, 7, 9, 11, 15, 17, 19, 21, 23, 25] : List Int) := by
  obtain ⟨n, rfl⟩ : ∃ n : Nat, d = n := ⟨d.toNat, by omega⟩
  have : n < 12 := by omega
  unfold atI
  rw [ixN_nat (by simpa using this)]
  match n, this with
  | 0, _ => exact ⟨_, rfl, by simp⟩
  | 1, _ => exact ⟨_, rfl, by simp⟩
  | 2, _ => exact ⟨_, rfl, by simp⟩
  | 3, _ => exact ⟨_, rfl, by simp⟩
  | 4, _ => exact ⟨_, rfl, by simp⟩
  | 5, _ => exact ⟨_, rfl, by simp⟩
  | 6, _ => exact ⟨_, rfl, by simp⟩
  | 7, _ => exact ⟨_, rfl, by simp⟩
  | 8, _ => exact ⟨_, rfl, by simp⟩
  | 9, _ => exact ⟨_, rfl, by simp⟩
  | 10, _ => exact ⟨_, rfl, by simp⟩
  | 11, _ => exact ⟨_, rfl, by simp⟩

theorem names_ok {t : List D} (hp : PoolOk R t) {Q : D → S → Prop} (k : ∀ (ws : List Str) t', PoolOk R t' → ws.length = 5 → (∀ w ∈ ws, NmOk w) → ws.Nodup → Q (.lst (ws.map .str)) ⟨[], t'⟩) : Wp (g__law_names [.ptr 1, .int 5] ⟨[], t⟩) Q := by
  simp [g__law_names, b__law_names]
  refine draw_ok hp (by omega) (by omega) fun pl t hl0 hl1 hp => ?_
  simp
  refine draw_ok hp (by omega) (by omega) fun sta t hs0 hs1 hp => ?_
  simp
  refine draw_ok hp (by omega) (by omega) fun d t hd0 hd1 hp => ?_
  obtain ⟨st, e1, hst⟩ := steps_at hd0 hd1
  simp [e1]
  have hst0 : 1 ≤ st ∧ st ≤ 25 := by
    simp only [List.mem_cons, List.not_mem_nil, or_false] at hst
    omega
  rw [wp_forRng (by decide)]
  refine wp_forL_inv (fun i s => ∃ (acc : List Str) (s7 s8 s9 : Slot) (t : List D), s = ⟨[.val (.ptr 1), .val (.int 5), .val (.int pl), .val (.int sta), .val (.int st), .val (.str ("abcdefghijklmnopqrstuvwxyz" : Str)), .own (.lst (acc.map .str)), s7, s8, s9, .no], t⟩ ∧ PoolOk R t ∧ acc.length = i ∧
    ∀ (j : Nat) w, acc[j]? = some w → NmOk w ∧ w.cps[pl.toNat]? = some (97 + ((sta + st * j) % 26).toNat)) ⟨[], _, _, _, t, rfl, hp, rfl, fun j w h => by simp at h⟩ ?_ ?_
  · rintro i d s hd ⟨acc, s7, s8, s9, t, rfl, hp, hl, hacc⟩
    have hi : i < 5 := by
      have := (List.getElem?_eq_some_iff.mp hd).1
      simpa using this
    have hd : d = .int i := by
      rw [List.getElem?_map, List.getElem?_range hi] at hd
      have := Option.some.inj hd
      rw [← this]; simp
    subst hd
    refine ⟨_, rfl, ?_⟩
    simp
    refine draw_ok hp (by omega) (by omega) fun dr t hr0 hr1 hp => ?_
    simp
    rw [if_pos (by constructor <;> omega)]
    rw [wp_lcRng (by show _ < 1000000; omega)]
    refine wp_lcL_inv' (fun i acc t => PoolOk R t ∧ ∃ cs : List Nat, acc = cs.map ch ∧ cs.length = i ∧ ∀ c ∈ cs, Ltr c) (by simp [freeOf, notOwn]) ⟨hp, [], rfl, rfl, fun c h => by simp at h⟩ ?_ ?_
    · rintro i2 d2 acc2 t2 hd2 ⟨hp2, cs, rfl, hcl, hcs⟩
      have hi2 : i2 < (pl + 1 + dr).toNat := by
        have := (List.getElem?_eq_some_iff.mp hd2).1
        simpa using this
      refine ⟨_, rfl, ?_⟩
      simp [wipeE]
      refine draw_ok hp2 (by omega) (by omega) fun x t3 hx0 hx1 hp3 => ?_
      have cl : cs.length < lim := by show _ < 1000000; omega
      simp [abc_at hx0 hx1, freeOf, notOwn, backE, cl]
      refine ⟨hp3, cs ++ [97 + x.toNat], by simp, by simp [hcl], fun c hc => ?_⟩
      rcases List.mem_append.mp hc with e | e
      · exact hcs c e
      · rw [List.mem_singleton.mp e]; exact ⟨by omega, by omega⟩
    · rintro acc2 t2 ⟨hp2, cs, rfl, hcl, hcs⟩
      simp at hcl
      have m0 := Int.emod_nonneg (sta + st * (i : Int)) (show (26 : Int) ≠ 0 by omega)
      have m1 := Int.emod_lt_of_pos (sta + st * (i : Int)) (show (0 : Int) < 26 by omega)
      have sst : smallI st = true := by
        unfold smallI
        rw [Bool.and_eq_true]
        exact ⟨decide_eq_true (by omega), decide_eq_true (by omega)⟩
      have es : setD (.lst (cs.map ch)) (.int pl) (ch (97 + ((sta + st * i) % 26).toNat)) = some (.lst ((cs.set pl.toNat (97 + ((sta + st * i) % 26).toNat)).map ch)) := by
        show (match ixN (cs.map ch).length pl with | some j => _ | none => _) = _
        rw [ixN_int hl0 (by simp; omega), List.map_set]
      have e10 : (cs.set pl.toNat (97 + ((sta + st * i) % 26).toNat)).length ≤ 1000 := by simp; omega
      have hpl : pl.toNat < cs.length := by omega
      obtain ⟨cs2, e2⟩ : ∃ cs2, cs2 = cs.set pl.toNat (97 + ((sta + st * i) % 26).toNat) := ⟨_, rfl⟩
      rw [← e2] at es e10
      have l2 : cs2.length = cs.length := by rw [e2, List.length_set]
      have at2 : cs2[pl.toNat]? = some (97 + ((sta + st * i) % 26).toNat) := by rw [e2]; simp [hpl]
      have hc2 : ∀ c ∈ cs2, Ltr c := fun c hc => by
        rw [e2] at hc
        rcases List.mem_or_eq_of_mem_set hc with h | h
        · exact hcs c h
        · rw [h]; exact ⟨by omega, by omega⟩
      have ein : inD false (.str (wd cs2)) (.lst [.str ("x" : Str), .str ("y" : Str), .str ("not" : Str), .str ("and" : Str), .str ("or" : Str)]) = some (.bl (decide (wd cs2 ∈ wordsOf5))) := in_strs (wd cs2) wordsOf5
      have eq1 : addD (.str (wd cs2)) (.str ("q" : Str)) = some (.str (wd cs2 ++ ("q" : Str))) := by
        show (if _ ≤ lim then _ else _) = _
        rw [if_pos (by rw [wd_len, show (("q" : Str)).length = 1 by decide +kernel]; show _ ≤ 1000000; omega)]
      have fin : ∀ (w : Str), NmOk w → w.cps[pl.toNat]? = some (97 + ((sta + st * i) % 26).toNat) → ∀ (j : Nat) v, (acc ++ [w])[j]? = some v → NmOk v ∧ v.cps[pl.toNat]? = some (97 + ((sta + st * j) % 26).toNat) := by
        intro w h1 h2 j v hv
        by_cases c : j < acc.length
        · rw [List.getElem?_append_left c] at hv
          exact hacc j v hv
        · have : j = i := by
            have := (List.getElem?_eq_some_iff.mp hv).1
            simp at this
            omega
          subst this
          rw [← hl, List.getElem?_append_right (Nat.le_refl _), Nat.sub_self] at hv
          cases hv
          exact ⟨h1, h2⟩
      have la : acc.length < lim := by show _ < 1000000; omega
      simp [mulD_l, sst, modD_i, abc_at m0 m1, es, isStr, joinD_ch e10, ein]
      by_cases c : wd cs2 ∈ wordsOf5
      · simp [c, eq1, isLst, appD, la]
        refine ⟨acc ++ [wd cs2 ++ ("q" : Str)], _, _, _, _, ⟨⟨by simp, rfl, rfl, rfl⟩, rfl⟩, hp2, by simp [hl], fin _ (nm_q c) ?_⟩
        rw [q_at (by simpa [wd] using (show pl.toNat < cs2.length by omega))]
        simpa [wd] using at2
      · simp [c, isLst, appD, la]
        refine ⟨acc ++ [wd cs2], _, _, _, _, ⟨⟨by simp, rfl, rfl, rfl⟩, rfl⟩, hp2, by simp [hl], fin _ (nm_wd (by omega) (by omega) hc2 c) ?_⟩
        simpa [wd] using at2
  · rintro s ⟨acc, s7, s8, s9, t, rfl, hp, hl, hacc⟩
    simp at hl
    simp
    refine k acc t hp hl (fun w hw => ?_) ?_
    · obtain ⟨j, hj⟩ := List.mem_iff_getElem?.mp hw
      exact (hacc j w hj).1
    · refine List.pairwise_iff_getElem.mpr fun i j hi hj hij he' => ?_
      have he : acc[i]? = acc[j]? := by rw [List.getElem?_eq_getElem hi, List.getElem?_eq_getElem hj, he']
      obtain ⟨w, hw⟩ : ∃ w, acc[j]? = some w := ⟨_, List.getElem?_eq_getElem hj⟩
      have a1 := (hacc j w hw).2
      have a2 := (hacc i w (he.trans hw)).2
      rw [a1] at a2
      have a3 := Option.some.inj a2
      rw [hl] at hj
      have m0 := Int.emod_nonneg (sta + st * (i : Int)) (show (26 : Int) ≠ 0 by omega)
      have m1 := Int.emod_nonneg (sta + st * (j : Int)) (show (26 : Int) ≠ 0 by omega)
      have a4 : (sta + st * (j : Int)) % 26 = (sta + st * (i : Int)) % 26 := by omega
      clear a1 a2 a3 e1
      have : ∃ u : Nat, u = j - i ∧ 1 ≤ u ∧ u ≤ 4 := ⟨j - i, rfl, by omega, by omega⟩
      obtain ⟨u, hu, u1, u4⟩ := this
      have ej : (j : Int) = i + u := by omega
      rw [ej, Int.mul_add] at a4
      simp only [List.mem_cons, List.not_mem_nil, or_false] at hst
      have hu' : u = 1 ∨ u = 2 ∨ u = 3 ∨ u = 4 := by omega
      rcases hst with h | h | h | h | h | h | h | h | h | h | h | h <;> subst h <;> rcases hu' with h | h | h | h <;> subst h <;> omega
end Mi

namespace Mi
open PySem PySem.Spec PyProof.Rows L2

/-! ### classes -/
@[simp] theorem tyN_non : tyN .non = some (.inl "NoneType") := rfl
@[simp] theorem tyN_bl {b : Bool} : tyN (.bl b) = some (.inl "bool") := rfl
@[simp] theorem tyN_int {b : Int} : tyN (.int b) = some (.inl "int") := rfl
@[simp] theorem tyN_str {b : Str} : tyN (.str b) = some (.inl "str") := rfl
@[simp] theorem tyN_tup {b : List D} : tyN (.tup b) = some (.inl "tuple") := rfl
@[simp] theorem tyN_lst {b : List D} : tyN (.lst b) = some (.inl "list") := rfl
/-! ### sets of words, as dicts -/
def dk (ws : List Str) : D := .dic (ws.map fun w => (Sum.inr w, D.bl true))
theorem has_dk (w : Str) : ∀ ws : List Str, hasK (ws.map fun w => ((Sum.inr w : Key), D.bl true)) (Sum.inr w) = decide (w ∈ ws)
  | [] => by simp [hasK]
  | a :: r => by
    have ih := has_dk w r
    unfold hasK at ih ⊢
    rw [List.map_cons, List.any_cons, ih]
    by_cases c : w = a
    · subst c; simp
    · have : ¬ ((Sum.inr a : Key) = Sum.inr w) := fun e => c (Sum.inr.inj e).symm
      simp [this, c]
@[simp] theorem in_dk {w : Str} {ws : List Str} {neg : Bool} : inD neg (.str w) (dk ws) = some (.bl (neg ^^ decide (w ∈ ws))) := by
  show some (D.bl (neg ^^ hasK _ _)) = _
  rw [has_dk]
def addW (ws : List Str) (w : Str) : List Str := if w ∈ ws then ws else ws ++ [w]
theorem set_dk {w : Str} {ws : List Str} (h : ws.length < lim) : setD (dk ws) (.str w) (.bl true) = some (dk (addW ws w)) := by
  show (if _ < lim then some (D.dic (putD (ws.map fun w => ((Sum.inr w : Key), D.bl true)) (Sum.inr w) (.bl true))) else none) = _
  rw [if_pos (by simpa using h)]
  have e := has_dk w ws
  unfold hasK at e
  unfold putD addW dk
  by_cases c : w ∈ ws
  · rw [if_pos (by rw [e]; simpa using c), if_pos c]
    congr 2
    rw [List.map_map]
    refine List.map_congr_left fun a _ => ?_
    show (if (Sum.inr a : Key) = Sum.inr w then ((Sum.inr a : Key), D.bl true) else _) = _
    split <;> rfl
  · rw [if_neg (by rw [e]; simpa using c), if_neg c]
    simp
@[simp] theorem cont_dk {ws : List Str} {s : S} {Q : D → S → Prop} : Wp (cont (.val (dk ws)) s) Q = Q (dk ws) s := rfl

theorem wp_forStr {tg : TgF} {body : M Fl} {x : Str} {s : S} {Q : Fl → S → Prop} (hl : x.length < lim) : Wp (forF (.seq (.str x)) tg body lim 0 s) Q = Wp (forL tg body (x.cps.toList.map fun c => D.str ⟨#[c]⟩) s) Q :=
  wp_forSeq rfl rfl (by simpa [Str.length] using hl)
theorem abc_has {c : Nat} (h : Ltr c) : c ∈ (("abcdefghijklmnopqrstuvwxyz" : Str)).cps.toList := by
  have e0 : ("abcdefghijklmnopqrstuvwxyz" : Str) = wd ((List.range 26).map (97 + ·)) := by decide +kernel
  rw [e0]
  simp only [wd, List.mem_map, List.mem_range]
  exact ⟨c - 97, by have := h.1; have := h.2; omega, by have := h.1; omega⟩
theorem isa_list_tuple_tup : isa_list_tuple (.inl "tuple") = some true := by decide
theorem isa_list_tuple_lst : isa_list_tuple (.inl "list") = some true := by decide
@[simp] theorem seq_ok_tup {t : List D} {xs : List D} {Q : D → S → Prop} : Wp (g_is_sequence [.tup xs] ⟨[], t⟩) Q = Q (.bl true) ⟨[], t⟩ := by
  simp [g_is_sequence, b_is_sequence, isa_list_tuple_tup]
theorem isa_str_str : isa_str (.inl "str") = some true := by decide
theorem word_ok {w : Str} (h : NmOk w) {t : List D} {Q : D → S → Prop} : Q (.bl true) ⟨[], t⟩ → Wp (g_is_word [.str w] ⟨[], t⟩) Q := by
  intro k
  obtain ⟨h1, h2, h3, h4⟩ := h
  have hl : w.length < lim := by show _ < 1000000; omega
  have e1 : lenD [.str w] = some (.int w.length) := if_pos (by show _ ≤ 1000000; omega)
  have g1 : (1 : Int) ≤ (w.length : Int) := by omega
  have g2 : (w.length : Int) ≤ 6 := by omega
  simp [g_is_word, b_is_word, isa_str_str, e1, g1, g2, seqOf]
  rw [wp_forStr hl]
  refine wp_forL_inv (fun i s => ∃ x, s = ⟨[.val (.str w), x], t⟩) ⟨_, rfl⟩ ?_ ?_
  · rintro i d s hd ⟨x, rfl⟩
    refine ⟨_, rfl, ?_⟩
    obtain ⟨c, hc, e⟩ := List.mem_map.mp (List.mem_of_getElem? hd)
    subst e
    have e2 : inD true (.str ⟨#[c]⟩) (.str ("abcdefghijklmnopqrstuvwxyz" : Str)) = some (.bl false) := by
      show some (D.bl (true ^^ decide (c ∈ _))) = _
      rw [decide_eq_true (abc_has (h3 c hc))]; rfl
    simp [e2]
  · rintro s ⟨x, rfl⟩
    simpa using k
theorem key_ok {w : Str} {ws : List Str} {t : List D} {Q : D → S → Prop} : Wp (g_is_key [.str w, .tup (ws.map .str)] ⟨[], t⟩) Q = Q (.bl (decide (w ∈ ws))) ⟨[], t⟩ := by
  simp [g_is_key, b_is_key, isa_str_str, in_tups]
theorem names_are {ws tk : List Str} {m : Int} (hm : (ws.length : Int) ≤ m) (hl : ws.length ≤ 10) (h : ∀ w ∈ ws, NmOk w) (hd : ws.Nodup) (ht : ∀ w ∈ ws, w ∉ tk) {t : List D} {Q : D → S → Prop} (k : Q (.bl true) ⟨[], t⟩) :
    Wp (g_are_names [.tup (ws.map .str), .int m, .tup (tk.map .str)] ⟨[], t⟩) Q := by
  have g1 : ¬ m < (ws.length : Int) := by omega
  have g2 : ws.length < lim := by show _ < 1000000; omega
  simp [g_are_names, b_are_names, g1, g2]
  refine wp_forL_inv (fun i s => ∃ x, s = ⟨[.val (.tup (ws.map .str)), .val (.int m), .val (.tup (tk.map .str)), .own (dk (ws.take i)), x], t⟩) ⟨_, rfl⟩ ?_ ?_
  · rintro i d s hi ⟨x, rfl⟩
    refine ⟨_, rfl, ?_⟩
    rw [List.getElem?_map] at hi
    obtain ⟨w, hw, e⟩ := Option.map_eq_some_iff.mp hi
    subst e
    have il := (List.getElem?_eq_some_iff.mp hw).1
    have ew := (List.getElem?_eq_some_iff.mp hw).2
    have mem := List.mem_of_getElem? hw
    have nk : w ∉ KEPT_WORDS_ws := (h w mem).2.2.2
    have nt := ht w mem
    have ni : w ∉ ws.take i := by
      intro hmem
      obtain ⟨j, hj, ej⟩ := List.mem_take_iff_getElem.mp hmem
      have hj' : j < i := by omega
      have := List.pairwise_iff_getElem.mp hd j i (by omega) il hj'
      exact this (ej.trans ew.symm)
    have st : setD (dk (ws.take i)) (.str w) (.bl true) = some (dk (ws.take (i + 1))) := by
      rw [set_dk (by simp; omega)]
      unfold addW
      rw [if_neg ni, List.take_succ, hw]
      rfl
    simp
    refine word_ok (h w mem) ?_
    simp [inWD, nk, in_tups, nt, ni, st]
  · rintro s ⟨x, rfl⟩
    simpa using k
theorem funs_are {ws tk : List Str} (hl : ws.length ≤ 1) (h : ∀ w ∈ ws, w ∈ tk) {t : List D} {Q : D → S → Prop} (k : Q (.bl true) ⟨[], t⟩) :
    Wp (g_are_functions [.tup (ws.map .str), .tup (tk.map .str)] ⟨[], t⟩) Q := by
  have g1 : ¬ (1 : Int) < (ws.length : Int) := by omega
  have g2 : ws.length < lim := by show _ < 1000000; omega
  simp [g_are_functions, b_are_functions, g1, g2]
  refine wp_forL_inv (fun i s => ∃ x, s = ⟨[.val (.tup (ws.map .str)), .val (.tup (tk.map .str)), x], t⟩) ⟨_, rfl⟩ ?_ ?_
  · rintro i d s hi ⟨x, rfl⟩
    refine ⟨_, rfl, ?_⟩
    obtain ⟨w, hw, e⟩ := List.mem_map.mp (List.mem_of_getElem? hi)
    subst e
    simp [key_ok, h w hw]
  · rintro s ⟨x, rfl⟩
    simpa using k
end Mi

namespace Mi
open PySem PySem.Spec PyProof.Rows L2
variable {R : List D}
section
variable {s : S} {e : List Slot} {t : List D}
@[simp] theorem wp_runI {c n : Nat} {b : M Fl} {ds : List D} {Q : D → S → Prop} : Wp (runI c n b ds s) Q = Wp (b ⟨.own (.obj c []) :: (ds.map .val ++ List.replicate (n - ds.length) .no), s.t⟩) fun f s' => match f with
    | .nx => (match s'.e[(0 : Nat)]? with | some (.own d) => Q d ⟨[], s'.t⟩ | _ => False)
    | .rt .non => (match s'.e[(0 : Nat)]? with | some (.own d) => Q d ⟨[], s'.t⟩ | _ => False)
    | _ => False := by
  unfold runI endI
  cases b ⟨.own (.obj c []) :: (ds.map .val ++ List.replicate (n - ds.length) .no), s.t⟩ with
  | ok f s' =>
    show Wp (match f with | .nx => _ | .rt .non => _ | _ => _) Q = (match f with | .nx => _ | .rt .non => _ | _ => _)
    cases f with
    | nx => show Wp (match s'.e[(0 : Nat)]? with | some (.own d) => _ | _ => _) Q = _; split <;> simp_all <;> first | rfl | exact fun h => h
    | rt d =>
      cases d with
      | non => show Wp (match s'.e[(0 : Nat)]? with | some (.own d) => _ | _ => _) Q = _; split <;> simp_all <;> first | rfl | exact fun h => h
      | _ => rfl
    | _ => rfl
  | exc x s' => rfl
  | stuck => rfl
@[simp] theorem wp_nMake {g : List D → M D} {m : M (List Loc)} {Q : D → S → Prop} : Wp (nMake g m s) Q = Wp (m s) fun ls s1 => Wp (vals ls s1) fun ds s2 => Wp (callI g ds s2) Q := by
  unfold nMake; (repeat with_reducible refine wp_bndQ fun _ _ => ?_) <;> rfl
@[simp] theorem wp_callI {g : List D → M D} {ds : List D} {Q : D → S → Prop} : Wp (callI g ds ⟨e, t⟩) Q = Wp (g ds ⟨[], t⟩) fun d s' => Q d ⟨e, s'.t⟩ := by
  unfold callI
  cases g ds ⟨[], t⟩ <;> rfl
@[simp] theorem wp_sFldS {c : Nat} {fn : Str} {mv mo : M Loc} {Q : Fl → S → Prop} : Wp (sFldS c fn mv mo s) Q = Wp (mv s) fun lv s1 => Wp (toVal lv s1) fun dv s2 => Wp (mo s2) fun l s3 => Wp (cont l s3) fun d s4 => Wp ((match (match d with | .obj c' fs => if c' = c ∧ fs.length < 1000 then some (D.obj c' (putFD fn dv fs), D.non) else none | _ => none) with
  | some cd => bnd (setc l cd.1) fun _ => ret Fl.nx
  | none => stk) s4) Q := by
  unfold sFldS; (repeat with_reducible refine wp_bndQ fun _ _ => ?_) <;> rfl
end
@[simp] theorem nf1 : (("kept_marks" : Str) = ("kept_ties" : Str)) = False := eq_false (by decide +kernel)
@[simp] theorem nf2 : (("kept_marks" : Str) = ("functions" : Str)) = False := eq_false (by decide +kernel)
@[simp] theorem nf3 : (("kept_ties" : Str) = ("functions" : Str)) = False := eq_false (by decide +kernel)
@[simp] theorem nf4 : (("kept_ties" : Str) = ("kept_marks" : Str)) = False := eq_false (by decide +kernel)
@[simp] theorem nf5 : (("functions" : Str) = ("kept_marks" : Str)) = False := eq_false (by decide +kernel)
@[simp] theorem nf6 : (("functions" : Str) = ("kept_ties" : Str)) = False := eq_false (by decide +kernel)
def tgD (mk ti fu : List Str) : D := .obj 0 [("kept_marks", .tup (mk.map .str)), ("kept_ties", .tup (ti.map .str)), ("functions", .tup (fu.map .str))]
/-- a tongue's parts -/
structure ShOk (mk ti fu : List Str) : Prop where
  mn : ∀ w ∈ mk, NmOk w
  tn : ∀ w ∈ ti, NmOk w
  md : mk.Nodup
  td : ti.Nodup
  ap : ∀ w ∈ ti, w ∉ mk
  m3 : mk.length ≤ 3
  t2 : ti.length ≤ 2
  f1 : fu.length ≤ 1
  fs : ∀ w ∈ fu, w ∈ ti
def shD (mk ti fu : List Str) : D := .tup [.tup (mk.map .str), .tup (ti.map .str), .tup (fu.map .str)]
theorem tongue_ok {mk ti fu : List Str} (h : ShOk mk ti fu) {t : List D} {Q : D → S → Prop} (k : Q (tgD mk ti fu) ⟨[], t⟩) : Wp (g__law_tongue [shD mk ti fu] ⟨[], t⟩) Q := by
  simp [g__law_tongue, b__law_tongue, shD, g_Tongue___init__, b_Tongue___init__]
  refine names_are (tk := []) (by have := h.m3; omega) (by have := h.m3; omega) h.mn h.md (by simp) ?_
  simp
  refine names_are (by have := h.t2; omega) (by have := h.t2; omega) h.tn h.td h.ap ?_
  simp
  refine funs_are h.f1 h.fs ?_
  simp [putFD]
  exact k
def shapeD (p : Nat × Nat × Option Nat) : D := match p with
  | (a, b, none) => .tup [.int a, .int b]
  | (a, b, some c) => .tup [.int a, .int b, .int c]
theorem shape_ok' {shs : List (Nat × Nat × Option Nat)} (hs : ∀ p ∈ shs, p.1 ≤ 3 ∧ p.2.1 ≤ 2 ∧ ∀ c, p.2.2 = some c → c ≤ 1) (h0 : 0 < shs.length) (h1 : shs.length < 1000) {t : List D} (hp : PoolOk R t) {Q : D → S → Prop}
    (k : ∀ mk ti fu t', PoolOk R t' → ShOk mk ti fu → ((∀ p ∈ shs, p.2.2 = none) → fu = []) → Q (shD mk ti fu) ⟨[], t'⟩) : Wp (g__law_shape [.ptr 1, .lst (shs.map shapeD)] ⟨[], t⟩) Q := by
  simp [g__law_shape, b__law_shape]
  refine draw_ok hp (by omega) (by omega) fun d t hd0 hd1 hp => ?_
  obtain ⟨x, ex, mx⟩ := atI_int (xs := shs.map shapeD) hd0 (by simpa using hd1)
  obtain ⟨⟨a, b, c⟩, mp, rfl⟩ := List.mem_map.mp mx
  obtain ⟨ha, hb, hc⟩ := hs _ mp
  simp only at ha hb hc
  have ok : ∀ ws : List Str, ws.length = 5 → (∀ w ∈ ws, NmOk w) → ws.Nodup → ∀ n, n ≤ 1 → ShOk (ws.take a) ((ws.drop 3).take b) (((ws.drop 3).take b).take n) := fun ws hl hn hd n hn1 => {
    mn := fun w h => hn w (List.mem_of_mem_take h)
    tn := fun w h => hn w (List.mem_of_mem_drop (List.mem_of_mem_take h))
    md := hd.sublist (List.take_sublist _ _)
    td := hd.sublist ((List.take_sublist _ _).trans (List.drop_sublist _ _))
    ap := fun w h h2 => by
      have h3 := List.mem_of_mem_take h
      have h4 : w ∈ ws.take 3 := by
        obtain ⟨j, hj, ej⟩ := List.mem_take_iff_getElem.mp h2
        exact List.mem_take_iff_getElem.mpr ⟨j, by omega, ej⟩
      have h5 : (ws.take 3 ++ ws.drop 3).Nodup := by rw [List.take_append_drop]; exact hd
      exact (List.nodup_append.mp h5).2.2 w h4 w h3 rfl
    m3 := by rw [List.length_take]; omega
    t2 := by rw [List.length_take]; omega
    f1 := by rw [List.length_take]; omega
    fs := fun w h => List.mem_of_mem_take h }
  have z1 : (3 : Int).toNat = 3 := rfl
  cases c with
  | none =>
    simp [ex, shapeD]
    refine names_ok hp fun ws t hp hl hn hd => ?_
    have e1 : (3 + (b : Int)).toNat - (3 : Int).toNat = b := by omega
    have e3 : (3 + (b : Int)).toNat - 3 = b := by omega
    simp [cutD_mid, cutD_take, e1, e3, show (0 : Int) ≤ 3 + (b : Int) by omega]
    have := k _ _ _ _ hp (ok ws hl hn hd 0 (by omega)) (fun _ => by simp)
    simpa [shD] using this
  | some c =>
    simp [ex, shapeD]
    refine names_ok hp fun ws t hp hl hn hd => ?_
    have e1 : (3 + (b : Int)).toNat - (3 : Int).toNat = b := by omega
    have e3 : (3 + (b : Int)).toNat - 3 = b := by omega
    simp [cutD_mid, cutD_take, e1, e3, show (0 : Int) ≤ 3 + (b : Int) by omega]
    have := k _ _ _ _ hp (ok ws hl hn hd c (hc c rfl)) (fun z => by have := z _ mp; cases this)
    simpa [shD] using this
theorem shape_ok {shs : List (Nat × Nat × Option Nat)} (hs : ∀ p ∈ shs, p.1 ≤ 3 ∧ p.2.1 ≤ 2 ∧ ∀ c, p.2.2 = some c → c ≤ 1) (h0 : 0 < shs.length) (h1 : shs.length < 1000) {t : List D} (hp : PoolOk R t) {Q : D → S → Prop}
    (k : ∀ mk ti fu t', PoolOk R t' → ShOk mk ti fu → Q (shD mk ti fu) ⟨[], t'⟩) : Wp (g__law_shape [.ptr 1, .lst (shs.map shapeD)] ⟨[], t⟩) Q :=
  shape_ok' hs h0 h1 hp fun mk ti fu t' hp h _ => k mk ti fu t' hp h
end Mi

namespace Mi
open PySem PySem.Spec PyProof.Rows L2
/-! ### sayings -/
def nm : Bool → Str | false => "x" | true => "y"
@[simp] theorem nm_f : nm false = ("x" : Str) := rfl
@[simp] theorem nm_t : nm true = ("y" : Str) := rfl
inductive Sg where
  | tru | mark (m : Str) (x : Bool) | tie (r : Str) (x y : Bool) | same (x y : Bool) | neg (a : Sg) | bin (o : Bool) (a b : Sg) | qu (q x : Bool) (a : Sg)
def opN : Bool → Str | false => "and" | true => "or"
def quN : Bool → Str | false => "each" | true => "some"
def enc : Sg → D
  | .tru => .tup [.str ("true" : Str)]
  | .mark m x => .tup [.str ("mark" : Str), .str m, .str (nm x)]
  | .tie r x y => .tup [.str ("tie" : Str), .str r, .str (nm x), .str (nm y)]
  | .same x y => .tup [.str ("same" : Str), .str (nm x), .str (nm y)]
  | .neg a => .tup [.str ("not" : Str), enc a]
  | .bin o a b => .tup [.str (opN o), enc a, enc b]
  | .qu q x a => .tup [.str (quN q), .str (nm x), enc a]
def fr : Sg → Bool → Bool
  | .tru, _ => false
  | .mark _ x, z => x == z
  | .tie _ x y, z => x == z || y == z
  | .same x y, z => x == z || y == z
  | .neg a, z => fr a z
  | .bin _ a b, z => fr a z || fr b z
  | .qu _ x a, z => fr a z && !(x == z)
def dep : Sg → Nat
  | .neg a => dep a + 1
  | .bin _ a b => max (dep a) (dep b) + 1
  | .qu _ _ a => dep a + 1
  | _ => 1
def siz : Sg → Nat
  | .neg a => siz a + 1
  | .bin _ a b => siz a + siz b + 1
  | .qu _ _ a => siz a + 1
  | _ => 1
def SgIn (mk ti : List Str) : Sg → Prop
  | .mark m _ => m ∈ mk
  | .tie r _ _ => r ∈ ti
  | .neg a => SgIn mk ti a
  | .bin _ a b => SgIn mk ti a ∧ SgIn mk ti b
  | .qu _ _ a => SgIn mk ti a
  | _ => True
def two (p q : Bool) : List D := (if p then [.str ("x" : Str)] else []) ++ (if q then [.str ("y" : Str)] else [])
@[simp] theorem two_ff : two false false = [] := rfl
@[simp] theorem two_tf : two true false = [.str ("x" : Str)] := rfl
@[simp] theorem two_ft : two false true = [.str ("y" : Str)] := rfl
@[simp] theorem two_tt : two true true = [.str ("x" : Str), .str ("y" : Str)] := rfl
def frL (s : Sg) : List D := two (fr s false) (fr s true)
@[simp] theorem cont_enc {a : Sg} {s : S} {Q : D → S → Prop} : Wp (cont (.val (enc a)) s) Q = Q (enc a) s := by cases a <;> rfl
@[simp] theorem tyN_enc {a : Sg} : tyN (enc a) = some (.inl "tuple") := by cases a <;> rfl
@[simp] theorem isa_tuple_tuple : isa_tuple (.inl "tuple") = some true := by decide
@[simp] theorem isa_tuple_str : isa_tuple (.inl "str") = some false := by decide
@[simp] theorem isa_str_str' : isa_str (.inl "str") = some true := by decide
@[simp] theorem isa_str_tuple : isa_str (.inl "tuple") = some false := by decide
@[simp] theorem in_l0 {n : Bool} {w : Str} : inD n (.str w) (.lst []) = some (.bl n) := by cases n <;> rfl
theorem in_g {n : Bool} {w : Str} (ws : List Str) : inD n (.str w) (.lst (ws.map .str)) = some (.bl (n ^^ decide (w ∈ ws))) := by
  cases n
  · rw [in_strs]; simp
  · rw [notin_strs]; simp
@[simp] theorem in_l1 {n : Bool} {w a : Str} : inD n (.str w) (.lst [.str a]) = some (.bl (n ^^ decide (w = a))) := by have := @in_g n w [a]; simpa using this
@[simp] theorem in_l2 {n : Bool} {w a b : Str} : inD n (.str w) (.lst [.str a, .str b]) = some (.bl (n ^^ decide (w = a ∨ w = b))) := by have := @in_g n w [a, b]; simpa using this
@[simp] theorem in_l3 {n : Bool} {w a b c : Str} : inD n (.str w) (.lst [.str a, .str b, .str c]) = some (.bl (n ^^ decide (w = a ∨ w = b ∨ w = c))) := by have := @in_g n w [a, b, c]; simpa using this
@[simp] theorem in_l4 {n : Bool} {w a b c d : Str} : inD n (.str w) (.lst [.str a, .str b, .str c, .str d]) = some (.bl (n ^^ decide (w = a ∨ w = b ∨ w = c ∨ w = d))) := by have := @in_g n w [a, b, c, d]; simpa using this
theorem in_tl {n : Bool} {w : Str} {ds : List D} : inD n (.str w) (.tup ds) = inD n (.str w) (.lst ds) := rfl
theorem cutD_from {ds : List D} {k : Int} (h : 0 ≤ k) : cutD ds (some k) none = ds.drop k.toNat := by
  unfold cutD HT.sIx
  simp only
  rw [if_neg (by omega)]
  by_cases c : k.toNat ≤ ds.length
  · rw [Nat.min_eq_left c, List.take_of_length_le (by simp)]
  · have e : min k.toNat ds.length = ds.length := by omega
    rw [e, List.drop_length, List.drop_eq_nil_of_le (by omega)]; simp
@[simp] theorem addD_l {xs ys : List D} : addD (.lst xs) (.lst ys) = if xs.length + ys.length ≤ lim then some (.lst (xs ++ ys)) else none := rfl
@[simp] theorem wp_lcL_eq {tt : M Bool} {te : M Loc} {vs : List Nat} {i : Nat} {acc ds : List D} {d : D} {e : List Slot} {t : List D} {Q : D → S → Prop} : Wp (lcL (gN i) tt te vs acc (d :: ds) ⟨e, t⟩) Q =
    (if freeOf e vs = true ∧ i < (wipeE e vs).length then Wp (tt ⟨(wipeE e vs).set i (.val d), t⟩) fun b s2 => if b = true then Wp (te s2) fun l s3 => Wp (toVal l s3) fun d' s4 => if freeOf s4.e vs = true ∧ acc.length < lim then Wp (lcL (gN i) tt te vs (acc ++ [d']) ds ⟨backE e s4.e vs, s4.t⟩) Q else False
      else if freeOf s2.e vs = true then Wp (lcL (gN i) tt te vs acc ds ⟨backE e s2.e vs, s2.t⟩) Q else False else False) := by
  rw [lcL]
  show Wp (if freeOf e vs = true then _ else _) Q = _
  by_cases h1 : freeOf e vs = true
  · rw [if_pos h1]
    by_cases h2 : i < (wipeE e vs).length
    · rw [if_pos ⟨h1, h2⟩]
      have e2 : gN i d ⟨wipeE e vs, t⟩ = some ⟨(wipeE e vs).set i (.val d), t⟩ := if_pos h2
      simp only [e2]
      cases tt ⟨(wipeE e vs).set i (.val d), t⟩ with
      | ok b s2 =>
        cases b with
        | true =>
          show Wp (match (te s2).bind toVal with | .ok d s3 => _ | _ => _) Q = Wp (te s2) _
          cases te s2 with
          | ok l s3 =>
            show Wp (match toVal l s3 with | .ok d s3 => _ | _ => _) Q = Wp (toVal l s3) _
            cases toVal l s3 with
            | ok d' s4 =>
              show Wp (if _ then _ else _) Q = if _ then _ else _
              split <;> rfl
            | exc x s => rfl
            | stuck => rfl
          | exc x s => rfl
          | stuck => rfl
        | false =>
          show Wp (if _ then _ else _) Q = if _ then _ else _
          split <;> rfl
      | exc x s => rfl
      | stuck => rfl
    · rw [if_neg (fun z => h2 z.2)]
      have e2 : gN i d ⟨wipeE e vs, t⟩ = none := if_neg h2
      simp only [e2]
      rfl
  · rw [if_neg h1, if_neg (fun z => h1 z.1)]; rfl
end Mi

namespace Mi
open PySem PySem.Spec PyProof.Rows L2
theorem law_free_ok : ∀ (s : Sg) (n : Nat), dep s ≤ n → ∀ {t : List D} {Q : D → S → Prop}, Wp (g__law_free n [enc s] ⟨[], t⟩) Q = Q (.lst (frL s)) ⟨[], t⟩
  | _, 0, h, t, Q => by rename_i s; cases s <;> simp [dep] at h
  | .tru, n + 1, h, t, Q => by
    simp [g__law_free, b__law_free, enc, cutD_from, freeOf, notOwn, frL, fr, eqD_s, wipeE, backE]
  | .mark m x, n + 1, h, t, Q => by
    cases x <;> simp [g__law_free, b__law_free, enc, cutD_from, freeOf, notOwn, frL, fr, eqD_s, wipeE, backE]
  | .tie r x y, n + 1, h, t, Q => by
    cases x <;> cases y <;> simp [g__law_free, b__law_free, enc, cutD_from, freeOf, notOwn, frL, fr, eqD_s, wipeE, backE, in_tl]
  | .same x y, n + 1, h, t, Q => by
    cases x <;> cases y <;> simp [g__law_free, b__law_free, enc, cutD_from, freeOf, notOwn, frL, fr, eqD_s, wipeE, backE, in_tl]
  | .neg a, n + 1, h, t, Q => by
    have ih := fun {t Q} => law_free_ok a n (by simp [dep] at h; omega) (t := t) (Q := Q)
    simp only [frL] at ih
    simp [g__law_free, b__law_free, enc, cutD_from, freeOf, notOwn, frL, fr, eqD_s, wipeE, backE, ih]
    cases fr a false <;> cases fr a true <;> simp [g__law_free, b__law_free, enc, cutD_from, freeOf, notOwn, frL, fr, eqD_s, wipeE, backE, ih]
  | .bin o a b, n + 1, h, t, Q => by
    have iha := fun {t Q} => law_free_ok a n (by simp [dep] at h; omega) (t := t) (Q := Q)
    have ihb := fun {t Q} => law_free_ok b n (by simp [dep] at h; omega) (t := t) (Q := Q)
    simp only [frL] at iha ihb
    cases o <;> cases h1 : fr a false <;> cases h2 : fr a true <;> cases h3 : fr b false <;> cases h4 : fr b true <;> simp only [h1, h2, h3, h4] at iha ihb <;>
      simp [g__law_free, b__law_free, enc, opN, cutD_from, freeOf, notOwn, frL, fr, eqD_s, wipeE, backE, iha, ihb, h1, h2, h3, h4]
  | .qu q x a, n + 1, h, t, Q => by
    have iha := fun {t Q} => law_free_ok a n (by simp [dep] at h; omega) (t := t) (Q := Q)
    simp only [frL] at iha
    cases q <;> cases x <;> cases h1 : fr a false <;> cases h2 : fr a true <;> simp only [h1, h2] at iha <;>
      simp [g__law_free, b__law_free, enc, quN, cutD_from, freeOf, notOwn, frL, fr, eqD_s, wipeE, backE, iha, h1, h2]
end Mi

namespace Mi
open PySem PySem.Spec PyProof.Rows L2
variable {R : List D}
def nmD (bs : List Bool) : List D := bs.map fun b => .str (nm b)
theorem nm_at {bs : List Bool} {d : Int} (h0 : 0 ≤ d) (h : d < bs.length) : ∃ b, atI (nmD bs) d = some (.str (nm b)) ∧ b ∈ bs := by
  obtain ⟨x, e, m⟩ := atI_int (xs := nmD bs) h0 (by simpa [nmD] using h)
  obtain ⟨b, hb, rfl⟩ := List.mem_map.mp m
  exact ⟨b, e, hb⟩
@[simp] theorem nmD_len {bs : List Bool} : (nmD bs).length = bs.length := by simp [nmD]
theorem str_at {ws : List Str} {d : Int} (h0 : 0 ≤ d) (h : d < ws.length) : ∃ w, atI (ws.map D.str) d = some (.str w) ∧ w ∈ ws := by
  obtain ⟨x, e, m⟩ := atI_int (xs := ws.map D.str) h0 (by simpa using h)
  obtain ⟨b, hb, rfl⟩ := List.mem_map.mp m
  exact ⟨b, e, hb⟩
theorem test_ok {mk ti fu : List Str} (hs : ShOk mk ti fu) {bs : List Bool} (b1 : 1 ≤ bs.length) (b2 : bs.length ≤ 2) {t : List D} (hp : PoolOk R t) {Q : D → S → Prop}
    (k : ∀ s t', PoolOk R t' → SgIn mk ti s → siz s = 1 → dep s = 1 → (∀ x, fr s x = true → x ∈ bs) → Q (enc s) ⟨[], t'⟩) : Wp (g__law_test [.ptr 1, shD mk ti fu, .lst (nmD bs)] ⟨[], t⟩) Q := by
  have km : ∀ m ∈ mk, ∀ b ∈ bs, ∀ t', PoolOk R t' → Q (.tup [.str ("mark" : Str), .str m, .str (nm b)]) ⟨[], t'⟩ := fun m hm b hb t' hp => k (.mark m b) t' hp hm rfl rfl (by intro x hx; simp [fr] at hx; subst hx; exact hb)
  have kt : ∀ m ∈ ti, ∀ b ∈ bs, ∀ c ∈ bs, ∀ t', PoolOk R t' → Q (.tup [.str ("tie" : Str), .str m, .str (nm b), .str (nm c)]) ⟨[], t'⟩ := fun m hm b hb c hc t' hp => k (.tie m b c) t' hp hm rfl rfl (by intro x hx; simp [fr] at hx; rcases hx with hx | hx <;> subst hx <;> assumption)
  have ks : ∀ b ∈ bs, ∀ c ∈ bs, ∀ t', PoolOk R t' → Q (.tup [.str ("same" : Str), .str (nm b), .str (nm c)]) ⟨[], t'⟩ := fun b hb c hc t' hp => k (.same b c) t' hp trivial rfl rfl (by intro x hx; simp [fr] at hx; rcases hx with hx | hx <;> subst hx <;> assumption)
  have ku : ∀ t', PoolOk R t' → Q (.tup [.str ("true" : Str)]) ⟨[], t'⟩ := fun t' hp => k .tru t' hp trivial rfl rfl (by intro x hx; simp [fr] at hx)
  have m3 := hs.m3
  have t2 := hs.t2
  simp [g__law_test, b__law_test, shD]
  refine draw_ok hp (by omega) (by omega) fun d t h0 h1 hp => ?_
  obtain ⟨x, ex, hx⟩ := nm_at h0 h1
  simp [ex]
  refine draw_ok hp (by omega) (by omega) fun d t h0 h1 hp => ?_
  obtain ⟨y, ey, hy⟩ := nm_at h0 h1
  simp [ey]
  refine draw_ok hp (by omega) (by omega) fun d t h0 h1 hp => ?_
  have tiePart : ∀ {Q' : D → S → Prop}, 0 < ti.length → (∀ r ∈ ti, ∀ t', PoolOk R t' → ∀ d, atI (ti.map D.str) d = some (.str r) → Q' (.int d) ⟨[], t'⟩) → Wp (g__law_draw [.ptr 1, .int (ti.length : Int)] ⟨[], t⟩) Q' := fun hl hq => by
    refine draw_ok hp (by omega) (by omega) fun d t h0 h1 hp => ?_
    obtain ⟨w, ew, hw⟩ := str_at (ws := ti) h0 h1
    exact hq w hw t hp d ew
  have markPart : ∀ {Q' : D → S → Prop}, 0 < mk.length → (∀ r ∈ mk, ∀ t', PoolOk R t' → ∀ d, atI (mk.map D.str) d = some (.str r) → Q' (.int d) ⟨[], t'⟩) → Wp (g__law_draw [.ptr 1, .int (mk.length : Int)] ⟨[], t⟩) Q' := fun hl hq => by
    refine draw_ok hp (by omega) (by omega) fun d t h0 h1 hp => ?_
    obtain ⟨w, ew, hw⟩ := str_at (ws := mk) h0 h1
    exact hq w hw t hp d ew
  by_cases hm : 0 < mk.length <;> by_cases hti : 0 < ti.length
  case pos =>
    obtain ⟨m0, e0, hm0⟩ := str_at (ws := mk) (d := 0) (by omega) (by omega)
    obtain ⟨r0, f0, hr0⟩ := str_at (ws := ti) (d := 0) (by omega) (by omega)
    by_cases hb : 1 < (bs.length : Int) <;> by_cases c1 : d < 3 <;> by_cases c2 : d < 6 <;> by_cases c3 : d = 6 <;> by_cases c4 : d = 7 <;> simp [hm, hti, hb, c1, c2, c3, c4, e0, f0] <;>
    first
      | exact ku _ hp
      | exact ks _ hx _ hy _ hp
      | exact km _ hm0 _ hx _ hp
      | exact kt _ hr0 _ hx _ hy _ hp
      | (refine markPart hm fun r hr t' hp d e => ?_; simp [e]; exact km r hr x hx t' hp)
      | (refine tiePart hti fun r hr t' hp d e => ?_; simp [e]; exact kt r hr x hx y hy t' hp)
      | omega
  case neg =>
    obtain ⟨m0, e0, hm0⟩ := str_at (ws := mk) (d := 0) (by omega) (by omega)
    by_cases hb : 1 < (bs.length : Int) <;> by_cases c1 : d < 3 <;> by_cases c2 : d < 6 <;> by_cases c3 : d = 6 <;> by_cases c4 : d = 7 <;> simp [hm, hti, hb, c1, c2, c3, c4, e0] <;>
    first
      | exact ku _ hp
      | exact ks _ hx _ hy _ hp
      | exact km _ hm0 _ hx _ hp
      | (refine markPart hm fun r hr t' hp d e => ?_; simp [e]; exact km r hr x hx t' hp)
      | omega
  case pos =>
    obtain ⟨r0, f0, hr0⟩ := str_at (ws := ti) (d := 0) (by omega) (by omega)
    by_cases hb : 1 < (bs.length : Int) <;> by_cases c1 : d < 3 <;> by_cases c2 : d < 6 <;> by_cases c3 : d = 6 <;> by_cases c4 : d = 7 <;> simp [hm, hti, hb, c1, c2, c3, c4, f0] <;>
    first
      | exact ku _ hp
      | exact ks _ hx _ hy _ hp
      | exact kt _ hr0 _ hx _ hy _ hp
      | (refine tiePart hti fun r hr t' hp d e => ?_; simp [e]; exact kt r hr x hx y hy t' hp)
      | omega
  case neg =>
    by_cases hb : 1 < (bs.length : Int) <;> by_cases c1 : d < 3 <;> by_cases c2 : d < 6 <;> by_cases c3 : d = 6 <;> by_cases c4 : d = 7 <;> simp [hm, hti, hb, c1, c2, c3, c4] <;>
    first
      | exact ku _ hp
      | exact ks _ hx _ hy _ hp
      | omega
theorem quantor_ok {t : List D} (hp : PoolOk R t) {Q : D → S → Prop} (k : ∀ q t', PoolOk R t' → Q (.str (quN q)) ⟨[], t'⟩) : Wp (g__law_quantor [.ptr 1] ⟨[], t⟩) Q := by
  simp [g__law_quantor, b__law_quantor]
  refine draw_ok hp (by omega) (by omega) fun d t h0 h1 hp => ?_
  have : d = 0 ∨ d = 1 := by omega
  rcases this with e | e <;> subst e <;> simp
  · exact k false t hp
  · exact k true t hp
/-- what a drawn saying is -/
structure SgOk (mk ti : List Str) (F : List Bool) (z d : Nat) (s : Sg) : Prop where
  inn : SgIn mk ti s
  sz : siz s ≤ z
  dp : dep s ≤ d
  fv : ∀ x, fr s x = true → x ∈ F
theorem matrix_ok {mk ti fu : List Str} (hs : ShOk mk ti fu) {bs : List Bool} (b1 : 1 ≤ bs.length) (b2 : bs.length ≤ 2) : ∀ (n : Nat) (d : Nat), d < n → ∀ {t : List D} (hp : PoolOk R t) {Q : D → S → Prop}
    (k : ∀ s t', PoolOk R t' → SgOk mk ti bs (2 ^ (d + 1) - 1) (d + 1) s → Q (enc s) ⟨[], t'⟩), Wp (g__law_matrix n [.ptr 1, shD mk ti fu, .lst (nmD bs), .int d] ⟨[], t⟩) Q
  | 0, d, h, t, hp, Q, k => by omega
  | n + 1, d, h, t, hp, Q, k => by
    have ih := matrix_ok hs b1 b2 n
    have p1 : 1 ≤ 2 ^ (d + 1) - 1 := by
      have := Nat.pow_le_pow_right (show 0 < 2 by decide) (show 1 ≤ d + 1 by omega)
      omega
    simp [g__law_matrix, b__law_matrix]
    refine draw_ok hp (by omega) (by omega) fun c t h0 h1 hp => ?_
    cases d with
    | zero =>
      simp
      exact test_ok hs b1 b2 hp fun s t' hp h1 h2 h3 h4 => k s t' hp ⟨h1, by rw [h2]; exact p1, by omega, h4⟩
    | succ d =>
      have e1 : ((d : Int) + 1 = 0) = False := eq_false (by omega)
      have e2 : (d : Int) + 1 - 1 = d := by omega
      have pd : 2 ^ (d + 1 + 1) = 2 * 2 ^ (d + 1) := by rw [Nat.pow_succ, Nat.mul_comm]
      have p2 := Nat.pow_le_pow_right (show 0 < 2 by decide) (show 1 ≤ d + 1 by omega)
      by_cases c1 : c < 2
      · simp [c1, e1]
        exact test_ok hs b1 b2 hp fun s t' hp h1 h2 h3 h4 => k s t' hp ⟨h1, by rw [h2]; exact p1, by omega, h4⟩
      · by_cases c2 : c = 2
        · simp [c1, e1, c2, e2]
          refine ih d (by omega) hp fun s t' hp hs2 => ?_
          exact k (.neg s) t' hp ⟨hs2.inn, by have := hs2.sz; simp only [siz]; omega, by have := hs2.dp; simp only [dep]; omega, hs2.fv⟩
        · simp [c1, e1, c2, e2]
          refine ih d (by omega) hp fun s t' hp hs2 => ?_
          simp
          have c3 : c = 3 ∨ c = 4 ∨ c = 5 := by omega
          rcases c3 with e | e | e <;> subst e <;> simp [e2] <;> refine ih d (by omega) hp fun s2 t' hp hs3 => ?_
          · exact k (.bin false s s2) t' hp ⟨⟨hs2.inn, hs3.inn⟩, by have := hs2.sz; have := hs3.sz; simp only [siz]; omega, by have := hs2.dp; have := hs3.dp; simp only [dep]; omega, fun x hx => by
              simp only [fr, Bool.or_eq_true] at hx
              exact hx.elim (hs2.fv x) (hs3.fv x)⟩
          · exact k (.bin true s s2) t' hp ⟨⟨hs2.inn, hs3.inn⟩, by have := hs2.sz; have := hs3.sz; simp only [siz]; omega, by have := hs2.dp; have := hs3.dp; simp only [dep]; omega, fun x hx => by
              simp only [fr, Bool.or_eq_true] at hx
              exact hx.elim (hs2.fv x) (hs3.fv x)⟩
          · exact k (.bin true s s2) t' hp ⟨⟨hs2.inn, hs3.inn⟩, by have := hs2.sz; have := hs3.sz; simp only [siz]; omega, by have := hs2.dp; have := hs3.dp; simp only [dep]; omega, fun x hx => by
              simp only [fr, Bool.or_eq_true] at hx
              exact hx.elim (hs2.fv x) (hs3.fv x)⟩
end Mi

namespace Mi
open PySem PySem.Spec PyProof.Rows L2
variable {R : List D}
theorem SgOk.mono {mk ti : List Str} {F F' : List Bool} {z d z' d' : Nat} {s : Sg} (h : SgOk mk ti F z d s) (hz : z ≤ z') (hd : d ≤ d') (hF : ∀ x, x ∈ F → x ∈ F' := by first | exact fun _ h => h | (intro x hx; simp at hx ⊢ <;> grind)) : SgOk mk ti F' z' d' s := ⟨h.inn, Nat.le_trans h.sz hz, Nat.le_trans h.dp hd, fun x hx => hF x (h.fv x hx)⟩
theorem SgOk.neg {mk ti : List Str} {F : List Bool} {z d : Nat} {s : Sg} (h : SgOk mk ti F z d s) : SgOk mk ti F (z + 1) (d + 1) (.neg s) := ⟨h.inn, Nat.succ_le_succ h.sz, Nat.succ_le_succ h.dp, h.fv⟩
theorem SgOk.qu {mk ti : List Str} {F : List Bool} {z d : Nat} {s : Sg} (h : SgOk mk ti F z d s) (q x : Bool) : SgOk mk ti (F.filter fun y => !(x == y)) (z + 1) (d + 1) (.qu q x s) := ⟨h.inn, Nat.succ_le_succ h.sz, Nat.succ_le_succ h.dp, fun y hy => by
  simp only [fr, Bool.and_eq_true] at hy
  exact List.mem_filter.mpr ⟨h.fv y hy.1, hy.2⟩⟩
theorem SgOk.bin {mk ti : List Str} {F F' : List Bool} {z d z' d' : Nat} {s s' : Sg} (h : SgOk mk ti F z d s) (h' : SgOk mk ti F' z' d' s') (o : Bool) : SgOk mk ti (F ++ F') (z + z' + 1) (max d d' + 1) (.bin o s s') :=
  ⟨⟨h.inn, h'.inn⟩, by have := h.sz; have := h'.sz; simp only [siz]; omega, by have := h.dp; have := h'.dp; simp only [dep]; omega, fun x hx => by
    simp only [fr, Bool.or_eq_true] at hx
    exact List.mem_append.mpr (hx.imp (h.fv x) (h'.fv x))⟩
@[simp] theorem eqD_nm {b : Bool} : eqD false (.str (nm b)) (.str ("x" : Str)) = some (.bl (!b)) := by cases b <;> simp [eqD_s]
@[simp] theorem at_other {b : Bool} : atI ([.str ("x" : Str), .str ("y" : Str)] : List D) (if b = false then 1 else 0) = some (.str (nm (!b))) := by cases b <;> simp
theorem op_at {d : Int} (h0 : 0 ≤ d) (h1 : d < 2) : ∃ o, atI ([.str ("and" : Str), .str ("or" : Str)] : List D) d = some (.str (opN o)) := by
  have : d = 0 ∨ d = 1 := by omega
  rcases this with e | e <;> subst e
  · exact ⟨false, by simp [opN]⟩
  · exact ⟨true, by simp [opN]⟩
theorem xy_at {d : Int} (h0 : 0 ≤ d) (h1 : d < 2) : ∃ o, atI ([.str ("x" : Str), .str ("y" : Str)] : List D) d = some (.str (nm o)) := by
  have : d = 0 ∨ d = 1 := by omega
  rcases this with e | e <;> subst e
  · exact ⟨false, by simp⟩
  · exact ⟨true, by simp⟩
theorem one_ok {mk ti fu : List Str} (hs : ShOk mk ti fu) (b : Bool) {p z : Nat} (hz : p ≤ 1 ∧ 13 ≤ z ∨ 18 ≤ z) {t : List D} (hp : PoolOk R t) {Q : D → S → Prop}
    (k : ∀ s t', PoolOk R t' → SgOk mk ti [b] z 7 s → Q (enc s) ⟨[], t'⟩) : Wp (g__law_one [.ptr 1, shD mk ti fu, .str (nm b), .int p] ⟨[], t⟩) Q := by
  have m1 : ∀ (d : Nat), d < 5 → ∀ {t : List D} (hp : PoolOk R t) {Q : D → S → Prop} (k : ∀ s t', PoolOk R t' → SgOk mk ti [b] (2 ^ (d + 1) - 1) (d + 1) s → Q (enc s) ⟨[], t'⟩), Wp (g__law_matrix 5 [.ptr 1, shD mk ti fu, .lst [.str (nm b)], .int d] ⟨[], t⟩) Q :=
    fun d hd t hp Q k => matrix_ok hs (bs := [b]) (by simp) (by simp) 5 d hd hp k
  have m2 : ∀ (d : Nat), d < 5 → ∀ {t : List D} (hp : PoolOk R t) {Q : D → S → Prop} (k : ∀ s t', PoolOk R t' → SgOk mk ti [b, !b] (2 ^ (d + 1) - 1) (d + 1) s → Q (enc s) ⟨[], t'⟩), Wp (g__law_matrix 5 [.ptr 1, shD mk ti fu, .lst [.str (nm b), .str (nm (!b))], .int d] ⟨[], t⟩) Q :=
    fun d hd t hp Q k => matrix_ok hs (bs := [b, !b]) (by simp) (by simp) 5 d hd hp k
  have shc : ∀ {s : S} {Q : D → S → Prop}, Wp (cont (.val (shD mk ti fu)) s) Q = Q (shD mk ti fu) s := rfl
  simp [g__law_one, b__law_one]
  by_cases c0 : p = 0
  · simp [c0]
    refine m1 2 (by omega) hp fun s t' hp h => k s t' hp (h.mono (by omega) (by omega))
  · simp [c0]
    refine draw_ok hp (by omega) (by omega) fun d t h0 h1 hp => ?_
    by_cases c1 : d = 0
    · simp [c1]
      exact m1 2 (by omega) hp fun s t' hp h => k s t' hp (h.mono (by omega) (by omega))
    · simp [c1]
      refine m2 2 (by omega) hp fun s1 t hp hs1 => ?_
      have hs0 := hs1
      have hs1 : SgOk mk ti [b, !b] (z - 6) 4 s1 := hs1.mono (by omega) (by omega)
      by_cases c2 : (1 : Int) < p
      · simp [c2]
        refine draw_ok hp (by omega) (by omega) fun d t h0 h1 hp => ?_
        by_cases c3 : 0 < d
        · simp [c3]
          refine quantor_ok hp fun q t hp => ?_
          simp
          refine m2 1 (by omega) hp fun sm t hp hsm => ?_
          simp
          refine draw_ok hp (by omega) (by omega) fun d t h0 h1 hp => ?_
          obtain ⟨o, eo⟩ := op_at h0 h1
          have e3 : D.tup [.str (opN o), enc s1, .tup [.str (quN q), .str (nm b), enc sm]] = enc (.bin o s1 (.qu q b sm)) := rfl
          simp [eo, e3]
          have hz18 : 18 ≤ z := by omega
          have hs1 : SgOk mk ti [b, !b] 7 3 s1 := hs0
          have hb := hs1.bin (hsm.qu q b) o
          refine quantor_ok hp fun q0 t hp => ?_
          obtain ⟨s2, e2, hs2⟩ : ∃ s2, D.tup [.str (quN q0), .str (nm (!b)), enc (.bin o s1 (.qu q b sm))] = enc s2 ∧ SgOk mk ti [b] (z - 5) 5 s2 := ⟨.qu q0 (!b) (.bin o s1 (.qu q b sm)), rfl, (hb.qu q0 (!b)).mono (by omega) (by omega)⟩
          simp [e2]
          refine draw_ok hp (by omega) (by omega) fun d t h0 h1 hp => ?_
          by_cases c4 : d = 0
          · simp [c4]
            exact k s2 t hp (hs2.mono (by omega) (by omega))
          · simp [c4]
            refine draw_ok hp (by omega) (by omega) fun d t h0 h1 hp => ?_
            by_cases c5 : d = 0
            · simp [c5]
              refine draw_ok hp (by omega) (by omega) fun d t h0 h1 hp => ?_
              obtain ⟨o, eo⟩ := op_at h0 h1
              simp [eo]
              refine m1 1 (by omega) hp fun s3 t hp hs3 => ?_
              exact k (.bin o s3 (.neg s2)) t hp ((hs3.bin hs2.neg o).mono (by omega) (by omega))
            · simp [c5]
              refine draw_ok hp (by omega) (by omega) fun d t h0 h1 hp => ?_
              obtain ⟨o, eo⟩ := op_at h0 h1
              simp [eo]
              refine m1 1 (by omega) hp fun s3 t hp hs3 => ?_
              exact k (.bin o s3 s2) t hp ((hs3.bin hs2 o).mono (by omega) (by omega))
        · simp [c3]
          refine quantor_ok hp fun q0 t hp => ?_
          obtain ⟨s2, e2, hs2⟩ : ∃ s2, D.tup [.str (quN q0), .str (nm (!b)), enc (s1)] = enc s2 ∧ SgOk mk ti [b] (z - 5) 5 s2 := ⟨.qu q0 (!b) (s1), rfl, (hs1.qu q0 (!b)).mono (by omega) (by omega)⟩
          simp [e2]
          refine draw_ok hp (by omega) (by omega) fun d t h0 h1 hp => ?_
          by_cases c4 : d = 0
          · simp [c4]
            exact k s2 t hp (hs2.mono (by omega) (by omega))
          · simp [c4]
            refine draw_ok hp (by omega) (by omega) fun d t h0 h1 hp => ?_
            by_cases c5 : d = 0
            · simp [c5]
              refine draw_ok hp (by omega) (by omega) fun d t h0 h1 hp => ?_
              obtain ⟨o, eo⟩ := op_at h0 h1
              simp [eo]
              refine m1 1 (by omega) hp fun s3 t hp hs3 => ?_
              exact k (.bin o s3 (.neg s2)) t hp ((hs3.bin hs2.neg o).mono (by omega) (by omega))
            · simp [c5]
              refine draw_ok hp (by omega) (by omega) fun d t h0 h1 hp => ?_
              obtain ⟨o, eo⟩ := op_at h0 h1
              simp [eo]
              refine m1 1 (by omega) hp fun s3 t hp hs3 => ?_
              exact k (.bin o s3 s2) t hp ((hs3.bin hs2 o).mono (by omega) (by omega))
      · simp [c2]
        refine quantor_ok hp fun q0 t hp => ?_
        obtain ⟨s2, e2, hs2⟩ : ∃ s2, D.tup [.str (quN q0), .str (nm (!b)), enc (s1)] = enc s2 ∧ SgOk mk ti [b] (z - 5) 5 s2 := ⟨.qu q0 (!b) (s1), rfl, (hs1.qu q0 (!b)).mono (by omega) (by omega)⟩
        simp [e2]
        refine draw_ok hp (by omega) (by omega) fun d t h0 h1 hp => ?_
        by_cases c4 : d = 0
        · simp [c4]
          exact k s2 t hp (hs2.mono (by omega) (by omega))
        · simp [c4]
          refine draw_ok hp (by omega) (by omega) fun d t h0 h1 hp => ?_
          by_cases c5 : d = 0
          · simp [c5]
            refine draw_ok hp (by omega) (by omega) fun d t h0 h1 hp => ?_
            obtain ⟨o, eo⟩ := op_at h0 h1
            simp [eo]
            refine m1 1 (by omega) hp fun s3 t hp hs3 => ?_
            exact k (.bin o s3 (.neg s2)) t hp ((hs3.bin hs2.neg o).mono (by omega) (by omega))
          · simp [c5]
            refine draw_ok hp (by omega) (by omega) fun d t h0 h1 hp => ?_
            obtain ⟨o, eo⟩ := op_at h0 h1
            simp [eo]
            refine m1 1 (by omega) hp fun s3 t hp hs3 => ?_
            exact k (.bin o s3 s2) t hp ((hs3.bin hs2 o).mono (by omega) (by omega))
end Mi

namespace Mi
open PySem PySem.Spec PyProof.Rows L2
variable {R : List D}
theorem closed0_ok {mk ti fu : List Str} (hs : ShOk mk ti fu) {n p z : Nat} (hz : p ≤ 1 ∧ 13 ≤ z ∨ 18 ≤ z) {t : List D} (hp : PoolOk R t) {Q : D → S → Prop}
    (k : ∀ s t', PoolOk R t' → SgOk mk ti [] (z + 1) 8 s → Q (enc s) ⟨[], t'⟩) : Wp (g__law_closed (n + 1) [.ptr 1, shD mk ti fu, .int p, .int 0] ⟨[], t⟩) Q := by
  have fin : ∀ {t : List D} (hp : PoolOk R t) (b : Bool) {Q' : D → S → Prop}, (∀ s t', PoolOk R t' → SgOk mk ti [b] z 7 s → Q' (enc s) ⟨[], t'⟩) → Wp (g__law_one [.ptr 1, shD mk ti fu, .str (nm b), .int p] ⟨[], t⟩) Q' := fun hp b Q' h => one_ok hs b hz hp h
  simp [g__law_closed, b__law_closed]
  refine draw_ok hp (by omega) (by omega) fun c t h0 h1 hp => ?_
  by_cases c1 : c = 0 <;> by_cases c2 : c < 3 <;> simp [c1, c2] <;>
  (refine draw_ok hp (by omega) (by omega) fun d t h0 h1 hp => ?_
   obtain ⟨b, eb⟩ := xy_at h0 h1
   simp [eb]
   refine quantor_ok hp fun q t hp => ?_
   simp
   exact fin hp b fun s t hp h => k (.qu q b s) t hp ((h.qu q b).mono (by omega) (by omega)))
theorem closed1_ok {mk ti fu : List Str} (hs : ShOk mk ti fu) {n : Nat} {t : List D} (hp : PoolOk R t) {Q : D → S → Prop}
    (k : ∀ s t', PoolOk R t' → SgOk mk ti [] 29 9 s → Q (enc s) ⟨[], t'⟩) : Wp (g__law_closed (n + 2) [.ptr 1, shD mk ti fu, .int 2, .int 1] ⟨[], t⟩) Q := by
  have fin : ∀ {t : List D} (hp : PoolOk R t) (b : Bool) {Q' : D → S → Prop}, (∀ s t', PoolOk R t' → SgOk mk ti [b] 18 7 s → Q' (enc s) ⟨[], t'⟩) → Wp (g__law_one [.ptr 1, shD mk ti fu, .str (nm b), .int 2] ⟨[], t⟩) Q' := fun hp b Q' h => one_ok hs b (.inr (by omega)) hp h
  have cl1 : ∀ {t : List D} (hp : PoolOk R t) {Q' : D → S → Prop}, (∀ s t', PoolOk R t' → SgOk mk ti [] 14 8 s → Q' (enc s) ⟨[], t'⟩) → Wp (g__law_closed (n + 1) [.ptr 1, shD mk ti fu, .int 1, .int 0] ⟨[], t⟩) Q' := fun hp Q' h => closed0_ok hs (p := 1) (z := 13) (.inl ⟨by omega, by omega⟩) hp h
  have cl2 : ∀ {t : List D} (hp : PoolOk R t) {Q' : D → S → Prop}, (∀ s t', PoolOk R t' → SgOk mk ti [] 19 8 s → Q' (enc s) ⟨[], t'⟩) → Wp (g__law_closed (n + 1) [.ptr 1, shD mk ti fu, .int 2, .int 0] ⟨[], t⟩) Q' := fun hp Q' h => closed0_ok hs (p := 2) (z := 18) (.inr (by omega)) hp h
  rw [g__law_closed]
  simp [b__law_closed, fdivD_i]
  refine draw_ok hp (by omega) (by omega) fun c t h0 h1 hp => ?_
  by_cases c1 : c = 0
  · simp [c1]
    exact cl2 hp fun s t hp h => k (.neg s) t hp (h.neg.mono (by omega) (by omega))
  · by_cases c2 : c < 3
    · simp [c1, c2, fdivD_i]
      refine cl1 hp fun s1 t hp hs1 => ?_
      simp
      refine draw_ok hp (by omega) (by omega) fun d t h0 h1 hp => ?_
      obtain ⟨o, eo⟩ := op_at h0 h1
      simp [eo, fdivD_i]
      exact cl1 hp fun s2 t hp hs2 => k (.bin o s1 s2) t hp ((hs1.bin hs2 o).mono (by omega) (by omega))
    · simp [c1, c2]
      refine draw_ok hp (by omega) (by omega) fun d t h0 h1 hp => ?_
      obtain ⟨b, eb⟩ := xy_at h0 h1
      simp [eb]
      refine quantor_ok hp fun q t hp => ?_
      simp
      exact fin hp b fun s t hp h => k (.qu q b s) t hp ((h.qu q b).mono (by omega) (by omega))
end Mi

namespace Mi
open PySem PySem.Spec PyProof.Rows L2
variable {R : List D}
/-! ### closed sayings of any room -/
theorem closed_ok {mk ti fu : List Str} (hs : ShOk mk ti fu) : ∀ (r n : Nat) (p : Int), r < n → (p = 0 ∨ p = 1 ∨ p = 2) → ∀ {t : List D} (hp : PoolOk R t) {Q : D → S → Prop}
    (k : ∀ s t', PoolOk R t' → SgOk mk ti [] (20 * 2 ^ r - 1) (8 + r) s → Q (enc s) ⟨[], t'⟩), Wp (g__law_closed n [.ptr 1, shD mk ti fu, .int p, .int r] ⟨[], t⟩) Q
  | r, 0, p, hr, hq, t, hp, Q, k => by omega
  | 0, n + 1, p, hr, hq, t, hp, Q, k => by
    rcases hq with e | e | e <;> subst e
    · exact closed0_ok hs (p := 0) (z := 13) (.inl ⟨by omega, by omega⟩) hp fun s t' hp h => k s t' hp (h.mono (by omega) (by omega))
    · exact closed0_ok hs (p := 1) (z := 13) (.inl ⟨by omega, by omega⟩) hp fun s t' hp h => k s t' hp (h.mono (by omega) (by omega))
    · exact closed0_ok hs (p := 2) (z := 18) (.inr (by omega)) hp fun s t' hp h => k s t' hp (h.mono (by omega) (by omega))
  | r + 1, n + 1, p, hr, hq, t, hp, Q, k => by
    have ih := fun (p : Int) hq {t} (hp : PoolOk R t) {Q : D → S → Prop} => closed_ok hs r n p (by omega) hq hp (Q := Q)
    have ih0 := fun (p : Int) hq {t} (hp : PoolOk R t) {Q : D → S → Prop} => closed_ok hs 0 n p (by omega) hq hp (Q := Q)
    have pw : 2 ^ (r + 1) = 2 * 2 ^ r := by rw [Nat.pow_succ, Nat.mul_comm]
    have p1 := Nat.one_le_two_pow (n := r)
    have fin : ∀ {t : List D} (hp : PoolOk R t) (b : Bool) {Q' : D → S → Prop}, (∀ s t', PoolOk R t' → SgOk mk ti [b] 18 7 s → Q' (enc s) ⟨[], t'⟩) → Wp (g__law_one [.ptr 1, shD mk ti fu, .str (nm b), .int p] ⟨[], t⟩) Q' := fun hp b Q' h => by
      rcases hq with e | e | e <;> subst e
      · exact one_ok hs b (p := 0) (.inr (by omega)) hp h
      · exact one_ok hs b (p := 1) (.inr (by omega)) hp h
      · exact one_ok hs b (p := 2) (.inr (by omega)) hp h
    have e1 : ((r : Int) + 1) - 1 = r := by omega
    have e0 : (0 : Int) < (r : Int) + 1 := by omega
    have q1 : p / 2 = 0 ∨ p / 2 = 1 ∨ p / 2 = 2 := by omega
    have q2 : p - p / 2 = 0 ∨ p - p / 2 = 1 ∨ p - p / 2 = 2 := by omega
    rw [g__law_closed]
    simp [b__law_closed, fdivD_i, e1, e0]
    refine draw_ok hp (by omega) (by omega) fun c t h0 h1 hp => ?_
    by_cases c1 : c = 0
    · simp [c1]
      exact ih p hq hp fun s t hp h => k (.neg s) t hp (h.neg.mono (by omega) (by omega))
    · by_cases c2 : c < 3
      · simp [c1, c2, fdivD_i, e1]
        refine ih _ q1 hp fun s1 t hp hs1 => ?_
        simp
        refine draw_ok hp (by omega) (by omega) fun d t h0 h1 hp => ?_
        obtain ⟨o, eo⟩ := op_at h0 h1
        simp [eo, fdivD_i]
        exact ih0 _ q2 hp fun s2 t hp hs2 => k (.bin o s1 s2) t hp ((hs1.bin hs2 o).mono (by omega) (by omega))
      · simp [c1, c2]
        refine draw_ok hp (by omega) (by omega) fun d t h0 h1 hp => ?_
        obtain ⟨b, eb⟩ := xy_at h0 h1
        simp [eb]
        refine quantor_ok hp fun q t hp => ?_
        simp
        exact fin hp b fun s t hp h => k (.qu q b s) t hp ((h.qu q b).mono (by omega) (by omega))
end Mi

namespace Mi
open PySem PySem.Spec PyProof.Rows L2
@[simp] theorem NAMES_at : NAMES_ds = [.str ("x" : Str), .str ("y" : Str)] := rfl
@[simp] theorem BINDING_at : BINDING_ds = [.str ("each" : Str), .str ("some" : Str)] := rfl
@[simp] theorem JOINING_at : JOINING_ds = [.str ("and" : Str), .str ("or" : Str)] := rfl
@[simp] theorem dic_nil : D.dic [] = dk [] := rfl
@[simp] theorem set_dkb {w : Str} {ws : List Str} : setD (dk ws) (.str w) (.bl true) = if ws.length < lim then some (dk (addW ws w)) else none := by
  split
  · exact set_dk (by assumption)
  · show (if _ < lim then _ else _) = _
    rename_i h
    rw [if_neg (by rw [List.length_map]; exact h)]
end Mi

namespace Mi
open PySem PySem.Spec PyProof.Rows L2
theorem free_names_ok : ∀ (s : Sg) (n : Nat), dep s ≤ n → ∀ {t : List D} {Q : D → S → Prop}, Wp (g_free_names n [enc s] ⟨[], t⟩) Q = Q (.tup (frL s)) ⟨[], t⟩
  | _, 0, h, t, Q => by rename_i s; cases s <;> simp [dep] at h
  | .tru, n + 1, h, t, Q => by
    simp [g_free_names, b_free_names, g_own_names, b_own_names, g_sayings_in, b_sayings_in, enc, opN, quN, cutD_from, freeOf, notOwn, frL, fr, eqD_s, wipeE, backE, in_tl, addW]
  | .mark m x, n + 1, h, t, Q => by
    cases x <;> simp [g_free_names, b_free_names, g_own_names, b_own_names, g_sayings_in, b_sayings_in, enc, opN, quN, cutD_from, freeOf, notOwn, frL, fr, eqD_s, wipeE, backE, in_tl, addW]
  | .tie r x y, n + 1, h, t, Q => by
    cases x <;> cases y <;> simp [g_free_names, b_free_names, g_own_names, b_own_names, g_sayings_in, b_sayings_in, enc, opN, quN, cutD_from, freeOf, notOwn, frL, fr, eqD_s, wipeE, backE, in_tl, addW]
  | .same x y, n + 1, h, t, Q => by
    cases x <;> cases y <;> simp [g_free_names, b_free_names, g_own_names, b_own_names, g_sayings_in, b_sayings_in, enc, opN, quN, cutD_from, freeOf, notOwn, frL, fr, eqD_s, wipeE, backE, in_tl, addW]
  | .neg a, n + 1, h, t, Q => by
    have ih := fun {t Q} => free_names_ok a n (by simp [dep] at h; omega) (t := t) (Q := Q)
    simp only [frL] at ih
    cases h1 : fr a false <;> cases h2 : fr a true <;> simp only [h1, h2] at ih <;>
      simp [g_free_names, b_free_names, g_own_names, b_own_names, g_sayings_in, b_sayings_in, enc, opN, quN, cutD_from, freeOf, notOwn, frL, fr, eqD_s, wipeE, backE, in_tl, addW, ih, h1, h2]
  | .bin o a b, n + 1, h, t, Q => by
    have iha := fun {t Q} => free_names_ok a n (by simp [dep] at h; omega) (t := t) (Q := Q)
    have ihb := fun {t Q} => free_names_ok b n (by simp [dep] at h; omega) (t := t) (Q := Q)
    simp only [frL] at iha ihb
    cases o <;> cases h1 : fr a false <;> cases h2 : fr a true <;> cases h3 : fr b false <;> cases h4 : fr b true <;> simp only [h1, h2, h3, h4] at iha ihb <;>
      simp [g_free_names, b_free_names, g_own_names, b_own_names, g_sayings_in, b_sayings_in, enc, opN, quN, cutD_from, freeOf, notOwn, frL, fr, eqD_s, wipeE, backE, in_tl, addW, iha, ihb, h1, h2, h3, h4]
  | .qu q x a, n + 1, h, t, Q => by
    have iha := fun {t Q} => free_names_ok a n (by simp [dep] at h; omega) (t := t) (Q := Q)
    simp only [frL] at iha
    cases q <;> cases x <;> cases h1 : fr a false <;> cases h2 : fr a true <;> simp only [h1, h2] at iha <;>
      simp [g_free_names, b_free_names, g_own_names, b_own_names, g_sayings_in, b_sayings_in, enc, opN, quN, cutD_from, freeOf, notOwn, frL, fr, eqD_s, wipeE, backE, in_tl, addW, iha, h1, h2]
end Mi

namespace Mi
open PySem PySem.Spec PyProof.Rows L2
def kids : Sg → List Sg
  | .neg a => [a]
  | .bin _ a b => [a, b]
  | .qu _ _ a => [a]
  | _ => []
@[simp] theorem cont_tg {mk ti fu : List Str} {s : S} {Q : D → S → Prop} : Wp (cont (.val (tgD mk ti fu)) s) Q = Q (tgD mk ti fu) s := rfl
@[simp] theorem cls_tg {mk ti fu : List Str} {s : S} : isCls 0 (tgD mk ti fu) s = true := rfl
@[simp] theorem fld_mk {mk ti fu : List Str} : fldD 0 ("kept_marks" : Str) (tgD mk ti fu) = some (.tup (mk.map .str)) := by simp [tgD, fldD]
@[simp] theorem fld_ti {mk ti fu : List Str} : fldD 0 ("kept_ties" : Str) (tgD mk ti fu) = some (.tup (ti.map .str)) := by
  have e : (("kept_ties" : Str) == ("kept_marks" : Str)) = false := by decide +kernel
  simp [tgD, fldD, List.lookup, e]
@[simp] theorem marks_ok {mk ti fu : List Str} {t : List D} {Q : D → S → Prop} : Wp (g_Tongue_marks [tgD mk ti fu] ⟨[], t⟩) Q = Q (.tup (mk.map .str)) ⟨[], t⟩ := by
  simp [g_Tongue_marks, b_Tongue_marks]
@[simp] theorem ties_ok {mk ti fu : List Str} {t : List D} {Q : D → S → Prop} : Wp (g_Tongue_ties [tgD mk ti fu] ⟨[], t⟩) Q = Q (.tup (ti.map .str)) ⟨[], t⟩ := by
  simp [g_Tongue_ties, b_Tongue_ties]
@[simp] theorem key_ok' {w : Str} {ws : List Str} {t : List D} {Q : D → S → Prop} : Wp (g_is_key [.str w, .tup (ws.map .str)] ⟨[], t⟩) Q = Q (.bl (decide (w ∈ ws))) ⟨[], t⟩ := key_ok
@[simp] theorem name_ok {b : Bool} {t : List D} {Q : D → S → Prop} : Wp (g_is_name [.str (nm b)] ⟨[], t⟩) Q = Q (.bl true) ⟨[], t⟩ := by
  have e : D.tup [.str ("x" : Str), .str ("y" : Str)] = .tup ([("x" : Str), ("y" : Str)].map .str) := rfl
  simp [g_is_name, b_is_name, e, -List.map_cons, -List.map_nil]
  cases b <;> simp
theorem parts_ok {mk ti fu : List Str} {s : Sg} (h : SgIn mk ti s) {t : List D} {Q : D → S → Prop} : Wp (g_parts_of [tgD mk ti fu, enc s] ⟨[], t⟩) Q = Q (.lst ((kids s).map enc)) ⟨[], t⟩ := by
  cases s with
  | tru => simp [g_parts_of, b_parts_of, g_is_test, b_is_test, g_is_headed, b_is_headed, g_is_tuple, b_is_tuple, enc, kids, eqD_s]
  | mark m x => simp [g_parts_of, b_parts_of, g_is_test, b_is_test, g_is_headed, b_is_headed, g_is_tuple, b_is_tuple, enc, kids, eqD_s, show m ∈ mk from h]
  | tie m x y => simp [g_parts_of, b_parts_of, g_is_test, b_is_test, g_is_headed, b_is_headed, g_is_tuple, b_is_tuple, enc, kids, eqD_s, show m ∈ ti from h]
  | same x y => simp [g_parts_of, b_parts_of, g_is_test, b_is_test, g_is_headed, b_is_headed, g_is_tuple, b_is_tuple, enc, kids, eqD_s]
  | neg a => simp [g_parts_of, b_parts_of, g_is_test, b_is_test, g_is_headed, b_is_headed, g_is_tuple, b_is_tuple, enc, kids, eqD_s]
  | bin o a b => cases o <;> simp [g_parts_of, b_parts_of, g_is_test, b_is_test, g_is_headed, b_is_headed, g_is_tuple, b_is_tuple, enc, opN, kids, eqD_s, in_tl]
  | qu q x a => cases q <;> simp [g_parts_of, b_parts_of, g_is_test, b_is_test, g_is_headed, b_is_headed, g_is_tuple, b_is_tuple, enc, quN, kids, eqD_s, in_tl]
end Mi

namespace Mi
open PySem PySem.Spec PyProof.Rows L2
def isBody : M Fl := (sSeq (sAsg (gT (gsC (gN 6) (gsC (gN 7) gsN)) 2) (eMu isLst popD (vr 2) aNil))
    (sSeq (sAug 3 addI (kk (.int (1 : Int))))
    (sSeq (sAsg (gN 4) (eCall g_parts_of (aCons (vr 0) (aCons (vr 6) aNil))))
    (sSeq (sIf (mOr (tstB (op2 (isNonD false) (vr 4) (kk .non))) (mOr (tstB (op2 (cmpD fun i j => decide (j < i)) (vr 3) (kk (.int (100 : Int))))) (tstB (op2 (cmpD fun i j => decide (j < i)) (vr 7) (kk (.int (20 : Int)))))))
    (sRet (kk (.bl false)))
    sNx)
    (sFor (iSeq (vr 4)) (gN 5)
    (sExpr (eMu isLst appD (vr 2) (aCons (eTup (aCons (vr 5) (aCons (op2 addD (vr 7) (kk (.int (1 : Int)))) aNil))) aNil))))))))
def stD (p : Sg × Nat) : D := .tup [enc p.1, .int p.2]
def szs (l : List (Sg × Nat)) : Nat := (l.map fun p => siz p.1).sum
theorem siz_pos (s : Sg) : 1 ≤ siz s := by cases s <;> simp [siz]
theorem szs_app (a b : List (Sg × Nat)) : szs (a ++ b) = szs a + szs b := by simp [szs]
theorem szs_kids (s : Sg) (d : Nat) : szs ((kids s).map fun x => (x, d)) + 1 = siz s := by
  cases s <;> simp [kids, szs, siz] <;> omega
theorem dep_kids {s x : Sg} (h : x ∈ kids s) : dep x + 1 ≤ dep s := by
  cases s with
  | neg a => simp only [kids, List.mem_singleton] at h; subst h; simp [dep]
  | qu q y a => simp only [kids, List.mem_singleton] at h; subst h; simp [dep]
  | bin o a b =>
    simp only [kids, List.mem_cons, List.not_mem_nil, or_false] at h
    rcases h with h | h <;> subst h <;> simp only [dep] <;> omega
  | _ => simp [kids] at h
theorem in_kids {mk ti : List Str} {s x : Sg} (hi : SgIn mk ti s) (h : x ∈ kids s) : SgIn mk ti x := by
  cases s with
  | neg a => simp only [kids, List.mem_singleton] at h; subst h; exact hi
  | qu q y a => simp only [kids, List.mem_singleton] at h; subst h; exact hi
  | bin o a b =>
    simp only [kids, List.mem_cons, List.not_mem_nil, or_false] at h
    rcases h with h | h <;> subst h
    · exact hi.1
    · exact hi.2
  | _ => simp [kids] at h
theorem szs_len : ∀ l : List (Sg × Nat), l.length ≤ szs l
  | [] => Nat.le_refl _
  | p :: l => by
    have := szs_len l
    have := siz_pos p.1
    simp only [szs, List.map_cons, List.sum_cons, List.length_cons] at *
    omega
theorem is_loop {mk ti fu : List Str} {v : D} {t : List D} {Q : Fl → S → Prop} (kQ : ∀ k s4 s5 s6 s7, Q .nx ⟨[.val (tgD mk ti fu), .val v, .own (.lst []), .val (.int k), s4, s5, s6, s7], t⟩) : ∀ (n : Nat) (l : List (Sg × Nat)) (k : Nat) (s4 s5 s6 s7 : Slot),
    szs l < n → k + szs l ≤ 100 → (∀ p ∈ l, p.2 + dep p.1 ≤ 21 ∧ SgIn mk ti p.1) → Wp (whF (tst (vr 2)) isBody n ⟨[.val (tgD mk ti fu), .val v, .own (.lst (l.map stD)), .val (.int k), s4, s5, s6, s7], t⟩) Q
  | 0, l, k, s4, s5, s6, s7, hn, hk, hl => by omega
  | n + 1, l, k, s4, s5, s6, s7, hn, hk, hl => by
    have ih := is_loop kQ n
    rw [wp_whF]
    rcases List.eq_nil_or_concat l with e | ⟨l', p, e⟩
    · subst e
      simp
      exact kQ _ _ _ _ _
    · obtain ⟨s, d⟩ := p
      rw [List.concat_eq_append] at e
      subst e
      have h1 : d + dep s ≤ 21 ∧ SgIn mk ti s := hl (s, d) (by simp)
      have hin : SgIn mk ti s := h1.2
      have hz := szs_kids s (d + 1)
      have hsz : szs (l' ++ [(s, d)]) = szs l' + siz s := by simp [szs]
      have hdp : 1 ≤ dep s := by cases s <;> simp [dep]
      have hpos := siz_pos s
      have g1 : ¬ (100 : Int) < (k : Int) + 1 := by omega
      have g2 : ¬ (20 : Int) < (d : Int) := by omega
      have pe : popD (.lst (l'.map stD ++ [.tup [enc s, .int d]])) [] = some (.lst (l'.map stD), .tup [enc s, .int d]) := by
        simp [popD]
      have lk : (kids s).length < lim := by
        have : (kids s).length ≤ 2 := by cases s <;> simp [kids]
        show _ < 1000000; omega
      simp [isBody, isLst, stD, pe, parts_ok hin, isNonD, g1, g2, lk]
      have ll := szs_len l'
      have lk2 : (kids s).length ≤ 2 := by cases s <;> simp [kids]
      refine wp_forL_inv (fun i st => ∃ x5, st = ⟨[.val (tgD mk ti fu), .val v, .own (.lst ((l' ++ ((kids s).take i).map fun x => (x, d + 1)).map stD)), .val (.int ((k : Int) + 1)), .val (.lst ((kids s).map enc)), x5, .val (enc s), .val (.int d)], t⟩) ⟨s5, by simp⟩ ?_ ?_
      · rintro i y st hi ⟨x5, rfl⟩
        refine ⟨_, rfl, ?_⟩
        rw [List.getElem?_map] at hi
        obtain ⟨x, hx, e⟩ := Option.map_eq_some_iff.mp hi
        subst e
        have il := (List.getElem?_eq_some_iff.mp hx).1
        have tk : (kids s).take (i + 1) = (kids s).take i ++ [x] := by rw [List.take_succ, hx]; rfl
        have ln : (l'.length + min i (kids s).length) < lim := by show _ < 1000000; omega
        simp [isLst, appD, ln, tk, stD]
      · rintro st ⟨x5, rfl⟩
        rw [List.length_map, List.take_length]
        rw [nxtF_nx]
        have hh : ((k : Int) + 1) = ((k + 1 : Nat) : Int) := rfl
        rw [hh]
        refine ih (l' ++ (kids s).map fun x => (x, d + 1)) (k + 1) _ _ _ _ (by rw [szs_app]; omega) (by rw [szs_app]; omega) fun p hp => ?_
        rcases List.mem_append.mp hp with h | h
        · exact hl p (List.mem_append_left _ h)
        · obtain ⟨x, hx, rfl⟩ := List.mem_map.mp h
          have := dep_kids hx
          exact ⟨by show d + 1 + dep x ≤ 21; omega, in_kids hin hx⟩
theorem is_ok {mk ti fu : List Str} {s : Sg} (hi : SgIn mk ti s) (hz : siz s ≤ 100) (hd : dep s ≤ 20) {t : List D} {Q : D → S → Prop} (k : Q (.bl true) ⟨[], t⟩) : Wp (g_is_saying [tgD mk ti fu, enc s] ⟨[], t⟩) Q := by
  simp [g_is_saying, b_is_saying]
  refine is_loop (fun k' s4 s5 s6 s7 => ?_) lim [(s, 1)] 0 _ _ _ _ (by simp [szs]; show _ < 1000000; omega) (by simp [szs]; omega) (by simp; exact ⟨by omega, hi⟩)
  simpa using k
end Mi

/-! the rules of runs for runs that may raise -/
namespace Mi
open PySem PySem.Spec PyProof.Rows L2
def Wx {α : Type} (XP : Xn → S → Prop) (r : Res α) (Q : α → S → Prop) (_ : Tg Q := .mk) : Prop := match r with
  | .ok a s => Q a s
  | .exc x s => XP x s
  | .stuck => False
def nxtX (XP : Xn → S → Prop) (Q : Fl → S → Prop) (b : M Fl) : Fl → S → Prop := fun f s1 => match f with
  | .nx => Wx XP (b s1) Q
  | f => Q f s1
def nxtXF (XP : Xn → S → Prop) (Q : Fl → S → Prop) (b : M Fl) : Fl → S → Prop := fun f s1 => match f with
  | .nx => Wx XP (b s1) Q
  | .ct => Wx XP (b s1) Q
  | .bk => Q .nx s1
  | .rt d => Q (.rt d) s1
section
variable {XP : Xn → S → Prop} {α β : Type} {s : S} {e : List Slot} {t : List D} {i : Nat} {d : D}
@[simp] theorem wx_ok {a : α} {Q : α → S → Prop} : Wx XP (.ok a s) Q = Q a s := rfl
@[simp] theorem wx_ret {a : α} {Q : α → S → Prop} : Wx XP (ret a s) Q = Q a s := rfl
@[simp] theorem wx_bnd {m : M α} {f : α → M β} {Q : β → S → Prop} : Wx XP (bnd m f s) Q = Wx XP (m s) fun a s1 => Wx XP (f a s1) Q := by
  unfold bnd Res.bind
  cases m s <;> rfl
theorem wx_bndQ {m : M α} {f : α → M β} {Q : β → S → Prop} {Q' : α → S → Prop} (h : ∀ a s1, Wx XP (f a s1) Q = Q' a s1) : Wx XP (bnd m f s) Q = Wx XP (m s) Q' := by
  rw [wx_bnd]
  have : (fun a s1 => Wx XP (f a s1) Q) = Q' := by funext a s1; exact h a s1
  rw [this]
@[simp] theorem wx_opt {d : D} {Q : Loc → S → Prop} : Wx XP (opt (some d) s) Q = Q (.val d) s := rfl
@[simp] theorem wx_op2 {f : D → D → Option D} {ma mb : M Loc} {Q : Loc → S → Prop} : Wx XP (op2 f ma mb s) Q = Wx XP (ma s) fun x s1 => Wx XP (mb s1) fun y s2 => Wx XP (cont x s2) fun dx s3 => Wx XP (cont y s3) fun dy s4 => Wx XP (opt (f dx dy) s4) Q := by
  unfold op2; (repeat with_reducible refine wx_bndQ fun _ _ => ?_) <;> rfl
@[simp] theorem wx_op1 {f : D → Option D} {ma : M Loc} {Q : Loc → S → Prop} : Wx XP (op1 f ma s) Q = Wx XP (ma s) fun x s1 => Wx XP (cont x s1) fun dx s3 => Wx XP (opt (f dx) s3) Q := by
  unfold op1; (repeat with_reducible refine wx_bndQ fun _ _ => ?_) <;> rfl
@[simp] theorem wx_opC {f : List D → Option D} {ma : M (List Loc)} {Q : Loc → S → Prop} : Wx XP (opC f ma s) Q = Wx XP (ma s) fun x s1 => Wx XP (conts x s1) fun dx s3 => Wx XP (opt (f dx) s3) Q := by
  unfold opC; (repeat with_reducible refine wx_bndQ fun _ _ => ?_) <;> rfl
@[simp] theorem wx_aNil {Q : List Loc → S → Prop} : Wx XP (aNil s) Q = Q [] s := rfl
@[simp] theorem wx_aCons {m : M Loc} {ms : M (List Loc)} {Q : List Loc → S → Prop} : Wx XP (aCons m ms s) Q = Wx XP (m s) fun x s1 => Wx XP (ms s1) fun xs s2 => Q (x :: xs) s2 := by
  unfold aCons; (repeat with_reducible refine wx_bndQ fun _ _ => ?_) <;> rfl
@[simp] theorem wx_conts_nil {Q : List D → S → Prop} : Wx XP (conts [] s) Q = Q [] s := rfl
@[simp] theorem wx_conts_cons {l : Loc} {ls : List Loc} {Q : List D → S → Prop} : Wx XP (conts (l :: ls) s) Q = Wx XP (cont l s) fun d s1 => Wx XP (conts ls s1) fun ds s2 => Q (d :: ds) s2 := by
  rw [conts]; (repeat with_reducible refine wx_bndQ fun _ _ => ?_) <;> rfl
@[simp] theorem wx_vals_nil {Q : List D → S → Prop} : Wx XP (vals [] s) Q = Q [] s := rfl
@[simp] theorem wx_vals_cons {l : Loc} {ls : List Loc} {Q : List D → S → Prop} : Wx XP (vals (l :: ls) s) Q = Wx XP (toVal l s) fun d s1 => Wx XP (vals ls s1) fun ds s2 => Q (d :: ds) s2 := by
  rw [vals]; (repeat with_reducible refine wx_bndQ fun _ _ => ?_) <;> rfl
@[simp] theorem wx_toVal {Q : D → S → Prop} : Wx XP (toVal (.val d) s) Q = Q d s := by
  unfold toVal; rfl
@[simp] theorem wx_toOwn {Q : D → S → Prop} : Wx XP (toVal (.own i) ⟨e, t⟩) Q = Wx XP (match e[i]? with | some (.own d) => .ok d ⟨e.set i (.val d), t⟩ | some (.val d) => .ok d ⟨e, t⟩ | _ => .stuck) Q := rfl
@[simp] theorem wx_contOwn {Q : D → S → Prop} : Wx XP (cont (.own i) ⟨e, t⟩) Q = Wx XP (match e[i]? with | some (.own d) => .ok d ⟨e, t⟩ | _ => .stuck) Q := rfl
@[simp] theorem wx_contPtr {Q : D → S → Prop} : Wx XP (cont (.val (.ptr i)) ⟨e, t⟩) Q = Wx XP (match t[i]? with | some d => .ok d ⟨e, t⟩ | none => .stuck) Q := rfl
theorem wx_cont {Q : D → S → Prop} (h : noPtr d = true) : Wx XP (cont (.val d) s) Q = Q d s := by
  cases d <;> first | rfl | cases h
@[simp] theorem wx_contInt {k : Int} {Q : D → S → Prop} : Wx XP (cont (.val (.int k)) s) Q = Q (.int k) s := rfl
@[simp] theorem wx_contStr {k : Str} {Q : D → S → Prop} : Wx XP (cont (.val (.str k)) s) Q = Q (.str k) s := rfl
@[simp] theorem wx_contBl {k : Bool} {Q : D → S → Prop} : Wx XP (cont (.val (.bl k)) s) Q = Q (.bl k) s := rfl
@[simp] theorem wx_contNon {Q : D → S → Prop} : Wx XP (cont (.val .non) s) Q = Q .non s := rfl
@[simp] theorem wx_contTup {k : List D} {Q : D → S → Prop} : Wx XP (cont (.val (.tup k)) s) Q = Q (.tup k) s := rfl
@[simp] theorem wx_contLst {k : List D} {Q : D → S → Prop} : Wx XP (cont (.val (.lst k)) s) Q = Q (.lst k) s := rfl
@[simp] theorem wx_contLck {k : List D} {Q : D → S → Prop} : Wx XP (cont (.val (.lck k)) s) Q = Q (.lck k) s := rfl
@[simp] theorem wx_contDic {k} {Q : D → S → Prop} : Wx XP (cont (.val (.dic k)) s) Q = Q (.dic k) s := rfl
@[simp] theorem wx_contObj {k c} {Q : D → S → Prop} : Wx XP (cont (.val (.obj c k)) s) Q = Q (.obj c k) s := rfl
@[simp] theorem wx_vr {Q : Loc → S → Prop} : Wx XP (vr i ⟨e, t⟩) Q = Wx XP (match e[i]? with | some (.val d) => .ok (.val d) ⟨e, t⟩ | some (.own _) => .ok (.own i) ⟨e, t⟩ | _ => .stuck) Q := rfl
@[simp] theorem wx_kk {Q : Loc → S → Prop} : Wx XP (kk d s) Q = Q (.val d) s := rfl
@[simp] theorem wx_tst {m : M Loc} {Q : Bool → S → Prop} : Wx XP (tst m s) Q = Wx XP (m s) fun x s1 => Wx XP (cont x s1) fun d s2 => Wx XP (match truD d with | some b => .ok b s2 | none => .stuck) Q := by
  unfold tst; (repeat with_reducible refine wx_bndQ fun _ _ => ?_) <;> rfl
@[simp] theorem wx_tstB {m : M Loc} {Q : Bool → S → Prop} : Wx XP (tstB m s) Q = Wx XP (m s) fun x s1 => Wx XP (match x with | .val (.bl b) => .ok b s1 | _ => .stuck) Q := by
  unfold tstB; (repeat with_reducible refine wx_bndQ fun _ _ => ?_) <;> rfl
@[simp] theorem wx_chn {f g : D → D → Option D} {ma mb mc : M Loc} {Q : Loc → S → Prop} : Wx XP (chn f g ma mb mc s) Q = Wx XP (ma s) fun x s1 => Wx XP (mb s1) fun y s2 => Wx XP (cont x s2) fun dx s3 => Wx XP (cont y s3) fun dy s4 => Wx XP (match f dx dy with
  | some (.bl true) => op2 g (ret y) mc s4
  | some (.bl false) => .ok (.val (.bl false)) s4
  | _ => .stuck) Q := by
  unfold chn; (repeat with_reducible refine wx_bndQ fun _ _ => ?_) <;> rfl
@[simp] theorem wx_mAnd {a b : M Bool} {Q : Bool → S → Prop} : Wx XP (mAnd a b s) Q = Wx XP (a s) fun k s1 => Wx XP ((if k = true then b else ret false) s1) Q := by unfold mAnd; (repeat with_reducible refine wx_bndQ fun _ _ => ?_) <;> rfl
@[simp] theorem wx_mOr {a b : M Bool} {Q : Bool → S → Prop} : Wx XP (mOr a b s) Q = Wx XP (a s) fun k s1 => Wx XP ((if k = true then ret true else b) s1) Q := by unfold mOr; (repeat with_reducible refine wx_bndQ fun _ _ => ?_) <;> rfl
@[simp] theorem wx_mNot {a : M Bool} {Q : Bool → S → Prop} : Wx XP (mNot a s) Q = Wx XP (a s) fun k s1 => Q (!k) s1 := by unfold mNot; (repeat with_reducible refine wx_bndQ fun _ _ => ?_) <;> rfl
@[simp] theorem wx_eAnd {a b : M Loc} {Q : Loc → S → Prop} : Wx XP (eAnd a b s) Q = Wx XP (a s) fun x s1 => Wx XP (match x with | .val (.bl true) => b s1 | .val (.bl false) => .ok (.val (.bl false)) s1 | _ => .stuck) Q := by unfold eAnd; (repeat with_reducible refine wx_bndQ fun _ _ => ?_) <;> rfl
@[simp] theorem wx_eOr {a b : M Loc} {Q : Loc → S → Prop} : Wx XP (eOr a b s) Q = Wx XP (a s) fun x s1 => Wx XP (match x with | .val (.bl false) => b s1 | .val (.bl true) => .ok (.val (.bl true)) s1 | _ => .stuck) Q := by unfold eOr; (repeat with_reducible refine wx_bndQ fun _ _ => ?_) <;> rfl
@[simp] theorem wx_eNot {a : M Loc} {Q : Loc → S → Prop} : Wx XP (eNot a s) Q = Wx XP (a s) fun x s1 => Wx XP (match x with | .val (.bl k) => .ok (.val (.bl (!k))) s1 | _ => .stuck) Q := by unfold eNot; (repeat with_reducible refine wx_bndQ fun _ _ => ?_) <;> rfl
@[simp] theorem wx_eIf {c : M Bool} {a b : M Loc} {Q : Loc → S → Prop} : Wx XP (eIf c a b s) Q = Wx XP (c s) fun k s1 => Wx XP ((if k = true then a else b) s1) Q := by unfold eIf; (repeat with_reducible refine wx_bndQ fun _ _ => ?_) <;> rfl
@[simp] theorem wx_eTup {m : M (List Loc)} {Q : Loc → S → Prop} : Wx XP (eTup m s) Q = Wx XP (m s) fun ls s1 => Wx XP (vals ls s1) fun ds s2 => Wx XP (if ds.length ≤ lim then .ok (.val (.tup ds)) s2 else .stuck) Q := by unfold eTup; (repeat with_reducible refine wx_bndQ fun _ _ => ?_) <;> rfl
@[simp] theorem wx_nLst {m : M (List Loc)} {Q : D → S → Prop} : Wx XP (nLst m s) Q = Wx XP (m s) fun ls s1 => Wx XP (vals ls s1) fun ds s2 => Wx XP (if ds.length ≤ lim then .ok (.lst ds) s2 else .stuck) Q := by unfold nLst; (repeat with_reducible refine wx_bndQ fun _ _ => ?_) <;> rfl
@[simp] theorem wx_eFrz {m : M D} {Q : Loc → S → Prop} : Wx XP (eFrz m s) Q = Wx XP (m s) fun d s1 => Q (.val d) s1 := by unfold eFrz; (repeat with_reducible refine wx_bndQ fun _ _ => ?_) <;> rfl
@[simp] theorem wx_ePtr {m : M D} {Q : Loc → S → Prop} : Wx XP (ePtr m s) Q = Wx XP (m s) fun d s1 => Q (.val (.ptr s1.t.length)) ⟨s1.e, s1.t ++ [d]⟩ := by unfold ePtr; (repeat with_reducible refine wx_bndQ fun _ _ => ?_) <;> rfl
@[simp] theorem wx_eCall {g : List D → M D} {m : M (List Loc)} {Q : Loc → S → Prop} : Wx XP (eCall g m s) Q = Wx XP (m s) fun ls s1 => Wx XP (vals ls s1) fun ds s2 => Wx XP (callF g ds s2) Q := by unfold eCall; (repeat with_reducible refine wx_bndQ fun _ _ => ?_) <;> rfl
@[simp] theorem wx_eCallK {pm : {α : Type} → List α → List α} {g : List D → M D} {m : M (List Loc)} {Q : Loc → S → Prop} : Wx XP (eCallK pm g m s) Q = Wx XP (m s) fun ls s1 => Wx XP (vals ls s1) fun ds s2 => Wx XP (callF g (pm ds) s2) Q := by unfold eCallK; (repeat with_reducible refine wx_bndQ fun _ _ => ?_) <;> rfl
@[simp] theorem wx_eSl {m : M Loc} {ml mh : M (Option Int)} {Q : Loc → S → Prop} : Wx XP (eSl m ml mh s) Q = Wx XP (m s) fun l s1 => Wx XP (ml s1) fun lo s2 => Wx XP (mh s2) fun hi s3 => Wx XP (cont l s3) fun c s4 => Wx XP (opt (slD lo hi c) s4) Q := by unfold eSl; (repeat with_reducible refine wx_bndQ fun _ _ => ?_) <;> rfl
@[simp] theorem wx_pNo {Q : Option Int → S → Prop} : Wx XP (pNo s) Q = Q none s := rfl
@[simp] theorem wx_pSo {m : M Loc} {Q : Option Int → S → Prop} : Wx XP (pSo m s) Q = Wx XP (m s) fun l s1 => Wx XP (match l with | .val (.int i) => .ok (some i) s1 | _ => .stuck) Q := by unfold pSo; (repeat with_reducible refine wx_bndQ fun _ _ => ?_) <;> rfl
@[simp] theorem wx_eMe {kd : D → Bool} {f : D → List D → Option D} {mo : M Loc} {ma : M (List Loc)} {Q : Loc → S → Prop} : Wx XP (eMe kd f mo ma s) Q = Wx XP (mo s) fun l s1 => Wx XP (cont l s1) fun c0 s2 => Wx XP ((if kd c0 = true then bnd ma fun ls => bnd (cont l) fun c => bnd (conts ls) fun ds => opt (f c ds) else stk) s2) Q := by unfold eMe; (repeat with_reducible refine wx_bndQ fun _ _ => ?_) <;> rfl
@[simp] theorem wx_eIsi {isa : String ⊕ Nat → Option Bool} {m : M Loc} {Q : Loc → S → Prop} : Wx XP (eIsi isa m s) Q = Wx XP (m s) fun x s1 => Wx XP (cont x s1) fun dx s3 => Wx XP (opt (match tyN dx with | some k => (isa k).map .bl | none => none) s3) Q := by unfold eIsi; exact wx_op1
@[simp] theorem wx_eFld {c : Nat} {fn : Str} {m : M Loc} {Q : Loc → S → Prop} : Wx XP (eFld c fn m s) Q = Wx XP (m s) fun x s1 => Wx XP (cont x s1) fun dx s3 => Wx XP (opt (fldD c fn dx) s3) Q := by unfold eFld; exact wx_op1
@[simp] theorem wx_eInW {neg : Bool} {ws : List Str} {m : M Loc} {Q : Loc → S → Prop} : Wx XP (eInW neg ws m s) Q = Wx XP (m s) fun x s1 => Wx XP (cont x s1) fun dx s3 => Wx XP (opt (inWD neg ws dx) s3) Q := by unfold eInW; (repeat with_reducible refine wx_bndQ fun _ _ => ?_) <;> rfl
@[simp] theorem wx_eProp {c : Nat} {g : List D → M D} {m : M Loc} {Q : Loc → S → Prop} : Wx XP (eProp c g m s) Q = Wx XP (m s) fun l s1 => Wx XP (toVal l s1) fun d s2 => Wx XP (if isCls c d s2 = true then callP g [d] s2 else .stuck) Q := by unfold eProp; (repeat with_reducible refine wx_bndQ fun _ _ => ?_) <;> rfl
@[simp] theorem wx_sSeq {a b : M Fl} {Q : Fl → S → Prop} : Wx XP (sSeq a b s) Q = Wx XP (a s) (nxtX XP Q b) := by
  unfold sSeq
  refine wx_bndQ fun f s1 => ?_
  cases f <;> rfl
@[simp] theorem wx_sNx {Q : Fl → S → Prop} : Wx XP (sNx s) Q = Q .nx s := rfl
@[simp] theorem wx_sExpr {m : M Loc} {Q : Fl → S → Prop} : Wx XP (sExpr m s) Q = Wx XP (m s) fun _ s1 => Q .nx s1 := by unfold sExpr; (repeat with_reducible refine wx_bndQ fun _ _ => ?_) <;> rfl
@[simp] theorem wx_sRet {m : M Loc} {Q : Fl → S → Prop} : Wx XP (sRet m s) Q = Wx XP (m s) fun l s1 => Wx XP (toVal l s1) fun d s2 => Q (.rt d) s2 := by unfold sRet; (repeat with_reducible refine wx_bndQ fun _ _ => ?_) <;> rfl
@[simp] theorem wx_sIf {c : M Bool} {a b : M Fl} {Q : Fl → S → Prop} : Wx XP (sIf c a b s) Q = Wx XP (c s) fun k s1 => Wx XP ((if k = true then a else b) s1) Q := by unfold sIf; (repeat with_reducible refine wx_bndQ fun _ _ => ?_) <;> rfl
@[simp] theorem wx_ifM {α : Type} {p : Prop} [Decidable p] {a b : M α} {Q : α → S → Prop} : Wx XP ((if p then a else b) s) Q = if p then Wx XP (a s) Q else Wx XP (b s) Q := by split <;> rfl
@[simp] theorem wx_if {α : Type} {p : Prop} [Decidable p] {a b : Res α} {Q : α → S → Prop} : Wx XP (if p then a else b) Q = if p then Wx XP a Q else Wx XP b Q := by split <;> rfl
@[simp] theorem wx_sAsgN {m : M Loc} {Q : Fl → S → Prop} : Wx XP (sAsg (gN i) m s) Q = Wx XP (m s) fun l s1 => Wx XP (toVal l s1) fun d s2 => if i < s2.e.length then Q .nx ⟨s2.e.set i (.val d), s2.t⟩ else False := by
  unfold sAsg gN
  refine wx_bndQ fun l s1 => wx_bndQ fun d s2 => ?_
  by_cases h : i < s2.e.length
  · simp only [if_pos h]; rfl
  · simp only [if_neg h]; rfl
theorem wx_sAsg {a : TgF} {m : M Loc} {Q : Fl → S → Prop} : Wx XP (sAsg a m s) Q = Wx XP (m s) fun l s1 => Wx XP (toVal l s1) fun d s2 => Wx XP (match a d s2 with | some s' => .ok .nx s' | none => .stuck) Q := by
  unfold sAsg; (repeat with_reducible refine wx_bndQ fun _ _ => ?_) <;> rfl
@[simp] theorem wx_sAsgT {b : List D → S → Option S} {n : Nat} {m : M Loc} {Q : Fl → S → Prop} : Wx XP (sAsg (gT b n) m s) Q = Wx XP (m s) fun l s1 => Wx XP (toVal l s1) fun d s2 => Wx XP (match gT b n d s2 with | some s' => .ok .nx s' | none => .stuck) Q := wx_sAsg
@[simp] theorem wx_sAug {f : D → D → Option D} {m : M Loc} {Q : Fl → S → Prop} : Wx XP (sAug i f m s) Q = Wx XP (vr i s) fun l0 s1 => Wx XP (toVal l0 s1) fun d0 s2 => Wx XP (m s2) fun l s3 => Wx XP (cont l s3) fun d s4 => Wx XP (opt (f d0 d) s4) fun l2 s5 => Wx XP (toVal l2 s5) fun d2 s6 => Wx XP (match gN i d2 s6 with | some s' => .ok .nx s' | none => .stuck) Q := by
  unfold sAug; (repeat with_reducible refine wx_bndQ fun _ _ => ?_) <;> rfl
@[simp] theorem wx_sOwn {m : M D} {Q : Fl → S → Prop} : Wx XP (sOwn i m s) Q = Wx XP (m s) fun d s2 => if i < s2.e.length then Q .nx ⟨s2.e.set i (.own d), s2.t⟩ else False := by
  unfold sOwn
  refine wx_bndQ fun d s2 => ?_
  show Wx XP (if _ then _ else _) Q = _
  split <;> rfl
@[simp] theorem wx_sSub {f : D → D → D → Option D} {mv mo mi : M Loc} {Q : Fl → S → Prop} : Wx XP (sSub f mv mo mi s) Q = Wx XP (mv s) fun lv s1 => Wx XP (toVal lv s1) fun dv s2 => Wx XP (mo s2) fun l s3 => Wx XP (mi s3) fun li s4 => Wx XP (cont li s4) fun di s5 => Wx XP (cont l s5) fun c s6 => Wx XP ((match f c di dv with | some c' => bnd (setc l c') fun _ => ret Fl.nx | none => stk) s6) Q := by
  unfold sSub; (repeat with_reducible refine wx_bndQ fun _ _ => ?_) <;> rfl
@[simp] theorem wx_setcOwn {Q : Unit → S → Prop} : Wx XP (setc (.own i) d ⟨e, t⟩) Q = Wx XP (match e[i]? with | some (.own _) => .ok () ⟨e.set i (.own d), t⟩ | _ => .stuck) Q := rfl
@[simp] theorem wx_setcPtr {Q : Unit → S → Prop} : Wx XP (setc (.val (.ptr i)) d ⟨e, t⟩) Q = Wx XP (if i < t.length then .ok () ⟨e, t.set i d⟩ else .stuck) Q := rfl
@[simp] theorem wx_eMuG {kd : D → Bool} {f : D → List D → Option (D × D)} {mo : M Loc} {ma : M (List Loc)} {Q : Loc → S → Prop} : Wx XP (eMu kd f mo ma s) Q = Wx XP (mo s) fun l s1 => Wx XP (cont l s1) fun c0 s2 => Wx XP ((if kd c0 = true then bnd ma fun ls => bnd (vals ls) fun ds => bnd (cont l) fun c => match f c ds with
  | some cd => bnd (setc l cd.1) fun _ => ret (.val cd.2)
  | none => stk else stk) s2) Q := by
  unfold eMu
  refine wx_bndQ fun l s1 => wx_bndQ fun c0 s2 => ?_
  congr 3
@[simp] theorem wx_runB {n : Nat} {b : M Fl} {ds : List D} {Q : D → S → Prop} : Wx XP (runB n b ds s) Q = Wx (fun x s' => XP x ⟨[], s'.t⟩) (b ⟨ds.map .val ++ List.replicate (n - ds.length) .no, s.t⟩) fun f s' => match f with | .rt d => Q d ⟨[], s'.t⟩ | .nx => Q .non ⟨[], s'.t⟩ | _ => False := by
  unfold runB
  cases b ⟨ds.map .val ++ List.replicate (n - ds.length) .no, s.t⟩ with
  | ok f s' => cases f <;> rfl
  | exc x s' => rfl
  | stuck => rfl
theorem wx_forSeq {tg : TgF} {body : M Fl} {d : D} {ds : List D} {Q : Fl → S → Prop} (hs : seqOf d = some ds) (hp : noPtr d = true) (hl : ds.length < lim) : Wx XP (forF (.seq d) tg body lim 0 s) Q = Wx XP (forL tg body ds s) Q := by
  rw [forF_at hs hp lim 0 s (by omega) (by omega), List.drop_zero]
@[simp] theorem wx_forL_nil {tg : TgF} {body : M Fl} {Q : Fl → S → Prop} : Wx XP (forL tg body [] s) Q = Q .nx s := rfl
@[simp] theorem nxtXF_nx {Q : Fl → S → Prop} {b : M Fl} : nxtXF XP Q b .nx s = Wx XP (b s) Q := rfl
@[simp] theorem nxtXF_ct {Q : Fl → S → Prop} {b : M Fl} : nxtXF XP Q b .ct s = Wx XP (b s) Q := rfl
@[simp] theorem wx_aft {r : Res Fl} {k : M Fl} {Q : Fl → S → Prop} : Wx XP (r.bind (aft k)) Q = Wx XP r (nxtXF XP Q k) := by
  cases r with
  | ok f s => cases f <;> rfl
  | exc x s => rfl
  | stuck => rfl
@[simp] theorem wx_forL_cons {body : M Fl} {ds : List D} {Q : Fl → S → Prop} : Wx XP (forL (gN i) body (d :: ds) ⟨e, t⟩) Q = if i < e.length then Wx XP (body ⟨e.set i (.val d), t⟩) (nxtXF XP Q (forL (gN i) body ds)) else False := by
  show Wx XP (match gN i d ⟨e, t⟩ with | none => .stuck | some s' => (body s').bind (aft (forL (gN i) body ds))) Q = _
  unfold gN
  by_cases h : i < e.length
  · simp only [h, if_true]; rw [wx_aft]
  · simp only [h, if_false]; rfl
@[simp] theorem wx_sFor {mi : M Itd} {tg : TgF} {body : M Fl} {Q : Fl → S → Prop} : Wx XP (sFor mi tg body s) Q = Wx XP (mi s) fun I s1 => Wx XP (forF I tg body lim 0 s1) Q := by unfold sFor; (repeat with_reducible refine wx_bndQ fun _ _ => ?_) <;> rfl
@[simp] theorem wx_iSeq {m : M Loc} {Q : Itd → S → Prop} : Wx XP (iSeq m s) Q = Wx XP (m s) fun l s1 => Wx XP (toVal l s1) fun d s2 => Wx XP (match d with
  | .ptr n => match s2.t[n]? with | some (.lst _) => .ok (.seq d) s2 | _ => .stuck
  | _ => match seqOf d with | some _ => .ok (.seq d) s2 | none => .stuck) Q := by unfold iSeq; (repeat with_reducible refine wx_bndQ fun _ _ => ?_) <;> rfl
@[simp] theorem wx_iRng1 {m : M (List Loc)} {Q : Itd → S → Prop} : Wx XP (iRng1 m s) Q = Wx XP (m s) fun ls s1 => Wx XP (match ls with
  | [.val (.int j)] => if -(2 ^ 62) ≤ j ∧ j < 2 ^ 62 then .ok (.rng 0 j.toNat) s1 else .stuck
  | _ => .stuck) Q := by unfold iRng1; (repeat with_reducible refine wx_bndQ fun _ _ => ?_) <;> rfl
@[simp] theorem nxtX_nx {Q : Fl → S → Prop} {b : M Fl} : nxtX XP Q b .nx s = Wx XP (b s) Q := rfl
@[simp] theorem nxtX_rt {Q : Fl → S → Prop} {b : M Fl} {d : D} : nxtX XP Q b (.rt d) s = Q (.rt d) s := rfl
@[simp] theorem nxtX_bk {Q : Fl → S → Prop} {b : M Fl} : nxtX XP Q b .bk s = Q .bk s := rfl
@[simp] theorem nxtX_ct {Q : Fl → S → Prop} {b : M Fl} : nxtX XP Q b .ct s = Q .ct s := rfl
@[simp] theorem wx_callF {g : List D → M D} {ds : List D} {Q : Loc → S → Prop} : Wx XP (callF g ds ⟨e, t⟩) Q = Wx (fun x s' => XP x ⟨e, s'.t⟩) (g ds ⟨[], t⟩) fun d s' => Q (.val d) ⟨e, s'.t⟩ := by
  show Wx XP (match g ds ⟨[], t⟩ with | .ok d s' => .ok (.val d) ⟨e, s'.t⟩ | .exc x s' => .exc x ⟨e, s'.t⟩ | .stuck => .stuck) Q = _
  cases g ds ⟨[], t⟩ <;> rfl
@[simp] theorem wx_forTup {tg : TgF} {body : M Fl} {ds : List D} {Q : Fl → S → Prop} (hl : ds.length < lim) : Wx XP (forF (.seq (.tup ds)) tg body lim 0 s) Q = Wx XP (forL tg body ds s) Q := wx_forSeq rfl rfl hl
@[simp] theorem wx_raise0 {c : Nat} {Q : Fl → S → Prop} : Wx XP (sRaise0 c s) Q = XP ⟨c, none⟩ s := rfl
/-- a run that ends as told -/
theorem wx_of {r : Res α} {a : α} (h : ∀ {Q : α → S → Prop}, Wp r Q = Q a s) {Q : α → S → Prop} : Wx XP r Q = Q a s := by
  have h1 : Wp r fun a' s' => a' = a ∧ s' = s := by rw [h]; exact ⟨rfl, rfl⟩
  obtain ⟨a', s', e, rfl, rfl⟩ := wp_ex.mp h1
  rw [e]; rfl
@[simp] theorem wx_eMeth {c : Nat} {mn : Str} {g : List D → M D} {mo : M Loc} {ma : M (List Loc)} {Q : Loc → S → Prop} : Wx XP (eMeth c mn g mo ma s) Q = Wx XP (mo s) fun l s1 => Wx XP (toVal l s1) fun d s2 => if hasM c mn d s2 = true then Wx XP (ma s2) fun ls s3 => Wx XP (vals ls s3) fun ds s4 => Wx XP (callF g (d :: ds) s4) Q else False := by
  unfold eMeth
  refine wx_bndQ fun l s1 => wx_bndQ fun d s2 => ?_
  show Wx XP (if hasM c mn d s2 = true then (bnd ma fun ls => bnd (vals ls) fun ds => callF g (d :: ds)) s2 else .stuck) Q = _
  by_cases h : hasM c mn d s2 = true
  · rw [if_pos h, if_pos h]; (repeat with_reducible refine wx_bndQ fun _ _ => ?_) <;> rfl
  · rw [if_neg h, if_neg h]; rfl
@[simp] theorem wx_sFldA {c : Nat} {fn : Str} {mo mv : M Loc} {Q : Fl → S → Prop} : Wx XP (sFldA c fn mo mv s) Q = Wx XP (mo s) fun l s1 => Wx XP (cont l s1) fun d s2 => Wx XP ((match fldI c fn d with
  | some i => bnd mv fun lv => bnd (cont lv) fun dv => match dv with
    | .int j => bnd (cont l) fun d2 => match updI c fn (i + j) d2 with
      | some cd => bnd (setc l cd.1) fun _ => ret Fl.nx
      | none => stk
    | _ => stk
  | none => stk) s2) Q := by
  unfold sFldA; (repeat with_reducible refine wx_bndQ fun _ _ => ?_) <;> rfl
@[simp] theorem wx_nMake {g : List D → M D} {m : M (List Loc)} {Q : D → S → Prop} : Wx XP (nMake g m s) Q = Wx XP (m s) fun ls s1 => Wx XP (vals ls s1) fun ds s2 => Wx XP (callI g ds s2) Q := by
  unfold nMake; (repeat with_reducible refine wx_bndQ fun _ _ => ?_) <;> rfl
@[simp] theorem wx_cont_enc {a : Sg} {Q : D → S → Prop} : Wx XP (cont (.val (enc a)) s) Q = Q (enc a) s := by cases a <;> rfl
@[simp] theorem wx_cont_tg {mk ti fu : List Str} {Q : D → S → Prop} : Wx XP (cont (.val (tgD mk ti fu)) s) Q = Q (tgD mk ti fu) s := rfl
/-- a try -/
theorem wp_sTry {ex : Nat → Nat → Option Bool} {m : M Fl} {hs : List (Nat × M Fl)} {Q : Fl → S → Prop} : Wp (sTry ex m hs s) Q = Wx (fun x s' => Wp (runH ex x s' hs) Q) (m s) Q := by
  show Wp (match m s with | .exc x s' => runH ex x s' hs | r => r) Q = _
  cases m s <;> rfl
end
end Mi

namespace Mi
open PySem PySem.Spec PyProof.Rows L2
/-! ### data that can be compared -/
def PyOk (n : Nat) (d : D) : Prop := ∃ p, toPy d = some p ∧ p.canLay0 = true ∧ p.depth ≤ n
theorem PyOk.mono {n m : Nat} {d : D} (h : PyOk n d) (k : n ≤ m) : PyOk m d := let ⟨p, a, b, c⟩ := h; ⟨p, a, b, Nat.le_trans c k⟩
theorem eqD_refl {d : D} (h : PyOk 64 d) {b : Bool} : eqD b d d = some (.bl (b ^^ true)) := by
  obtain ⟨p, e, hl, hd⟩ := h
  unfold eqD
  rw [e]
  simp only
  have sh : SeqAt.shaped p = true := by
    show (p.canLay0 && decide (p.depth ≤ 64)) = true
    rw [hl, decide_eq_true hd]; rfl
  rw [sh, SeqAt.eqv_refl _ hl]
  rfl
theorem pyok_int {n : Nat} {i : Int} : PyOk n (.int i) := ⟨_, rfl, rfl, by simp [PyData.depth]⟩
theorem pyok_bl {n : Nat} {i : Bool} : PyOk n (.bl i) := ⟨_, rfl, rfl, by simp [PyData.depth]⟩
theorem pyok_non {n : Nat} : PyOk n .non := ⟨_, rfl, rfl, by simp [PyData.depth]⟩
theorem pyok_str {n : Nat} {w : Str} (h : PyData.strOk w = true) : PyOk n (.str w) := ⟨_, rfl, by simpa [PyData.canLay0] using h, by simp [PyData.depth]⟩
theorem pyok_all {n : Nat} : ∀ {ds : List D}, (∀ d ∈ ds, PyOk n d) → ∃ ps, toPys ds = some ps ∧ PyData.canLayAll0 ps = true ∧ PyData.depthAll ps ≤ n
  | [], _ => ⟨[], rfl, rfl, by simp [PyData.depthAll]⟩
  | d :: ds, h => by
    obtain ⟨p, e, hl, hd⟩ := h d (by simp)
    obtain ⟨ps, e2, hl2, hd2⟩ := pyok_all (ds := ds) fun d m => h d (by simp [m])
    exact ⟨p :: ps, by simp [toPys, e, e2], by simp [PyData.canLayAll0, hl, hl2], by simp [PyData.depthAll]; omega⟩
theorem pyok_lst {n : Nat} {ds : List D} (h : ∀ d ∈ ds, PyOk n d) : PyOk (n + 1) (.lst ds) := by
  obtain ⟨ps, e, hl, hd⟩ := pyok_all h
  exact ⟨.list ps, by simp [toPy, e], by simpa [PyData.canLay0] using hl, by simp [PyData.depth]; omega⟩
theorem pyok_tup {n : Nat} {ds : List D} (h : ∀ d ∈ ds, PyOk n d) : PyOk (n + 1) (.tup ds) := by
  obtain ⟨ps, e, hl, hd⟩ := pyok_all h
  exact ⟨.tuple ps, by simp [toPy, e], by simpa [PyData.canLay0] using hl, by simp [PyData.depth]; omega⟩
theorem sok_ltr {w : Str} (h : ∀ c ∈ w.cps.toList, Ltr c) : PyData.strOk w = true := by
  show w.cps.all (· < 0x110000) = true
  rw [← Array.all_toList, List.all_eq_true]
  intro c hc
  exact decide_eq_true (by have := (h c hc).2; omega)
theorem NmOk.sok {w : Str} (h : NmOk w) : PyData.strOk w = true := sok_ltr h.2.2.1
@[simp] theorem sok_nm {b : Bool} : PyData.strOk (nm b) = true := by cases b <;> simp
@[simp] theorem sok_op {b : Bool} : PyData.strOk (opN b) = true := by cases b <;> simp [opN]
@[simp] theorem sok_qu {b : Bool} : PyData.strOk (quN b) = true := by cases b <;> simp [quN]
theorem pyok_enc {mk ti : List Str} (hm : ∀ w ∈ mk, NmOk w) (ht : ∀ w ∈ ti, NmOk w) : ∀ {s : Sg}, SgIn mk ti s → PyOk (dep s) (enc s)
  | .tru, _ => pyok_tup (n := 0) (by simp; exact pyok_str (by simp))
  | .mark m x, h => pyok_tup (n := 0) (by simp; exact ⟨pyok_str (by simp), pyok_str (hm m h).sok, pyok_str (by simp)⟩)
  | .tie m x y, h => pyok_tup (n := 0) (by simp; exact ⟨pyok_str (by simp), pyok_str (ht m h).sok, pyok_str (by simp), pyok_str (by simp)⟩)
  | .same x y, h => pyok_tup (n := 0) (by simp; exact ⟨pyok_str (by simp), pyok_str (by simp), pyok_str (by simp)⟩)
  | .neg a, h => pyok_tup (by simp; exact ⟨pyok_str (by simp), pyok_enc hm ht (s := a) h⟩)
  | .bin o a b, h => pyok_tup (n := max (dep a) (dep b)) (by simp; exact ⟨pyok_str (by simp), (pyok_enc hm ht (s := a) h.1).mono (by omega), (pyok_enc hm ht (s := b) h.2).mono (by omega)⟩)
  | .qu q x a, h => pyok_tup (by simp; exact ⟨pyok_str (by simp), pyok_str (by simp), pyok_enc hm ht (s := a) h⟩)
theorem pyok_strs {ws : List Str} (h : ∀ w ∈ ws, NmOk w) : PyOk 1 (.tup (ws.map .str)) := pyok_tup (n := 0) fun d hd => by
  obtain ⟨w, hw, rfl⟩ := List.mem_map.mp hd
  exact pyok_str (h w hw).sok
/-! ### the store behind the pool -/
variable {R : List D}
theorem PoolOk.elim {t : List D} (h : PoolOk R t) : ∃ c p, t = c :: p :: R ∧ ∀ R', PoolOk R' (c :: p :: R') := by
  obtain ⟨cs, seed, count, rfl, hc, hl⟩ := h
  exact ⟨_, _, rfl, fun R' => ⟨cs, seed, count, rfl, hc, hl⟩⟩
end Mi

/-! the rules of runs for what Mi16 .. Mi20 add -/
namespace Mi
open PySem PySem.Spec PyProof.Rows L2
section
variable {XP : Xn → S → Prop} {α β : Type} {s : S} {e : List Slot} {t : List D} {i j : Nat} {d : D} {c : Nat} {mn fn : Str}
@[simp] theorem wp_eMeth {g : List D → M D} {mo : M Loc} {ma : M (List Loc)} {Q : Loc → S → Prop} : Wp (eMeth c mn g mo ma s) Q = Wp (mo s) fun l s1 => Wp (toVal l s1) fun d s2 => if hasM c mn d s2 = true then Wp (ma s2) fun ls s3 => Wp (vals ls s3) fun ds s4 => Wp (callF g (d :: ds) s4) Q else False := by
  unfold eMeth
  refine wp_bndQ fun l s1 => wp_bndQ fun d s2 => ?_
  show Wp (if hasM c mn d s2 = true then (bnd ma fun ls => bnd (vals ls) fun ds => callF g (d :: ds)) s2 else .stuck) Q = _
  by_cases h : hasM c mn d s2 = true
  · rw [if_pos h, if_pos h]; (repeat with_reducible refine wp_bndQ fun _ _ => ?_) <;> rfl
  · rw [if_neg h, if_neg h]; rfl
def copyR (c : D) (s : S) : Res D := match c with | .dic kvs => .ok (.dic kvs) s | _ => .stuck
@[simp] theorem wp_copyR {kvs : List (Key × D)} {Q : D → S → Prop} : Wp (copyR (.dic kvs) s) Q = Q (.dic kvs) s := rfl
@[simp] theorem wx_copyR {kvs : List (Key × D)} {Q : D → S → Prop} : Wx XP (copyR (.dic kvs) s) Q = Q (.dic kvs) s := rfl
@[simp] theorem wp_nCopy {mo : M Loc} {Q : D → S → Prop} : Wp (nCopy mo s) Q = Wp (mo s) fun l s1 => Wp (cont l s1) fun c s2 => Wp (copyR c s2) Q := by
  unfold nCopy; (repeat with_reducible refine wp_bndQ fun _ _ => ?_) <;> rfl
@[simp] theorem wx_nCopy {mo : M Loc} {Q : D → S → Prop} : Wx XP (nCopy mo s) Q = Wx XP (mo s) fun l s1 => Wx XP (cont l s1) fun c s2 => Wx XP (copyR c s2) Q := by
  unfold nCopy; (repeat with_reducible refine wx_bndQ fun _ _ => ?_) <;> rfl
def inRngR (neg : Bool) (x : Loc) (ls : List Loc) (s : S) : Res Loc := match x, ls with
  | .val (.int i), [.val (.int j)] => .ok (.val (.bl (neg ^^ decide (0 ≤ i ∧ i < j)))) s
  | _, _ => .stuck
@[simp] theorem wp_inRngR {neg : Bool} {i j : Int} {Q : Loc → S → Prop} : Wp (inRngR neg (.val (.int i)) [.val (.int j)] s) Q = Q (.val (.bl (neg ^^ decide (0 ≤ i ∧ i < j)))) s := rfl
@[simp] theorem wp_eInRng {neg : Bool} {mx : M Loc} {mA : M (List Loc)} {Q : Loc → S → Prop} : Wp (eInRng neg mx mA s) Q = Wp (mx s) fun x s1 => Wp (mA s1) fun ls s2 => Wp (inRngR neg x ls s2) Q := by
  unfold eInRng; (repeat with_reducible refine wp_bndQ fun _ _ => ?_) <;> rfl
def parR (i j : Nat) (ds : List D) (s : S) : Res Fl := match ds with
  | [d1, d2] => (match gN i d1 s with | none => .stuck | some s' => (match gN j d2 s' with | none => .stuck | some s2 => .ok .nx s2))
  | _ => .stuck
@[simp] theorem wp_parR {d1 d2 : D} {Q : Fl → S → Prop} : Wp (parR i j [d1, d2] ⟨e, t⟩) Q = (if i < e.length ∧ j < e.length then Q .nx ⟨(e.set i (.val d1)).set j (.val d2), t⟩ else False) := by
  show Wp (match gN i d1 ⟨e, t⟩ with | none => .stuck | some s' => (match gN j d2 s' with | none => .stuck | some s2 => .ok .nx s2)) Q = _
  unfold gN
  by_cases h : i < e.length
  · simp only [h, if_true, true_and]
    by_cases h2 : j < e.length
    · simp only [List.length_set, h2, if_true]; rfl
    · simp only [List.length_set, h2, if_false]; rfl
  · simp only [h, if_false, false_and]; rfl
@[simp] theorem wp_sPar {mA : M (List Loc)} {Q : Fl → S → Prop} : Wp (sPar i j mA s) Q = Wp (mA s) fun ls s1 => Wp (vals ls s1) fun ds s2 => Wp (parR i j ds s2) Q := by
  unfold sPar; (repeat with_reducible refine wp_bndQ fun _ _ => ?_) <;> rfl
def asgFR (c : Nat) (mo : M Loc) (fs : List Str) (n : Nat) (d : D) : M Fl := match d with
  | .tup ds => if ds.length = n then setFs c mo fs ds else stk
  | _ => stk
@[simp] theorem wx_asgFR {mo : M Loc} {fs : List Str} {n : Nat} {ds : List D} {Q : Fl → S → Prop} : Wx XP (asgFR c mo fs n (.tup ds) s) Q = if ds.length = n then Wx XP (setFs c mo fs ds s) Q else False := by
  show Wx XP ((if ds.length = n then setFs c mo fs ds else stk) s) Q = _
  split <;> rfl
@[simp] theorem wx_sAsgF {mo m : M Loc} {fs : List Str} {n : Nat} {Q : Fl → S → Prop} : Wx XP (sAsgF c mo fs n m s) Q = Wx XP (m s) fun l s1 => Wx XP (toVal l s1) fun d s2 => Wx XP (asgFR c mo fs n d s2) Q := by
  unfold sAsgF; (repeat with_reducible refine wx_bndQ fun _ _ => ?_) <;> rfl
@[simp] theorem wx_setFs0 {mo : M Loc} {Q : Fl → S → Prop} : Wx XP (setFs c mo [] [] s) Q = Q .nx s := rfl
def setFR (c : Nat) (mo : M Loc) (fs : List Str) (ds : List D) (l : Loc) (o : Option (D × D)) : M Fl := match o with
  | some cd => bnd (setc l cd.1) fun _ => setFs c mo fs ds
  | none => stk
@[simp] theorem wx_setFR {mo : M Loc} {fs : List Str} {ds : List D} {l : Loc} {cd : D × D} {Q : Fl → S → Prop} : Wx XP (setFR c mo fs ds l (some cd) s) Q = Wx XP (setc l cd.1 s) fun _ s1 => Wx XP (setFs c mo fs ds s1) Q := wx_bnd
@[simp] theorem wx_setFs {mo : M Loc} {f : Str} {fs : List Str} {ds : List D} {Q : Fl → S → Prop} : Wx XP (setFs c mo (f :: fs) (d :: ds) s) Q = Wx XP (mo s) fun l s1 => Wx XP (cont l s1) fun x s2 => Wx XP (setFR c mo fs ds l (putO c f d x) s2) Q := by
  rw [setFs]; (repeat with_reducible refine wx_bndQ fun _ _ => ?_) <;> rfl
def neOR (c : Nat) (g : List D → M D) (dx dy : D) (s : S) : Res Loc := if (isCls c dx s && isCls c dy s) = true then (callP g [dx, dy] s).bind notL else .stuck
theorem wp_neOR {g : List D → M D} {dx dy : D} {k : Bool} {Q : Loc → S → Prop} (h : (isCls c dx ⟨e, t⟩ && isCls c dy ⟨e, t⟩) = true) (hg : ∀ {Q : D → S → Prop}, Wp (g [dx, dy] ⟨[], t⟩) Q = Q (.bl k) ⟨[], t⟩) : Wp (neOR c g dx dy ⟨e, t⟩) Q = Q (.val (.bl !k)) ⟨e, t⟩ := by
  unfold neOR
  rw [if_pos h]
  have h1 : Wp (callP g [dx, dy] ⟨e, t⟩) fun a s' => a = .val (.bl k) ∧ s' = ⟨e, t⟩ := by rw [wp_callP, hg]; exact ⟨rfl, rfl⟩
  obtain ⟨a, s', h2, rfl, rfl⟩ := wp_ex.mp h1
  rw [h2]; rfl
@[simp] theorem wp_eNeO {g : List D → M D} {ma mb : M Loc} {Q : Loc → S → Prop} : Wp (eNeO c g ma mb s) Q = Wp (ma s) fun x s1 => Wp (mb s1) fun y s2 => Wp (toVal x s2) fun dx s3 => Wp (toVal y s3) fun dy s4 => Wp (neOR c g dx dy s4) Q := by
  unfold eNeO; (repeat with_reducible refine wp_bndQ fun _ _ => ?_) <;> rfl
def lstOf (o : Option (List D)) (s : S) : Res D := match o with | some es => .ok (.lst es) s | none => .stuck
@[simp] theorem lstOf_some {es : List D} {Q : D → S → Prop} : Wp (lstOf (some es) s) Q = Q (.lst es) s := rfl
@[simp] theorem wp_nC {f : List D → Option (List D)} {ma : M (List Loc)} {Q : D → S → Prop} : Wp (nC f ma s) Q = Wp (ma s) fun ls s1 => Wp (conts ls s1) fun ds s2 => Wp (lstOf (f ds) s2) Q := by
  unfold nC
  refine wp_bndQ fun _ _ => wp_bndQ fun _ _ => ?_
  rfl
@[simp] theorem listD_lst {ds : List D} : listD [.lst ds] = some ds := rfl
@[simp] theorem listD_tup {ds : List D} : listD [.tup ds] = some ds := rfl
/-- what a run that is known by its continuations is -/
theorem wx_ofk {r : Res α} {a : α} (h : ∀ {Q : α → S → Prop}, Q a s → Wp r Q) {Q : α → S → Prop} : Wx XP r Q = Q a s := by
  obtain ⟨a', s', e, rfl, rfl⟩ := wp_ex.mp (h (Q := fun a' s' => a' = a ∧ s' = s) ⟨rfl, rfl⟩)
  rw [e]; rfl
theorem wp_ofk {r : Res α} {a : α} (h : ∀ {Q : α → S → Prop}, Q a s → Wp r Q) {Q : α → S → Prop} : Wp r Q = Q a s := by
  obtain ⟨a', s', e, rfl, rfl⟩ := wp_ex.mp (h (Q := fun a' s' => a' = a ∧ s' = s) ⟨rfl, rfl⟩)
  rw [e]; rfl
@[simp] theorem wp_calmR {r : Res Fl} {Q : Fl → S → Prop} : Wp (calmR r) Q = Wp r Q := by cases r <;> rfl
end
@[simp] theorem ixN_m1 {n : Nat} : ixN (n + 1) (-1) = some n := by
  unfold ixN
  rw [if_neg (by omega)]
  simp
  omega
@[simp] theorem atI_m1 {α : Type} {xs : List α} {x : α} : atI (xs ++ [x]) (-1) = some x := by
  unfold atI
  rw [List.length_append, List.length_singleton, ixN_m1]
  simp
@[simp] theorem popD_snoc {xs : List D} {x : D} : popD (.lst (xs ++ [x])) [] = some (.lst xs, x) := by simp [popD]
end Mi

namespace Mi
open PySem PySem.Spec PyProof.Rows L2
variable {R : List D}
def pl : Sg → Int × Int
  | .neg a => pl a
  | .bin _ a b => ((pl a).1 + (pl b).1, (pl a).2 + (pl b).2)
  | .qu _ x a => if (!(fr a false && !(x == false)) && !(fr a true && !(x == true))) = true then ((pl a).1, 1 + (pl a).2) else (1 + (pl a).1, (pl a).2)
  | _ => (0, 0)
theorem places_ok : ∀ (s : Sg) (n : Nat), dep s ≤ n → dep s ≤ 24 → ∀ {t : List D} {Q : D → S → Prop}, Wp (g__law_places n [enc s] ⟨[], t⟩) Q = Q (.tup [.int (pl s).1, .int (pl s).2]) ⟨[], t⟩
  | _, 0, h, _, t, Q => by rename_i s _; cases s <;> simp [dep] at h
  | .tru, n + 1, h, _, t, Q => by
    simp [g__law_places, b__law_places, enc, cutD_from, pl]
  | .mark m x, n + 1, h, _, t, Q => by
    cases x <;> simp [g__law_places, b__law_places, enc, cutD_from, pl]
  | .tie r x y, n + 1, h, _, t, Q => by
    cases x <;> cases y <;> simp [g__law_places, b__law_places, enc, cutD_from, pl]
  | .same x y, n + 1, h, _, t, Q => by
    cases x <;> cases y <;> simp [g__law_places, b__law_places, enc, cutD_from, pl]
  | .neg a, n + 1, h, h2, t, Q => by
    have ih := fun {t Q} => places_ok a n (by simp [dep] at h; omega) (by simp [dep] at h2; omega) (t := t) (Q := Q)
    simp [g__law_places, b__law_places, enc, cutD_from, pl, ih]
  | .bin o a b, n + 1, h, h2, t, Q => by
    have iha := fun {t Q} => places_ok a n (by simp [dep] at h; omega) (by simp [dep] at h2; omega) (t := t) (Q := Q)
    have ihb := fun {t Q} => places_ok b n (by simp [dep] at h; omega) (by simp [dep] at h2; omega) (t := t) (Q := Q)
    cases o <;> simp [g__law_places, b__law_places, enc, opN, cutD_from, pl, iha, ihb]
  | .qu q x a, n + 1, h, h2, t, Q => by
    have ih := fun {t Q} => places_ok a n (by simp [dep] at h; omega) (by simp [dep] at h2; omega) (t := t) (Q := Q)
    have e : D.tup [.str (quN q), .str (nm x), enc a] = enc (.qu q x a) := rfl
    have hf := fun {t Q} => law_free_ok (.qu q x a) 24 h2 (t := t) (Q := Q)
    simp only [frL, fr, enc] at hf
    cases q <;> cases x <;> cases h1 : fr a false <;> cases h2 : fr a true <;> simp only [h1, h2, quN, nm] at hf <;> simp [g__law_places, b__law_places, enc, quN, cutD_from, pl, ih, hf, h1, h2]
theorem said_ok {mk ti fu : List Str} (hs : ShOk mk ti fu) {p : Int} (hq : p = 0 ∨ p = 1 ∨ p = 2) {t : List D} (hp : PoolOk R t) {Q : D → S → Prop}
    (k : ∀ s t', PoolOk R t' → SgOk mk ti [] 39 9 s → Q (enc s) ⟨[], t'⟩) : Wp (g__law_said [.ptr 1, shD mk ti fu, .int p] ⟨[], t⟩) Q := by
  simp [g__law_said, b__law_said, wp_forRng]
  refine wp_forL_inv (fun _ s => ∃ (a3 a4 a5 : Slot) (t : List D), s = ⟨[.val (.ptr 1), .val (shD mk ti fu), .val (.int p), a3, a4, a5], t⟩ ∧ PoolOk R t) ⟨_, _, _, t, rfl, hp⟩ ?_ ?_
  · rintro i d s hi ⟨a3, a4, a5, t, rfl, hp⟩
    refine ⟨_, rfl, ?_⟩
    simp
    refine closed_ok hs 1 4 p (by omega) hq hp fun s t hp hs1 => ?_
    have d1 := hs1.dp
    simp [places_ok s 24 (by omega) (by omega)]
    by_cases c1 : (pl s).1 ≤ p <;> by_cases c2 : (pl s).2 ≤ 3 <;> simp [c1, c2]
    · exact k s t hp hs1
    · exact ⟨_, _, _, _, ⟨⟨rfl, rfl, rfl⟩, rfl⟩, hp⟩
    · exact ⟨_, _, _, _, ⟨⟨rfl, rfl, rfl⟩, rfl⟩, hp⟩
    · exact ⟨_, _, _, _, ⟨⟨rfl, rfl, rfl⟩, rfl⟩, hp⟩
  · rintro s ⟨a3, a4, a5, t, rfl, hp⟩
    simp
    refine quantor_ok hp fun q t hp => ?_
    simp
    refine test_ok hs (bs := [false]) (by simp) (by simp) hp fun s t hp h1 h2 h3 h4 => ?_
    exact k (.qu q false s) t hp (((⟨h1, by omega, by omega, h4⟩ : SgOk mk ti [false] 1 1 s).qu q false).mono (by omega) (by omega))
def shs75 : List (Nat × Nat × Option Nat) := [(1, 0, none), (2, 0, none), (0, 1, none), (1, 1, none), (0, 1, none), (0, 2, none)]
theorem small_ok {t : List D} (hp : PoolOk R t) {Q : D → S → Prop} (k : ∀ mk ti fu t', PoolOk R t' → ShOk mk ti fu → fu = [] → Q (shD mk ti fu) ⟨[], t'⟩) : Wp (g__law_small_shape [.ptr 1] ⟨[], t⟩) Q := by
  simp [g__law_small_shape, b__law_small_shape]
  refine shape_ok' (shs := shs75) (by decide) (by decide) (by decide) hp fun mk ti fu t hp hs hf => ?_
  exact k mk ti fu t hp hs (hf (by decide))
end Mi

namespace Mi
open PySem PySem.Spec PyProof.Rows L2
variable {R : List D}
/-! ### the hall -/
@[simp] theorem bq_kept_tongue_kept : (("kept_tongue" : Str) == ("kept" : Str)) = false := by decide +kernel
@[simp] theorem nf_kept_tongue_kept : (("kept_tongue" : Str) = ("kept" : Str)) = False := eq_false (by decide +kernel)
@[simp] theorem bq_kept_tongue_scale : (("kept_tongue" : Str) == ("scale" : Str)) = false := by decide +kernel
@[simp] theorem nf_kept_tongue_scale : (("kept_tongue" : Str) = ("scale" : Str)) = False := eq_false (by decide +kernel)
@[simp] theorem bq_kept_tongue_past : (("kept_tongue" : Str) == ("past" : Str)) = false := by decide +kernel
@[simp] theorem nf_kept_tongue_past : (("kept_tongue" : Str) = ("past" : Str)) = False := eq_false (by decide +kernel)
@[simp] theorem bq_kept_kept_tongue : (("kept" : Str) == ("kept_tongue" : Str)) = false := by decide +kernel
@[simp] theorem nf_kept_kept_tongue : (("kept" : Str) = ("kept_tongue" : Str)) = False := eq_false (by decide +kernel)
@[simp] theorem bq_kept_scale : (("kept" : Str) == ("scale" : Str)) = false := by decide +kernel
@[simp] theorem nf_kept_scale : (("kept" : Str) = ("scale" : Str)) = False := eq_false (by decide +kernel)
@[simp] theorem bq_kept_past : (("kept" : Str) == ("past" : Str)) = false := by decide +kernel
@[simp] theorem nf_kept_past : (("kept" : Str) = ("past" : Str)) = False := eq_false (by decide +kernel)
@[simp] theorem bq_scale_kept_tongue : (("scale" : Str) == ("kept_tongue" : Str)) = false := by decide +kernel
@[simp] theorem nf_scale_kept_tongue : (("scale" : Str) = ("kept_tongue" : Str)) = False := eq_false (by decide +kernel)
@[simp] theorem bq_scale_kept : (("scale" : Str) == ("kept" : Str)) = false := by decide +kernel
@[simp] theorem nf_scale_kept : (("scale" : Str) = ("kept" : Str)) = False := eq_false (by decide +kernel)
@[simp] theorem bq_scale_past : (("scale" : Str) == ("past" : Str)) = false := by decide +kernel
@[simp] theorem nf_scale_past : (("scale" : Str) = ("past" : Str)) = False := eq_false (by decide +kernel)
@[simp] theorem bq_past_kept_tongue : (("past" : Str) == ("kept_tongue" : Str)) = false := by decide +kernel
@[simp] theorem nf_past_kept_tongue : (("past" : Str) = ("kept_tongue" : Str)) = False := eq_false (by decide +kernel)
@[simp] theorem bq_past_kept : (("past" : Str) == ("kept" : Str)) = false := by decide +kernel
@[simp] theorem nf_past_kept : (("past" : Str) = ("kept" : Str)) = False := eq_false (by decide +kernel)
@[simp] theorem bq_past_scale : (("past" : Str) == ("scale" : Str)) = false := by decide +kernel
@[simp] theorem nf_past_scale : (("past" : Str) = ("scale" : Str)) = False := eq_false (by decide +kernel)
@[simp] theorem bq_say_kept_tongue : (("say" : Str) == ("kept_tongue" : Str)) = false := by decide +kernel
@[simp] theorem bq_say_kept : (("say" : Str) == ("kept" : Str)) = false := by decide +kernel
@[simp] theorem bq_say_scale : (("say" : Str) == ("scale" : Str)) = false := by decide +kernel
@[simp] theorem bq_say_past : (("say" : Str) == ("past" : Str)) = false := by decide +kernel
@[simp] theorem bq_drop_kept_tongue : (("drop" : Str) == ("kept_tongue" : Str)) = false := by decide +kernel
@[simp] theorem bq_drop_kept : (("drop" : Str) == ("kept" : Str)) = false := by decide +kernel
@[simp] theorem bq_drop_scale : (("drop" : Str) == ("scale" : Str)) = false := by decide +kernel
@[simp] theorem bq_drop_past : (("drop" : Str) == ("past" : Str)) = false := by decide +kernel
@[simp] theorem bq_weigh_kept_tongue : (("weigh" : Str) == ("kept_tongue" : Str)) = false := by decide +kernel
@[simp] theorem bq_weigh_kept : (("weigh" : Str) == ("kept" : Str)) = false := by decide +kernel
@[simp] theorem bq_weigh_scale : (("weigh" : Str) == ("scale" : Str)) = false := by decide +kernel
@[simp] theorem bq_weigh_past : (("weigh" : Str) == ("past" : Str)) = false := by decide +kernel
@[simp] theorem bq_back_kept_tongue : (("back" : Str) == ("kept_tongue" : Str)) = false := by decide +kernel
@[simp] theorem bq_back_kept : (("back" : Str) == ("kept" : Str)) = false := by decide +kernel
@[simp] theorem bq_back_scale : (("back" : Str) == ("scale" : Str)) = false := by decide +kernel
@[simp] theorem bq_back_past : (("back" : Str) == ("past" : Str)) = false := by decide +kernel
@[simp] theorem bq_change_kept_tongue : (("change" : Str) == ("kept_tongue" : Str)) = false := by decide +kernel
@[simp] theorem bq_change_kept : (("change" : Str) == ("kept" : Str)) = false := by decide +kernel
@[simp] theorem bq_change_scale : (("change" : Str) == ("scale" : Str)) = false := by decide +kernel
@[simp] theorem bq_change_past : (("change" : Str) == ("past" : Str)) = false := by decide +kernel
@[simp] theorem bq_said_kept_tongue : (("said" : Str) == ("kept_tongue" : Str)) = false := by decide +kernel
@[simp] theorem bq_said_kept : (("said" : Str) == ("kept" : Str)) = false := by decide +kernel
@[simp] theorem bq_said_scale : (("said" : Str) == ("scale" : Str)) = false := by decide +kernel
@[simp] theorem bq_said_past : (("said" : Str) == ("past" : Str)) = false := by decide +kernel
@[simp] theorem bq_scales_kept_tongue : (("scales" : Str) == ("kept_tongue" : Str)) = false := by decide +kernel
@[simp] theorem bq_scales_kept : (("scales" : Str) == ("kept" : Str)) = false := by decide +kernel
@[simp] theorem bq_scales_scale : (("scales" : Str) == ("scale" : Str)) = false := by decide +kernel
@[simp] theorem bq_scales_past : (("scales" : Str) == ("past" : Str)) = false := by decide +kernel
@[simp] theorem bq_depth_kept_tongue : (("depth" : Str) == ("kept_tongue" : Str)) = false := by decide +kernel
@[simp] theorem bq_depth_kept : (("depth" : Str) == ("kept" : Str)) = false := by decide +kernel
@[simp] theorem bq_depth_scale : (("depth" : Str) == ("scale" : Str)) = false := by decide +kernel
@[simp] theorem bq_depth_past : (("depth" : Str) == ("past" : Str)) = false := by decide +kernel
@[simp] theorem bq_language_kept_tongue : (("language" : Str) == ("kept_tongue" : Str)) = false := by decide +kernel
@[simp] theorem bq_language_kept : (("language" : Str) == ("kept" : Str)) = false := by decide +kernel
@[simp] theorem bq_language_scale : (("language" : Str) == ("scale" : Str)) = false := by decide +kernel
@[simp] theorem bq_language_past : (("language" : Str) == ("past" : Str)) = false := by decide +kernel
@[simp] theorem sok_say : PyData.strOk ("say" : Str) = true := by decide +kernel
@[simp] theorem sok_drop : PyData.strOk ("drop" : Str) = true := by decide +kernel
@[simp] theorem sok_weigh : PyData.strOk ("weigh" : Str) = true := by decide +kernel
@[simp] theorem sok_back : PyData.strOk ("back" : Str) = true := by decide +kernel
@[simp] theorem ne_say_drop : (("say" : Str) = ("drop" : Str)) = False := eq_false (by decide +kernel)
@[simp] theorem ne_say_weigh : (("say" : Str) = ("weigh" : Str)) = False := eq_false (by decide +kernel)
@[simp] theorem ne_say_back : (("say" : Str) = ("back" : Str)) = False := eq_false (by decide +kernel)
@[simp] theorem ne_drop_say : (("drop" : Str) = ("say" : Str)) = False := eq_false (by decide +kernel)
@[simp] theorem ne_drop_weigh : (("drop" : Str) = ("weigh" : Str)) = False := eq_false (by decide +kernel)
@[simp] theorem ne_drop_back : (("drop" : Str) = ("back" : Str)) = False := eq_false (by decide +kernel)
@[simp] theorem ne_weigh_say : (("weigh" : Str) = ("say" : Str)) = False := eq_false (by decide +kernel)
@[simp] theorem ne_weigh_drop : (("weigh" : Str) = ("drop" : Str)) = False := eq_false (by decide +kernel)
@[simp] theorem ne_weigh_back : (("weigh" : Str) = ("back" : Str)) = False := eq_false (by decide +kernel)
@[simp] theorem ne_back_say : (("back" : Str) = ("say" : Str)) = False := eq_false (by decide +kernel)
@[simp] theorem ne_back_drop : (("back" : Str) = ("drop" : Str)) = False := eq_false (by decide +kernel)
@[simp] theorem ne_back_weigh : (("back" : Str) = ("weigh" : Str)) = False := eq_false (by decide +kernel)
@[simp] theorem sok_many : PyData.strOk ("many" : Str) = true := by decide +kernel
@[simp] theorem sok_weights : PyData.strOk ("weights" : Str) = true := by decide +kernel
@[simp] theorem sok_undo : PyData.strOk ("undo" : Str) = true := by decide +kernel
@[simp] theorem sok_ok : PyData.strOk ("ok" : Str) = true := by decide +kernel
@[simp] theorem ne_many_weights : (("many" : Str) = ("weights" : Str)) = False := eq_false (by decide +kernel)
@[simp] theorem ne_many_undo : (("many" : Str) = ("undo" : Str)) = False := eq_false (by decide +kernel)
@[simp] theorem ne_many_ok : (("many" : Str) = ("ok" : Str)) = False := eq_false (by decide +kernel)
@[simp] theorem ne_weights_many : (("weights" : Str) = ("many" : Str)) = False := eq_false (by decide +kernel)
@[simp] theorem ne_weights_undo : (("weights" : Str) = ("undo" : Str)) = False := eq_false (by decide +kernel)
@[simp] theorem ne_weights_ok : (("weights" : Str) = ("ok" : Str)) = False := eq_false (by decide +kernel)
@[simp] theorem ne_undo_many : (("undo" : Str) = ("many" : Str)) = False := eq_false (by decide +kernel)
@[simp] theorem ne_undo_weights : (("undo" : Str) = ("weights" : Str)) = False := eq_false (by decide +kernel)
@[simp] theorem ne_undo_ok : (("undo" : Str) = ("ok" : Str)) = False := eq_false (by decide +kernel)
@[simp] theorem ne_ok_many : (("ok" : Str) = ("many" : Str)) = False := eq_false (by decide +kernel)
@[simp] theorem ne_ok_weights : (("ok" : Str) = ("weights" : Str)) = False := eq_false (by decide +kernel)
@[simp] theorem ne_ok_undo : (("ok" : Str) = ("undo" : Str)) = False := eq_false (by decide +kernel)
@[simp] theorem sok_said : PyData.strOk ("said" : Str) = true := by decide +kernel
def hlD (tg k w : D) : D := .obj 1 [("kept_tongue", tg), ("kept", k), ("scale", w), ("past", .ptr 2)]
def hT (c p tg : D) (P k : List D) (w : List (Key × D)) (rows : D) (g : List D) : List D := c :: p :: .lst P :: hlD tg (.lst k) (.dic w) :: rows :: g
section
variable {c p tg rows : D} {P k g : List D} {w : List (Key × D)} {e : List Slot} {XP : Xn → S → Prop} {mk ti fu : List Str}
theorem change_ok {k' : List D} {w' : List (Key × D)} (h : P.length < lim) {Q : D → S → Prop} : Wp (g_Hall_change [.ptr 3, .lst k', .dic w'] ⟨[], hT c p tg P k w rows g⟩) Q = Q .non ⟨[], hT c p tg (P ++ [.tup [.lst k, .dic w]]) k' w' rows g⟩ := by
  simp [g_Hall_change, b_Hall_change, hT, hlD, fldD, List.lookup, isLst, appD, h, putFD]
@[simp] theorem hT_2 : (hT c p tg P k w rows g)[(2 : Nat)]? = some (.lst P) := rfl
@[simp] theorem hT_3 : (hT c p tg P k w rows g)[(3 : Nat)]? = some (hlD tg (.lst k) (.dic w)) := rfl
@[simp] theorem hT_4 : (hT c p tg P k w rows g)[(4 : Nat)]? = some rows := rfl
@[simp] theorem truD_tup0 : truD (.tup []) = some false := rfl
@[simp] theorem fld_kt {k w : D} : fldD 1 ("kept_tongue" : Str) (hlD tg k w) = some tg := by simp [hlD, fldD, List.lookup]
@[simp] theorem fld_k {k w : D} : fldD 1 ("kept" : Str) (hlD tg k w) = some k := by simp [hlD, fldD, List.lookup]
@[simp] theorem fld_w {k w : D} : fldD 1 ("scale" : Str) (hlD tg k w) = some w := by simp [hlD, fldD, List.lookup]
@[simp] theorem fld_p {k w : D} : fldD 1 ("past" : Str) (hlD tg k w) = some (.ptr 2) := by simp [hlD, fldD, List.lookup]
@[simp] theorem hm_say : hasM 1 ("say" : Str) (.ptr 3) ⟨e, hT c p tg P k w rows g⟩ = true := by simp [hasM, hT, hlD, List.lookup]
@[simp] theorem hm_drop : hasM 1 ("drop" : Str) (.ptr 3) ⟨e, hT c p tg P k w rows g⟩ = true := by simp [hasM, hT, hlD, List.lookup]
@[simp] theorem hm_weigh : hasM 1 ("weigh" : Str) (.ptr 3) ⟨e, hT c p tg P k w rows g⟩ = true := by simp [hasM, hT, hlD, List.lookup]
@[simp] theorem hm_back : hasM 1 ("back" : Str) (.ptr 3) ⟨e, hT c p tg P k w rows g⟩ = true := by simp [hasM, hT, hlD, List.lookup]
@[simp] theorem hm_change : hasM 1 ("change" : Str) (.ptr 3) ⟨e, hT c p tg P k w rows g⟩ = true := by simp [hasM, hT, hlD, List.lookup]
@[simp] theorem hm_said : hasM 1 ("said" : Str) (.ptr 3) ⟨e, hT c p tg P k w rows g⟩ = true := by simp [hasM, hT, hlD, List.lookup]
@[simp] theorem hm_scales : hasM 1 ("scales" : Str) (.ptr 3) ⟨e, hT c p tg P k w rows g⟩ = true := by simp [hasM, hT, hlD, List.lookup]
@[simp] theorem hm_depth : hasM 1 ("depth" : Str) (.ptr 3) ⟨e, hT c p tg P k w rows g⟩ = true := by simp [hasM, hT, hlD, List.lookup]
@[simp] theorem hm_language : hasM 1 ("language" : Str) (.ptr 3) ⟨e, hT c p tg P k w rows g⟩ = true := by simp [hasM, hT, hlD, List.lookup]
theorem closed_ck {s : Sg} (hi : SgIn mk ti s) (hz : siz s ≤ 100) (hd : dep s ≤ 20) (hf : ∀ x, fr s x = false) {t : List D} {Q : D → S → Prop} : Wx XP (g_check_closed [tgD mk ti fu, enc s] ⟨[], t⟩) Q = Q .non ⟨[], t⟩ := by
  have h1 := fun {XP Q} => wx_ofk (XP := XP) (Q := Q) (fun {Q} => is_ok (fu := fu) hi hz hd (t := t) (Q := Q))
  have h2 := fun {XP Q} => wx_of (XP := XP) (Q := Q) (fun {Q} => free_names_ok s 22 (by omega) (t := t) (Q := Q))
  simp [g_check_closed, b_check_closed, g_check_saying, b_check_saying, h1, h2, frL, hf]
theorem say_ok {s : Sg} (hi : SgIn mk ti s) (hz : siz s ≤ 100) (hd : dep s ≤ 20) (hf : ∀ x, fr s x = false) (hP : P.length < lim) (hk : k.length ≤ 3) {Q : D → S → Prop} :
    Wx XP (g_Hall_say [.ptr 3, enc s] ⟨[], hT c p (tgD mk ti fu) P k w rows g⟩) Q = if k.length = 3 then XP ⟨2, none⟩ ⟨[], hT c p (tgD mk ti fu) P k w rows g⟩ else Q .non ⟨[], hT c p (tgD mk ti fu) (P ++ [.tup [.lst k, .dic w]]) (k ++ [enc s]) w rows g⟩ := by
  have hc := fun {XP Q} => wx_of (XP := XP) (Q := Q) (fun {Q} => change_ok (c := c) (p := p) (tg := tgD mk ti fu) (P := P) (k := k) (w := w) (rows := rows) (g := g) (k' := k ++ [enc s]) (w' := w) hP (Q := Q))
  have l1 : k.length + 1 ≤ lim := by show _ ≤ 1000000; omega
  simp [g_Hall_say, b_Hall_say, closed_ck hi hz hd hf, hc, l1]
  by_cases h : k.length = 3
  · have : (k.length : Int) = 3 := by omega
    simp [h]
  · have : ¬ (k.length : Int) = 3 := by omega
    simp [h, this]
end
end Mi

namespace Mi
open PySem PySem.Spec PyProof.Rows L2
variable {R : List D}
/-! ### fractions -/
@[simp] theorem isa_int_int : isa_int (.inl "int") = some true := by decide
@[simp] theorem isa_bool_int : isa_bool (.inl "int") = some false := by decide
@[simp] theorem integer_ok {i : Int} {t : List D} {Q : D → S → Prop} : Wp (g_is_integer [.int i] ⟨[], t⟩) Q = Q (.bl true) ⟨[], t⟩ := by
  simp [g_is_integer, b_is_integer]
theorem within_ok {i a b : Int} {t : List D} {Q : D → S → Prop} : Wp (g_is_within [.int i, .int a, .int b] ⟨[], t⟩) Q = Q (.bl (decide (a ≤ i ∧ i ≤ b))) ⟨[], t⟩ := by
  by_cases h : a ≤ i <;> simp [g_is_within, b_is_within, h]
theorem gcd_loop {t : List D} {Q : Fl → S → Prop} : ∀ (n a b : Nat), b < n → Wp (whF (tstB (op2 (eqD true) (vr 1) (kk (.int (0 : Int))))) (sPar 0 1 (aCons (vr 1) (aCons (op2 modD (vr 0) (vr 1)) aNil))) n ⟨[.val (.int a), .val (.int b)], t⟩) Q = Q .nx ⟨[.val (.int (Nat.gcd a b)), .val (.int 0)], t⟩
  | 0, a, b, h => by omega
  | n + 1, a, b, h => by
    rw [wp_whF]
    by_cases hb : b = 0
    · subst hb; simp
    · have h0 : ¬ ((b : Int) = 0) := by omega
      have h1 : (0 : Int) < b := by omega
      have ih := gcd_loop (t := t) (Q := Q) n b (a % b) (by have := Nat.mod_lt a (show 0 < b by omega); omega)
      have e : ((a % b : Nat) : Int) = (a : Int) % b := by simp
      rw [e] at ih
      simp [hb, h0, modD_i h1]
      rw [ih, Nat.gcd_comm b, ← Nat.gcd_rec, Nat.gcd_comm]
theorem common_ok {a b : Nat} (h : b < 1000000) {t : List D} {Q : D → S → Prop} : Wp (g_common_divisor [.int a, .int b] ⟨[], t⟩) Q = Q (.int (Nat.gcd a b)) ⟨[], t⟩ := by
  simp [g_common_divisor, b_common_divisor, wp_sWhile]
  rw [gcd_loop lim a b (by show _ < 1000000; omega)]
  simp
theorem common_okI {a b : Int} (h0 : 0 ≤ a) (h1 : 0 ≤ b) (h : b < 1000000) {t : List D} {Q : D → S → Prop} : Wp (g_common_divisor [.int a, .int b] ⟨[], t⟩) Q = Q (.int (Int.gcd a b)) ⟨[], t⟩ := by
  obtain ⟨n, rfl⟩ := Int.eq_ofNat_of_zero_le h0
  obtain ⟨m, rfl⟩ := Int.eq_ofNat_of_zero_le h1
  exact common_ok (by omega)
theorem fraction_ok {a b : Int} (h : b < 1000000) {t : List D} {Q : D → S → Prop} : Wp (g_is_fraction [.tup [.int a, .int b]] ⟨[], t⟩) Q = Q (.bl (decide (1 ≤ b ∧ Int.gcd a b = 1))) ⟨[], t⟩ := by
  obtain ⟨a', ha⟩ : ∃ a', a' = (if a < 0 then -a else a) := ⟨_, rfl⟩
  have a0 : 0 ≤ a' := by rw [ha]; split <;> omega
  have ag : Int.gcd a' b = Int.gcd a b := by
    rw [ha]
    split
    · exact Int.neg_gcd
    · rfl
  simp [g_is_fraction, b_is_fraction, g_is_tuple, b_is_tuple, ← ha]
  by_cases hb : b < 1
  · have : ¬ 1 ≤ b := by omega
    simp [hb, this]
  · have h1 : 1 ≤ b := by omega
    have e : ((Int.gcd a b : Nat) : Int) = 1 ↔ Int.gcd a b = 1 := by omega
    simp [hb, h1, common_okI a0 (show 0 ≤ b by omega) h, ag, e]
theorem share_ok {a b : Int} (h : b < 1000000) {t : List D} {Q : D → S → Prop} : Wp (g_is_share [.tup [.int a, .int b]] ⟨[], t⟩) Q = Q (.bl (decide (1 ≤ b ∧ Int.gcd a b = 1 ∧ 0 ≤ a))) ⟨[], t⟩ := by
  have hf := fun {t Q} => fraction_ok (a := a) h (t := t) (Q := Q)
  by_cases h1 : 1 ≤ b ∧ Int.gcd a b = 1
  · rw [decide_eq_true h1] at hf
    simp [g_is_share, b_is_share, hf, h1]
  · have : ¬ (1 ≤ b ∧ Int.gcd a b = 1 ∧ 0 ≤ a) := fun z => h1 ⟨z.1, z.2.1⟩
    rw [decide_eq_false h1] at hf
    rw [decide_eq_false this]
    simp [g_is_share, b_is_share, hf]
section
variable {c p tg rows : D} {P k g : List D} {w : List (Key × D)} {e : List Slot} {XP : Xn → S → Prop} {mk ti fu : List Str}
theorem drop_ok {i : Int} (hP : P.length < lim) (hk : k.length ≤ 3) {Q : D → S → Prop} :
    Wx XP (g_Hall_drop [.ptr 3, .int i] ⟨[], hT c p tg P k w rows g⟩) Q = if 0 ≤ i ∧ i < k.length then Q .non ⟨[], hT c p tg (P ++ [.tup [.lst k, .dic w]]) (k.take i.toNat ++ k.drop (i + 1).toNat) w rows g⟩ else XP ⟨3, none⟩ ⟨[], hT c p tg P k w rows g⟩ := by
  have hc := fun {k' XP Q} => wx_of (XP := XP) (Q := Q) (fun {Q} => change_ok (c := c) (p := p) (tg := tg) (P := P) (k := k) (w := w) (rows := rows) (g := g) (k' := k') (w' := w) hP (Q := Q))
  obtain ⟨q, hq⟩ : ∃ q, q = decide (0 ≤ i ∧ i ≤ (k.length : Int) - 1) := ⟨_, rfl⟩
  have hw := fun {t XP Q} => wx_of (XP := XP) (Q := Q) (fun {Q} => within_ok (i := i) (a := 0) (b := (k.length : Int) - 1) (t := t) (Q := Q))
  rw [← hq] at hw
  simp [g_Hall_drop, b_Hall_drop, hw]
  by_cases h : 0 ≤ i ∧ i < k.length
  · have h1 : q = true := by rw [hq]; exact decide_eq_true (by omega)
    have l1 : min i.toNat k.length + (k.length - (i + 1).toNat) ≤ lim := by show _ ≤ 1000000; omega
    simp [h, h1, cutD_take h.1, cutD_from (show 0 ≤ i + 1 by omega), slD, l1, hc]
  · have h1 : q = false := by rw [hq]; exact decide_eq_false (by omega)
    rw [if_neg h]
    simp [h1]
@[simp] theorem marks_okx {t : List D} {Q : D → S → Prop} : Wx XP (g_Tongue_marks [tgD mk ti fu] ⟨[], t⟩) Q = Q (.tup (mk.map .str)) ⟨[], t⟩ := wx_of marks_ok
@[simp] theorem ties_okx {t : List D} {Q : D → S → Prop} : Wx XP (g_Tongue_ties [tgD mk ti fu] ⟨[], t⟩) Q = Q (.tup (ti.map .str)) ⟨[], t⟩ := wx_of ties_ok
theorem addD_t {xs ys : List D} : addD (.tup xs) (.tup ys) = if xs.length + ys.length ≤ lim then some (.tup (xs ++ ys)) else none := rfl
@[simp] theorem wx_callP {g : List D → M D} {ds : List D} {t : List D} {Q : Loc → S → Prop} : Wx XP (callP g ds ⟨e, t⟩) Q = Wx (fun _ _ => False) (g ds ⟨[], t⟩) fun d s' => Q (.val d) ⟨e, s'.t⟩ := by
  unfold callP
  cases g ds ⟨[], t⟩ <;> rfl
theorem weigh_ok {n : Str} {a b : Int} (hb : b < 1000000) (hP : P.length < lim) (hw : w.length < lim) (hm : mk.length ≤ 3) (ht : ti.length ≤ 2) (h : n ∈ mk ++ ti ∧ 1 ≤ b ∧ Int.gcd a b = 1 ∧ 0 ≤ a) {Q : D → S → Prop} :
    Wx XP (g_Hall_weigh [.ptr 3, .str n, .tup [.int a, .int b]] ⟨[], hT c p (tgD mk ti fu) P k w rows g⟩) Q = Q .non ⟨[], hT c p (tgD mk ti fu) (P ++ [.tup [.lst k, .dic w]]) k (putD w (.inr n) (.tup [.int a, .int b])) rows g⟩ := by
  have hc := fun {w' XP Q} => wx_of (XP := XP) (Q := Q) (fun {Q} => change_ok (c := c) (p := p) (tg := tgD mk ti fu) (P := P) (k := k) (w := w) (rows := rows) (g := g) (k' := k) (w' := w') hP (Q := Q))
  have hk := fun {t XP Q} => wx_of (XP := XP) (Q := Q) (fun {Q} => key_ok (w := n) (ws := mk ++ ti) (t := t) (Q := Q))
  have hs := fun {t XP Q} => wx_of (XP := XP) (Q := Q) (fun {Q} => share_ok (a := a) hb (t := t) (Q := Q))
  have l1 : mk.length + ti.length ≤ lim := by show _ ≤ 1000000; omega
  rw [List.map_append] at hk
  have hset : setD (.dic w) (.str n) (.tup [.int a, .int b]) = some (.dic (putD w (.inr n) (.tup [.int a, .int b]))) := by
    show (if w.length < lim then _ else _) = _
    rw [if_pos hw]
  rw [decide_eq_true h.1] at hk
  rw [decide_eq_true h.2] at hs
  simp [g_Hall_weigh, b_Hall_weigh, addD_t, l1, hk, hs, hset, hc]
theorem weigh_no {n : Str} {a b : Int} (hb : b < 1000000) (hP : P.length < lim) (hw : w.length < lim) (hm : mk.length ≤ 3) (ht : ti.length ≤ 2) (h : ¬ (n ∈ mk ++ ti ∧ 1 ≤ b ∧ Int.gcd a b = 1 ∧ 0 ≤ a)) {Q : D → S → Prop} :
    Wx XP (g_Hall_weigh [.ptr 3, .str n, .tup [.int a, .int b]] ⟨[], hT c p (tgD mk ti fu) P k w rows g⟩) Q = XP ⟨4, none⟩ ⟨[], hT c p (tgD mk ti fu) P k w rows g⟩ := by
  have hc := fun {w' XP Q} => wx_of (XP := XP) (Q := Q) (fun {Q} => change_ok (c := c) (p := p) (tg := tgD mk ti fu) (P := P) (k := k) (w := w) (rows := rows) (g := g) (k' := k) (w' := w') hP (Q := Q))
  have hk := fun {t XP Q} => wx_of (XP := XP) (Q := Q) (fun {Q} => key_ok (w := n) (ws := mk ++ ti) (t := t) (Q := Q))
  have hs := fun {t XP Q} => wx_of (XP := XP) (Q := Q) (fun {Q} => share_ok (a := a) hb (t := t) (Q := Q))
  have l1 : mk.length + ti.length ≤ lim := by show _ ≤ 1000000; omega
  rw [List.map_append] at hk
  have hset : setD (.dic w) (.str n) (.tup [.int a, .int b]) = some (.dic (putD w (.inr n) (.tup [.int a, .int b]))) := by
    show (if w.length < lim then _ else _) = _
    rw [if_pos hw]
  by_cases h1 : n ∈ mk ++ ti
  · rw [decide_eq_true h1] at hk
    rw [decide_eq_false fun z => h ⟨h1, z⟩] at hs
    simp [g_Hall_weigh, b_Hall_weigh, addD_t, l1, hk, hs]
  · rw [decide_eq_false h1] at hk
    simp [g_Hall_weigh, b_Hall_weigh, addD_t, l1, hk]
theorem back_nil {Q : D → S → Prop} : Wx XP (g_Hall_back [.ptr 3] ⟨[], hT c p tg [] k w rows g⟩) Q = XP ⟨5, none⟩ ⟨[], hT c p tg [] k w rows g⟩ := by
  simp [g_Hall_back, b_Hall_back]
theorem back_ok {k' : List D} {w' : List (Key × D)} {Q : D → S → Prop} : Wx XP (g_Hall_back [.ptr 3] ⟨[], hT c p tg (P ++ [.tup [.lst k', .dic w']]) k w rows g⟩) Q = Q .non ⟨[], hT c p tg P k' w' rows g⟩ := by
  have h : ¬ ((P.length : Int) + 1 = 0) := by omega
  simp [g_Hall_back, b_Hall_back, h, isLst]
  simp [hT, hlD, putO, putFD]
end
end Mi

namespace Mi
open PySem PySem.Spec PyProof.Rows L2
structure Hs where
  ss : List Sg
  w : List (Key × D)
def stE (h : Hs) : D := .tup [.lst (h.ss.map enc), .dic h.w]
structure HOk (n : Nat) (mk ti : List Str) (h : Hs) : Prop where
  l3 : h.ss.length ≤ 3
  so : ∀ s ∈ h.ss, SgOk mk ti [] 60 12 s
  nd : (h.w.map (·.1)).Nodup
  wo : ∀ q ∈ h.w, PyOk 2 q.2
  wl : h.w.length ≤ n
theorem HOk.mono {n m : Nat} {mk ti : List Str} {h : Hs} (a : HOk n mk ti h) (l : n ≤ m) : HOk m mk ti h := ⟨a.l3, a.so, a.nd, a.wo, Nat.le_trans a.wl l⟩
theorem putD_nd {kvs : List (Key × D)} {k : Key} {v : D} (h : (kvs.map (·.1)).Nodup) : ((putD kvs k v).map (·.1)).Nodup := by
  unfold putD
  split
  · have e : (kvs.map fun kv => if kv.1 = k then (kv.1, v) else kv).map (·.1) = kvs.map (·.1) := by
      rw [List.map_map]
      refine List.map_congr_left fun a _ => ?_
      show (if a.1 = k then (a.1, v) else a).1 = a.1
      split <;> rfl
    rw [e]; exact h
  · rename_i hk
    rw [List.map_append, List.map_singleton]
    refine List.nodup_append.mpr ⟨h, by simp, ?_⟩
    intro a ha b hb
    simp only [List.mem_singleton] at hb
    subst hb
    rintro rfl
    apply hk
    rw [List.any_eq_true]
    obtain ⟨q, hq, e⟩ := List.mem_map.mp ha
    exact ⟨q, hq, decide_eq_true e⟩
theorem putD_mem {kvs : List (Key × D)} {k : Key} {v : D} {q : Key × D} (h : q ∈ putD kvs k v) : q ∈ kvs ∨ q.2 = v := by
  unfold putD at h
  split at h
  · obtain ⟨a, ha, e⟩ := List.mem_map.mp h
    split at e
    · subst e; exact .inr rfl
    · subst e; exact .inl ha
  · rcases List.mem_append.mp h with h | h
    · exact .inl h
    · simp only [List.mem_singleton] at h; subst h; exact .inr rfl
theorem putD_len {kvs : List (Key × D)} {k : Key} {v : D} : (putD kvs k v).length ≤ kvs.length + 1 := by
  unfold putD
  split
  · simp
  · simp
theorem allHit_self {kvs : List (Key × D)} (nd : (kvs.map (·.1)).Nodup) (h : ∀ q ∈ kvs, PyOk 64 q.2) : allHit kvs kvs = true := by
  suffices g : ∀ l : List (Key × D), (∀ q ∈ l, lookK kvs q.1 = some q.2 ∧ PyOk 64 q.2) → allHit l kvs = true from
    g kvs fun q hq => ⟨by
      unfold lookK
      obtain ⟨i, hi, e⟩ := List.getElem_of_mem hq
      have : kvs.find? (fun p => decide (p.1 = q.1)) = some q := by
        rw [List.find?_eq_some_iff_append]
        refine ⟨by simp, kvs.take i, kvs.drop (i + 1), ?_, ?_⟩
        · rw [← e]; simp
        · intro a ha
          obtain ⟨j, hj, ej⟩ := List.mem_take_iff_getElem.mp ha
          have hji : j < i := by omega
          have hjl : j < kvs.length := by omega
          have := List.pairwise_iff_getElem.mp nd j i (by simpa using hjl) (by simpa using hi) hji
          simp only [List.getElem_map] at this
          rw [← ej, ← e]
          simpa using this
      rw [this]; rfl, h q hq⟩
  intro l
  induction l with
  | nil => intro _; rfl
  | cons q l ih =>
    intro hl
    obtain ⟨h1, h2⟩ := hl q (by simp)
    have ih := ih fun q hq => hl q (by simp [hq])
    obtain ⟨k, d⟩ := q
    unfold allHit
    simp only at h1 h2
    rw [h1, ih]
    simp [eqD_refl h2]
theorem eqDD_self {kvs : List (Key × D)} {neg : Bool} (nd : (kvs.map (·.1)).Nodup) (h : ∀ q ∈ kvs, PyOk 64 q.2) : eqDD neg (.dic kvs) (.dic kvs) = some (.bl neg) := by
  unfold eqDD
  simp [allHit_self nd h]
inductive Deed where
  | say (s : Sg) | drop (i : Int) | weigh (n : Str) (a b : Int) | back
def dE : Deed → D
  | .say s => .tup [.str ("say" : Str), enc s]
  | .drop i => .tup [.str ("drop" : Str), .int i]
  | .weigh n a b => .tup [.str ("weigh" : Str), .str n, .tup [.int a, .int b]]
  | .back => .tup [.str ("back" : Str)]
def frs : List (Int × Int) := [(1, 2), (3, 1), (0, 1), (5, 4), (2, 4), (-1, 2), (1, 0)]
def DOk (mk ti : List Str) : Deed → Prop
  | .say s => SgOk mk ti [] 60 12 s
  | .weigh _ a b => (a, b) ∈ frs
  | _ => True
def dT (c p tg : D) (ps : List Hs) (cur : Hs) (g : List D) : List D := hT c p tg (ps.map stE) (cur.ss.map enc) cur.w (.lst ((ps ++ [cur]).map stE)) g
section
variable {c p tg rows : D} {P k g : List D} {w : List (Key × D)} {e : List Slot} {XP : Xn → S → Prop} {mk ti fu : List Str}
@[simp] theorem hT_len : (hT c p tg P k w rows g).length = g.length + 5 := rfl
@[simp] theorem hT_set {d : D} : (hT c p tg P k w rows g).set 4 d = hT c p tg P k w d g := rfl
theorem did_say {s : Sg} (hi : SgIn mk ti s) (hz : siz s ≤ 100) (hd : dep s ≤ 20) (hf : ∀ x, fr s x = false) (hP : P.length < lim) (hk : k.length < 3) {Q : D → S → Prop} :
    Wp (g__law_did [.ptr 3, dE (.say s)] ⟨[], hT c p (tgD mk ti fu) P k w rows g⟩) Q = Q .non ⟨[], hT c p (tgD mk ti fu) (P ++ [.tup [.lst k, .dic w]]) (k ++ [enc s]) w rows g⟩ := by
  simp [g__law_did, b__law_did, wp_sTry, dE, eqD_s, say_ok hi hz hd hf hP (Nat.le_of_lt hk), Nat.ne_of_lt hk]
theorem did_many {s : Sg} (hi : SgIn mk ti s) (hz : siz s ≤ 100) (hd : dep s ≤ 20) (hf : ∀ x, fr s x = false) (hP : P.length < lim) (hk : k.length = 3) {Q : D → S → Prop} :
    Wp (g__law_did [.ptr 3, dE (.say s)] ⟨[], hT c p (tgD mk ti fu) P k w rows g⟩) Q = Q (.str ("many" : Str)) ⟨[], hT c p (tgD mk ti fu) P k w rows g⟩ := by
  simp [g__law_did, b__law_did, wp_sTry, dE, eqD_s, say_ok hi hz hd hf hP (Nat.le_of_eq hk), hk, runH, exm_tab]
theorem did_drop {i : Int} (hP : P.length < lim) (hk : k.length ≤ 3) (hi : 0 ≤ i ∧ i < k.length) {Q : D → S → Prop} :
    Wp (g__law_did [.ptr 3, dE (.drop i)] ⟨[], hT c p tg P k w rows g⟩) Q = Q .non ⟨[], hT c p tg (P ++ [.tup [.lst k, .dic w]]) (k.take i.toNat ++ k.drop (i + 1).toNat) w rows g⟩ := by
  have h := fun {XP Q} => drop_ok (c := c) (p := p) (tg := tg) (w := w) (rows := rows) (g := g) (XP := XP) (i := i) hP hk (Q := Q)
  simp only [if_pos hi] at h
  simp [g__law_did, b__law_did, wp_sTry, dE, eqD_s, h]
theorem did_said {i : Int} (hP : P.length < lim) (hk : k.length ≤ 3) (hi : ¬ (0 ≤ i ∧ i < k.length)) {Q : D → S → Prop} :
    Wp (g__law_did [.ptr 3, dE (.drop i)] ⟨[], hT c p tg P k w rows g⟩) Q = Q (.str ("said" : Str)) ⟨[], hT c p tg P k w rows g⟩ := by
  have h := fun {XP Q} => drop_ok (c := c) (p := p) (tg := tg) (w := w) (rows := rows) (g := g) (XP := XP) (i := i) hP hk (Q := Q)
  simp only [if_neg hi] at h
  simp [g__law_did, b__law_did, wp_sTry, dE, eqD_s, h, runH, exm_tab]
theorem did_weigh {n : Str} {a b : Int} (hb : b < 1000000) (hP : P.length < lim) (hw : w.length < lim) (hm : mk.length ≤ 3) (ht : ti.length ≤ 2) (h : n ∈ mk ++ ti ∧ 1 ≤ b ∧ Int.gcd a b = 1 ∧ 0 ≤ a) {Q : D → S → Prop} :
    Wp (g__law_did [.ptr 3, dE (.weigh n a b)] ⟨[], hT c p (tgD mk ti fu) P k w rows g⟩) Q = Q .non ⟨[], hT c p (tgD mk ti fu) (P ++ [.tup [.lst k, .dic w]]) k (putD w (.inr n) (.tup [.int a, .int b])) rows g⟩ := by
  simp [g__law_did, b__law_did, wp_sTry, dE, eqD_s, weigh_ok hb hP hw hm ht h]
theorem did_weights {n : Str} {a b : Int} (hb : b < 1000000) (hP : P.length < lim) (hw : w.length < lim) (hm : mk.length ≤ 3) (ht : ti.length ≤ 2) (h : ¬ (n ∈ mk ++ ti ∧ 1 ≤ b ∧ Int.gcd a b = 1 ∧ 0 ≤ a)) {Q : D → S → Prop} :
    Wp (g__law_did [.ptr 3, dE (.weigh n a b)] ⟨[], hT c p (tgD mk ti fu) P k w rows g⟩) Q = Q (.str ("weights" : Str)) ⟨[], hT c p (tgD mk ti fu) P k w rows g⟩ := by
  simp [g__law_did, b__law_did, wp_sTry, dE, eqD_s, weigh_no hb hP hw hm ht h, runH, exm_tab]
theorem did_back {k' : List D} {w' : List (Key × D)} {Q : D → S → Prop} : Wp (g__law_did [.ptr 3, dE .back] ⟨[], hT c p tg (P ++ [.tup [.lst k', .dic w']]) k w rows g⟩) Q = Q .non ⟨[], hT c p tg P k' w' rows g⟩ := by
  simp [g__law_did, b__law_did, wp_sTry, dE, eqD_s, back_ok]
theorem did_undo {Q : D → S → Prop} : Wp (g__law_did [.ptr 3, dE .back] ⟨[], hT c p tg [] k w rows g⟩) Q = Q (.str ("undo" : Str)) ⟨[], hT c p tg [] k w rows g⟩ := by
  simp [g__law_did, b__law_did, wp_sTry, dE, eqD_s, back_nil, runH, exm_tab]
end
end Mi

namespace Mi
open PySem PySem.Spec PyProof.Rows L2
theorem in4 : ∀ q ∈ frs, inDpD true (.tup [.int q.1, .int q.2]) (.lst [.tup [.int 1, .int 2], .tup [.int 3, .int 1], .tup [.int 0, .int 1], .tup [.int 5, .int 4]]) = some (.bl (!decide (1 ≤ q.2 ∧ Int.gcd q.1 q.2 = 1 ∧ 0 ≤ q.1))) := by
  intro q hq
  simp only [frs, List.mem_cons, List.not_mem_nil, or_false] at hq
  rcases hq with h | h | h | h | h | h | h <;> subst h <;> rfl
@[simp] theorem negD_i {i : Int} : negD (.int i) = some (.int (-i)) := rfl
section
variable {c p tg rows : D} {P k g X K : List D} {w w' : List (Key × D)} {e : List Slot} {XP : Xn → S → Prop} {mk ti fu ns : List Str}
theorem due_say {s : Sg} (hX : X.length + 1 < lim) (hK : K.length < 3) {Q : D → S → Prop} :
    Wp (g__law_due [.ptr 4, dE (.say s), .lst (ns.map .str)] ⟨[], hT c p tg P k w (.lst (X ++ [.tup [.lst K, .dic w']])) g⟩) Q = Q .non ⟨[], hT c p tg P k w (.lst ((X ++ [.tup [.lst K, .dic w']]) ++ [.tup [.lst (K ++ [enc s]), .dic w']])) g⟩ := by
  have h1 : ¬ ((K.length : Int) = 3) := by omega
  have h2 : K.length + 1 ≤ lim := by show _ ≤ 1000000; omega
  simp [g__law_due, b__law_due, dE, eqD_s, h1, h2, isLst, appD, hX]
theorem due_many {s : Sg} (hK : K.length = 3) {Q : D → S → Prop} :
    Wp (g__law_due [.ptr 4, dE (.say s), .lst (ns.map .str)] ⟨[], hT c p tg P k w (.lst (X ++ [.tup [.lst K, .dic w']])) g⟩) Q = Q (.str ("many" : Str)) ⟨[], hT c p tg P k w (.lst (X ++ [.tup [.lst K, .dic w']])) g⟩ := by
  have h1 : ((K.length : Int) = 3) := by omega
  simp [g__law_due, b__law_due, dE, eqD_s, h1]
theorem due_drop {i : Int} (hX : X.length + 1 < lim) (hK : K.length ≤ 3) (hi : 0 ≤ i ∧ i < K.length) {Q : D → S → Prop} :
    Wp (g__law_due [.ptr 4, dE (.drop i), .lst (ns.map .str)] ⟨[], hT c p tg P k w (.lst (X ++ [.tup [.lst K, .dic w']])) g⟩) Q = Q .non ⟨[], hT c p tg P k w (.lst ((X ++ [.tup [.lst K, .dic w']]) ++ [.tup [.lst (K.take i.toNat ++ K.drop (i + 1).toNat), .dic w']])) g⟩ := by
  have l1 : min i.toNat K.length + (K.length - (i + 1).toNat) ≤ lim := by show _ ≤ 1000000; omega
  simp [g__law_due, b__law_due, dE, eqD_s, hi, cutD_take hi.1, cutD_from (show 0 ≤ i + 1 by omega), slD, l1, isLst, appD, hX]
theorem due_said {i : Int} (hi : ¬ (0 ≤ i ∧ i < K.length)) {Q : D → S → Prop} :
    Wp (g__law_due [.ptr 4, dE (.drop i), .lst (ns.map .str)] ⟨[], hT c p tg P k w (.lst (X ++ [.tup [.lst K, .dic w']])) g⟩) Q = Q (.str ("said" : Str)) ⟨[], hT c p tg P k w (.lst (X ++ [.tup [.lst K, .dic w']])) g⟩ := by
  have h1 := fun {e t Q} => @wp_inRngR (s := ⟨e, t⟩) (neg := true) (i := i) (j := K.length) (Q := Q)
  rw [decide_eq_false hi] at h1
  simp [g__law_due, b__law_due, dE, eqD_s, h1, -wp_inRngR]
theorem due_weigh {n : Str} {a b : Int} (hX : X.length + 1 < lim) (hw : w'.length < lim) (hf : (a, b) ∈ frs) (h : n ∈ ns ∧ 1 ≤ b ∧ Int.gcd a b = 1 ∧ 0 ≤ a) {Q : D → S → Prop} :
    Wp (g__law_due [.ptr 4, dE (.weigh n a b), .lst (ns.map .str)] ⟨[], hT c p tg P k w (.lst (X ++ [.tup [.lst K, .dic w']])) g⟩) Q = Q .non ⟨[], hT c p tg P k w (.lst ((X ++ [.tup [.lst K, .dic w']]) ++ [.tup [.lst K, .dic (putD w' (.inr n) (.tup [.int a, .int b]))]])) g⟩ := by
  have h1 := in4 _ hf
  simp only at h1
  rw [decide_eq_true h.2] at h1
  have hset : setD (.dic w') (.str n) (.tup [.int a, .int b]) = some (.dic (putD w' (.inr n) (.tup [.int a, .int b]))) := by
    show (if w'.length < lim then _ else _) = _
    rw [if_pos hw]
  simp [g__law_due, b__law_due, dE, eqD_s, notin_strs, h.1, h1, hset, isLst, appD, hX]
theorem due_weights {n : Str} {a b : Int} (hf : (a, b) ∈ frs) (h : ¬ (n ∈ ns ∧ 1 ≤ b ∧ Int.gcd a b = 1 ∧ 0 ≤ a)) {Q : D → S → Prop} :
    Wp (g__law_due [.ptr 4, dE (.weigh n a b), .lst (ns.map .str)] ⟨[], hT c p tg P k w (.lst (X ++ [.tup [.lst K, .dic w']])) g⟩) Q = Q (.str ("weights" : Str)) ⟨[], hT c p tg P k w (.lst (X ++ [.tup [.lst K, .dic w']])) g⟩ := by
  have h1 := in4 _ hf
  simp only at h1
  by_cases h2 : n ∈ ns
  · rw [decide_eq_false fun z => h ⟨h2, z⟩] at h1
    simp [g__law_due, b__law_due, dE, eqD_s, notin_strs, h2, h1]
  · simp [g__law_due, b__law_due, dE, eqD_s, notin_strs, h2]
theorem due_undo {Q : D → S → Prop} :
    Wp (g__law_due [.ptr 4, dE .back, .lst (ns.map .str)] ⟨[], hT c p tg P k w (.lst [.tup [.lst K, .dic w']]) g⟩) Q = Q (.str ("undo" : Str)) ⟨[], hT c p tg P k w (.lst [.tup [.lst K, .dic w']]) g⟩ := by
  have h := @atI_m1 D [] (.tup [.lst K, .dic w'])
  simp only [List.nil_append] at h
  simp [g__law_due, b__law_due, dE, eqD_s, h]
theorem due_back {x : D} {Q : D → S → Prop} :
    Wp (g__law_due [.ptr 4, dE .back, .lst (ns.map .str)] ⟨[], hT c p tg P k w (.lst ((X ++ [x]) ++ [.tup [.lst K, .dic w']])) g⟩) Q = Q .non ⟨[], hT c p tg P k w (.lst (X ++ [x])) g⟩ := by
  have h : ¬ ((X.length : Int) + 1 + 1 = 1) := by omega
  have e1 := @atI_m1 D (X ++ [x]) (.tup [.lst K, .dic w'])
  have e2 := @popD_snoc (X ++ [x]) (.tup [.lst K, .dic w'])
  obtain ⟨Y, hY⟩ : ∃ Y, Y = X ++ [x] := ⟨_, rfl⟩
  have hl : Y.length = X.length + 1 := by rw [hY]; simp
  have h : ¬ ((Y.length : Int) + 1 = 1) := by omega
  have h0 : ¬ Y = [] := by rw [hY]; simp
  rw [← hY]
  simp [g__law_due, b__law_due, dE, eqD_s, h, h0, isLst]
end
end Mi

namespace Mi
open PySem PySem.Spec PyProof.Rows L2
def bIf : M Fl := (sIf (tstB (op2 (cmpD fun i j => decide (i < j)) (vr 8) (kk (.int (2 : Int)))))
    (sSeq (sAsg (gN 9) (eTup (aCons (kk (.str ("say" : Str))) (aCons (eCall g__law_said (aCons (vr 1) (aCons (vr 2) (aCons (kk (.int (1 : Int))) aNil)))) aNil))))
    (sIf (tstB (op2 (eqD false) (eCall g__law_draw (aCons (vr 1) (aCons (kk (.int (6 : Int))) aNil))) (kk (.int (0 : Int)))))
    (sAsg (gN 9) (eTup (aCons (kk (.str ("say" : Str))) (aCons (eTup (aCons (kk (.str ("each" : Str))) (aCons (kk (.str ("x" : Str))) (aCons (eTup (aCons (kk (.str ("and" : Str))) (aCons (eCall g__law_one (aCons (vr 1) (aCons (vr 2) (aCons (kk (.str ("x" : Str))) (aCons (kk (.int (2 : Int))) aNil))))) (aCons (eCall g__law_one (aCons (vr 1) (aCons (vr 2) (aCons (kk (.str ("x" : Str))) (aCons (kk (.int (2 : Int))) aNil))))) aNil)))) aNil)))) aNil))))
    sNx))
    (sIf (tstB (op2 (eqD false) (vr 8) (kk (.int (2 : Int)))))
    (sAsg (gN 9) (eTup (aCons (kk (.str ("drop" : Str))) (aCons (op2 ixD (eFrz (nLst (aCons (kk (.int (0 : Int))) (aCons (kk (.int (1 : Int))) (aCons (kk (.int (2 : Int))) (aCons (op1 negD (kk (.int (1 : Int)))) (aCons (kk (.int (3 : Int))) (aCons (op2 powD (kk (.int (10 : Int))) (kk (.int (20 : Int)))) aNil)))))))) (eCall g__law_draw (aCons (vr 1) (aCons (kk (.int (6 : Int))) aNil)))) aNil))))
    (sIf (tstB (op2 (eqD false) (vr 8) (kk (.int (3 : Int)))))
    (sSeq (sAsg (gN 13) (eFrz (nLst (aCons (eTup (aCons (kk (.int (1 : Int))) (aCons (kk (.int (2 : Int))) aNil))) (aCons (eTup (aCons (kk (.int (3 : Int))) (aCons (kk (.int (1 : Int))) aNil))) (aCons (eTup (aCons (kk (.int (0 : Int))) (aCons (kk (.int (1 : Int))) aNil))) (aCons (eTup (aCons (kk (.int (5 : Int))) (aCons (kk (.int (4 : Int))) aNil))) (aCons (eTup (aCons (kk (.int (2 : Int))) (aCons (kk (.int (4 : Int))) aNil))) (aCons (eTup (aCons (op1 negD (kk (.int (1 : Int)))) (aCons (kk (.int (2 : Int))) aNil))) (aCons (eTup (aCons (kk (.int (1 : Int))) (aCons (kk (.int (0 : Int))) aNil))) aNil))))))))))
    (sAsg (gN 9) (eTup (aCons (kk (.str ("weigh" : Str))) (aCons (op2 ixD (op2 addD (vr 5) (eFrz (nLst (aCons (kk (.str ("spares" : Str))) aNil)))) (eCall g__law_draw (aCons (vr 1) (aCons (op2 addD (opC lenD (aCons (vr 5) aNil)) (kk (.int (1 : Int)))) aNil)))) (aCons (op2 ixD (vr 13) (eCall g__law_draw (aCons (vr 1) (aCons (kk (.int (7 : Int))) aNil)))) aNil))))))
    sNx)))
def bRest : M Fl := (sSeq (sAsg (gN 10) (eCall g__law_due (aCons (vr 6) (aCons (vr 9) (aCons (vr 5) aNil)))))
    (sSeq (sAsg (gN 11) (eCall g__law_did (aCons (vr 4) (aCons (vr 9) aNil))))
    (sSeq (sIf (mOr (tstB (op2 (eqD true) (vr 11) (vr 10))) (mOr (tstB (op2 (eqD true) (eMeth 1 ("said" : Str) g_Hall_said (vr 4) aNil) (op2 ixD (op2 ixD (vr 6) (op1 negD (kk (.int (1 : Int))))) (kk (.int (0 : Int)))))) (mOr (tstB (op2 (eqDD false) (eMeth 1 ("scales" : Str) g_Hall_scales (vr 4) aNil) (op2 ixD (op2 ixD (vr 6) (op1 negD (kk (.int (1 : Int))))) (kk (.int (1 : Int)))))) (tstB (op2 (eqD true) (eMeth 1 ("depth" : Str) g_Hall_depth (vr 4) aNil) (op2 subD (opC lenD (aCons (vr 6) aNil)) (kk (.int (1 : Int)))))))))
    (sRet (kk (.bl false)))
    sNx)
    (sSeq (sExpr (eMu isLst appD (eMeth 1 ("said" : Str) g_Hall_said (vr 4) aNil) (aCons (kk .non) aNil)))
    (sSeq (sAsg (gN 12) (eMeth 1 ("scales" : Str) g_Hall_scales (vr 4) aNil))
    (sSeq (sSub setD (kk .non) (vr 12) (kk (.str ("spares" : Str))))
    (sIf (mOr (tstB (op2 (eqD true) (eMeth 1 ("said" : Str) g_Hall_said (vr 4) aNil) (op2 ixD (op2 ixD (vr 6) (op1 negD (kk (.int (1 : Int))))) (kk (.int (0 : Int)))))) (mOr (tstB (op2 (eqDD false) (eMeth 1 ("scales" : Str) g_Hall_scales (vr 4) aNil) (op2 ixD (op2 ixD (vr 6) (op1 negD (kk (.int (1 : Int))))) (kk (.int (1 : Int)))))) (tstB (eNeO 0 g_Tongue___eq__ (eMeth 1 ("language" : Str) g_Hall_language (vr 4) aNil) (vr 3)))))
    (sRet (kk (.bl false)))
    sNx)))))))
section
variable {c p tg rows : D} {P k g : List D} {w : List (Key × D)} {e : List Slot} {XP : Xn → S → Prop} {mk ti fu ns : List Str} {ps : List Hs} {cur : Hs}
theorem push {n : Nat} {nxt : Hs} {d : Deed} (hok : ∀ h ∈ ps ++ [cur], HOk n mk ti h) (hl : ps.length ≤ n) (hn : HOk (n + 1) mk ti nxt)
    (h1 : ∀ {Q : D → S → Prop}, Wp (g__law_due [.ptr 4, dE d, .lst (ns.map .str)] ⟨[], dT c p tg ps cur g⟩) Q = Q .non ⟨[], hT c p tg (ps.map stE) (cur.ss.map enc) cur.w (.lst ((ps.map stE ++ [stE cur]) ++ [stE nxt])) g⟩)
    (h2 : ∀ {Q : D → S → Prop}, Wp (g__law_did [.ptr 3, dE d] ⟨[], hT c p tg (ps.map stE) (cur.ss.map enc) cur.w (.lst ((ps.map stE ++ [stE cur]) ++ [stE nxt])) g⟩) Q = Q .non ⟨[], hT c p tg (ps.map stE ++ [stE cur]) (nxt.ss.map enc) nxt.w (.lst ((ps.map stE ++ [stE cur]) ++ [stE nxt])) g⟩) :
    ∃ o ps' cur' T1, PyOk 1 o ∧ (∀ h ∈ ps' ++ [cur'], HOk (n + 1) mk ti h) ∧ ps'.length ≤ n + 1 ∧ (∀ {Q : D → S → Prop}, Wp (g__law_due [.ptr 4, dE d, .lst (ns.map .str)] ⟨[], dT c p tg ps cur g⟩) Q = Q o ⟨[], T1⟩) ∧
      (∀ {Q : D → S → Prop}, Wp (g__law_did [.ptr 3, dE d] ⟨[], T1⟩) Q = Q o ⟨[], dT c p tg ps' cur' g⟩) := by
  refine ⟨.non, ps ++ [cur], nxt, _, pyok_non, fun h hm => ?_, by simp; omega, h1, ?_⟩
  · rcases List.mem_append.mp hm with hm | hm
    · exact (hok h hm).mono (by omega)
    · simp only [List.mem_singleton] at hm; subst hm; exact hn
  · intro Q
    have e : dT c p tg (ps ++ [cur]) nxt g = hT c p tg (ps.map stE ++ [stE cur]) (nxt.ss.map enc) nxt.w (.lst ((ps.map stE ++ [stE cur]) ++ [stE nxt])) g := by simp [dT]
    rw [e]
    exact h2
theorem turn_ok {n : Nat} (hs : ShOk mk ti fu) (hns : ns = mk ++ ti) (d : Deed) (hd : DOk mk ti d) (hok : ∀ h ∈ ps ++ [cur], HOk n mk ti h) (hn : n < 1000) (hl : ps.length ≤ n) :
    ∃ o ps' cur' T1, PyOk 1 o ∧ (∀ h ∈ ps' ++ [cur'], HOk (n + 1) mk ti h) ∧ ps'.length ≤ n + 1 ∧ (∀ {Q : D → S → Prop}, Wp (g__law_due [.ptr 4, dE d, .lst (ns.map .str)] ⟨[], dT c p (tgD mk ti fu) ps cur g⟩) Q = Q o ⟨[], T1⟩) ∧
      (∀ {Q : D → S → Prop}, Wp (g__law_did [.ptr 3, dE d] ⟨[], T1⟩) Q = Q o ⟨[], dT c p (tgD mk ti fu) ps' cur' g⟩) := by
  have hc := hok cur (by simp)
  have l3 := hc.l3
  have wl := hc.wl
  have P1 : (ps.map stE).length + 1 < lim := by rw [List.length_map]; show _ < 1000000; omega
  have P0 : (ps.map stE).length < lim := by omega
  have W0 : cur.w.length < lim := by show _ < 1000000; omega
  have hok' : ∀ h ∈ ps ++ [cur], HOk (n + 1) mk ti h := fun h hm => (hok h hm).mono (by omega)
  have eT : dT c p (tgD mk ti fu) ps cur g = hT c p (tgD mk ti fu) (ps.map stE) (cur.ss.map enc) cur.w (.lst (ps.map stE ++ [.tup [.lst (cur.ss.map enc), .dic cur.w]])) g := by simp [dT, stE]
  have m3 := hs.m3
  have t2 := hs.t2
  have stay : ∀ o : D, PyOk 1 o → (∀ {Q : D → S → Prop}, Wp (g__law_due [.ptr 4, dE d, .lst (ns.map .str)] ⟨[], dT c p (tgD mk ti fu) ps cur g⟩) Q = Q o ⟨[], dT c p (tgD mk ti fu) ps cur g⟩) →
      (∀ {Q : D → S → Prop}, Wp (g__law_did [.ptr 3, dE d] ⟨[], dT c p (tgD mk ti fu) ps cur g⟩) Q = Q o ⟨[], dT c p (tgD mk ti fu) ps cur g⟩) →
      ∃ o ps' cur' T1, PyOk 1 o ∧ (∀ h ∈ ps' ++ [cur'], HOk (n + 1) mk ti h) ∧ ps'.length ≤ n + 1 ∧ (∀ {Q : D → S → Prop}, Wp (g__law_due [.ptr 4, dE d, .lst (ns.map .str)] ⟨[], dT c p (tgD mk ti fu) ps cur g⟩) Q = Q o ⟨[], T1⟩) ∧
      (∀ {Q : D → S → Prop}, Wp (g__law_did [.ptr 3, dE d] ⟨[], T1⟩) Q = Q o ⟨[], dT c p (tgD mk ti fu) ps' cur' g⟩) :=
    fun o ho h1 h2 => ⟨o, ps, cur, _, ho, hok', by omega, h1, h2⟩
  cases d with
  | say s =>
    have hd : SgOk mk ti [] 60 12 s := hd
    have z := hd.sz
    have q := hd.dp
    have hf : ∀ x, fr s x = false := fun x => by
      cases e : fr s x with
      | false => rfl
      | true => have := hd.fv x e; simp at this
    by_cases h : cur.ss.length = 3
    · refine stay (.str ("many" : Str)) (pyok_str (by simp)) ?_ ?_
      · intro Q; rw [eT]; exact due_many (by simpa using h)
      · intro Q; rw [eT]; exact did_many hd.inn (by omega) (by omega) hf P0 (by simpa using h)
    · refine push (nxt := ⟨cur.ss ++ [s], cur.w⟩) hok hl ⟨by simp; omega, fun s' hm => ?_, hc.nd, hc.wo, by show cur.w.length ≤ _; omega⟩ ?_ ?_
      · rcases List.mem_append.mp hm with hm | hm
        · exact hc.so s' hm
        · simp only [List.mem_singleton] at hm; subst hm; exact hd
      · intro Q; rw [eT, due_say P1 (by simp; omega)]; simp [stE]
      · intro Q; rw [did_say hd.inn (by omega) (by omega) hf P0 (by simp; omega)]; simp [stE]
  | drop i =>
    by_cases h : 0 ≤ i ∧ i < cur.ss.length
    · refine push (nxt := ⟨cur.ss.take i.toNat ++ cur.ss.drop (i + 1).toNat, cur.w⟩) hok hl ⟨by simp; omega, fun s' hm => ?_, hc.nd, hc.wo, by show cur.w.length ≤ _; omega⟩ ?_ ?_
      · rcases List.mem_append.mp hm with hm | hm
        · exact hc.so s' (List.mem_of_mem_take hm)
        · exact hc.so s' (List.mem_of_mem_drop hm)
      · intro Q; rw [eT, due_drop P1 (by simp; omega) (by simpa using h)]; simp [stE]
      · intro Q; rw [did_drop P0 (by simp; omega) (by simpa using h)]; simp [stE]
    · refine stay (.str ("said" : Str)) (pyok_str (by simp)) ?_ ?_
      · intro Q; rw [eT]; exact due_said (by simpa using h)
      · intro Q; rw [eT]; exact did_said P0 (by simp; omega) (by simpa using h)
  | weigh nm a b =>
    have hd : (a, b) ∈ frs := hd
    have hb : b < 1000000 := by
      simp only [frs, List.mem_cons, Prod.mk.injEq, List.not_mem_nil, or_false] at hd
      omega
    by_cases h : nm ∈ ns ∧ 1 ≤ b ∧ Int.gcd a b = 1 ∧ 0 ≤ a
    · refine push (nxt := ⟨cur.ss, putD cur.w (.inr nm) (.tup [.int a, .int b])⟩) hok hl ⟨l3, hc.so, putD_nd hc.nd, fun q hq => ?_, ?_⟩ ?_ ?_
      · rcases putD_mem hq with hq | hq
        · exact hc.wo q hq
        · rw [hq]; exact (pyok_tup (n := 0) (by simp; exact ⟨pyok_int, pyok_int⟩)).mono (by omega)
      · have := putD_len (kvs := cur.w) (k := .inr nm) (v := .tup [.int a, .int b])
        show (putD _ _ _).length ≤ _
        omega
      · intro Q; rw [eT, due_weigh P1 W0 hd h]; simp [stE]
      · intro Q; rw [did_weigh hb P0 W0 m3 t2 (hns ▸ h)]; simp [stE]
    · refine stay (.str ("weights" : Str)) (pyok_str (by simp)) ?_ ?_
      · intro Q; rw [eT]; exact due_weights hd h
      · intro Q; rw [eT]; exact did_weights hb P0 W0 m3 t2 (hns ▸ h)
  | back =>
    rcases List.eq_nil_or_concat ps with e | ⟨ps0, q, e⟩
    · subst e
      refine stay (.str ("undo" : Str)) (pyok_str (by simp)) ?_ ?_
      · intro Q; rw [eT]; exact due_undo
      · intro Q; rw [eT]; exact did_undo
    · rw [List.concat_eq_append] at e
      subst e
      have eT' : dT c p (tgD mk ti fu) (ps0 ++ [q]) cur g = hT c p (tgD mk ti fu) (ps0.map stE ++ [.tup [.lst (q.ss.map enc), .dic q.w]]) (cur.ss.map enc) cur.w (.lst ((ps0.map stE ++ [stE q]) ++ [.tup [.lst (cur.ss.map enc), .dic cur.w]])) g := by simp [dT, stE]
      refine ⟨.non, ps0, q, hT c p (tgD mk ti fu) (ps0.map stE ++ [.tup [.lst (q.ss.map enc), .dic q.w]]) (cur.ss.map enc) cur.w (.lst (ps0.map stE ++ [stE q])) g, pyok_non, fun h hm => hok' h (List.mem_append_left _ hm), by (rw [List.length_append, List.length_singleton] at hl; omega), ?_, ?_⟩
      · intro Q; rw [eT']; exact due_back
      · intro Q
        rw [did_back]
        simp [dT, stE]
end
end Mi

namespace Mi
open PySem PySem.Spec PyProof.Rows L2
section
variable {c p tg rows : D} {P k g : List D} {w : List (Key × D)} {e : List Slot} {XP : Xn → S → Prop} {mk ti fu ns : List Str} {ps : List Hs} {cur : Hs}
@[simp] theorem hT_i2 {h} : (hT c p tg P k w rows g)[(2 : Nat)]'h = .lst P := rfl
@[simp] theorem hT_i3 {h} : (hT c p tg P k w rows g)[(3 : Nat)]'h = hlD tg (.lst k) (.dic w) := rfl
@[simp] theorem hT_i4 {h} : (hT c p tg P k w rows g)[(4 : Nat)]'h = rows := rfl
@[simp] theorem hT_ig {n : Nat} {h : n + 5 < (hT c p tg P k w rows g).length} : (hT c p tg P k w rows g)[n + 5]'h = g[n]'(Nat.lt_of_add_lt_add_right h) := rfl
@[simp] theorem g_i0 {x : D} {l : List D} {h : g.length < (g ++ x :: l).length} : (g ++ x :: l)[g.length]'h = x := by
  rw [List.getElem_append_right (Nat.le_refl _)]; simp
@[simp] theorem g_i1 {x y : D} {l : List D} {h : g.length + 1 < (g ++ x :: y :: l).length} : (g ++ x :: y :: l)[g.length + 1]'h = y := by
  rw [List.getElem_append_right (by omega)]; simp
@[simp] theorem g_i2 {x y z : D} {l : List D} {h : g.length + 2 < (g ++ x :: y :: z :: l).length} : (g ++ x :: y :: z :: l)[g.length + 2]'h = z := by
  rw [List.getElem_append_right (by omega)]; simp
@[simp] theorem hT_app {x : D} : hT c p tg P k w rows g ++ [x] = hT c p tg P k w rows (g ++ [x]) := rfl
@[simp] theorem hT_get {n : Nat} : (hT c p tg P k w rows g)[n + 5]? = g[n]? := rfl
@[simp] theorem hT_setg {n : Nat} {d : D} : (hT c p tg P k w rows g).set (n + 5) d = hT c p tg P k w rows (g.set n d) := rfl
@[simp] theorem g_app {l : List D} {n : Nat} : (g ++ l)[g.length + n]? = l[n]? := by
  rw [List.getElem?_append_right (by omega)]; congr 1; omega
@[simp] theorem said_m {Q : D → S → Prop} : Wp (g_Hall_said [.ptr 3] ⟨[], hT c p tg P k w rows g⟩) Q = Q (.ptr (g.length + 5)) ⟨[], hT c p tg P k w rows (g ++ [.lst k])⟩ := by
  simp [g_Hall_said, b_Hall_said]
@[simp] theorem scales_m {Q : D → S → Prop} : Wp (g_Hall_scales [.ptr 3] ⟨[], hT c p tg P k w rows g⟩) Q = Q (.ptr (g.length + 5)) ⟨[], hT c p tg P k w rows (g ++ [.dic w])⟩ := by
  simp [g_Hall_scales, b_Hall_scales]
@[simp] theorem depth_m {Q : D → S → Prop} : Wp (g_Hall_depth [.ptr 3] ⟨[], hT c p tg P k w rows g⟩) Q = Q (.int P.length) ⟨[], hT c p tg P k w rows g⟩ := by
  simp [g_Hall_depth, b_Hall_depth]
@[simp] theorem lang_m {Q : D → S → Prop} : Wp (g_Hall_language [.ptr 3] ⟨[], hT c p tg P k w rows g⟩) Q = Q tg ⟨[], hT c p tg P k w rows g⟩ := by
  simp [g_Hall_language, b_Hall_language]
@[simp] theorem fld_fu {mk ti fu : List Str} : fldD 0 ("functions" : Str) (tgD mk ti fu) = some (.tup (fu.map .str)) := by
  have e : (("functions" : Str) == ("kept_marks" : Str)) = false := by decide +kernel
  have e2 : (("functions" : Str) == ("kept_ties" : Str)) = false := by decide +kernel
  simp [tgD, fldD, List.lookup, e, e2]
theorem teq_ok (h1 : ∀ w ∈ mk, NmOk w) (h2 : ∀ w ∈ ti, NmOk w) (h3 : ∀ w ∈ fu, NmOk w) {t : List D} {Q : D → S → Prop} : Wp (g_Tongue___eq__ [tgD mk ti fu, tgD mk ti fu] ⟨[], t⟩) Q = Q (.bl true) ⟨[], t⟩ := by
  have e1 : tyN (tgD mk ti fu) = some (.inr 0) := rfl
  have e2 : isa_own_Tongue (.inr 0) = some true := rfl
  have q1 := fun {b} => eqD_refl ((pyok_strs h1).mono (show 1 ≤ 64 by omega)) (b := b)
  have q2 := fun {b} => eqD_refl ((pyok_strs h2).mono (show 1 ≤ 64 by omega)) (b := b)
  have q3 := fun {b} => eqD_refl ((pyok_strs h3).mono (show 1 ≤ 64 by omega)) (b := b)
  simp [g_Tongue___eq__, b_Tongue___eq__, e1, e2, q1, q2, q3]
def hTl (tg : D) (ps : List Hs) (cur : Hs) (g : List D) : List D := .lst (ps.map stE) :: hlD tg (.lst (cur.ss.map enc)) (.dic cur.w) :: .lst ((ps ++ [cur]).map stE) :: g
theorem elT {t : List D} (h : PoolOk (hTl tg ps cur g) t) : ∃ c p, t = dT c p tg ps cur g ∧ PoolOk (hTl tg ps cur g) (dT c p tg ps cur g) ∧ ∀ R', PoolOk R' (c :: p :: R') := by
  obtain ⟨c, p, rfl, hp⟩ := h.elim
  exact ⟨c, p, rfl, h, hp⟩
theorem bIf_ok (hs : ShOk mk ti fu) (hns : ns.length ≤ 5) {kd : Int} {a0 a7 a10 a11 a12 a13 : Slot} (hp : PoolOk (hTl tg ps cur g) (dT c p tg ps cur g)) {Q : Fl → S → Prop}
    (kQ : ∀ d, DOk mk ti d → ∀ c p a13, PoolOk (hTl tg ps cur g) (dT c p tg ps cur g) → Q .nx ⟨[a0, .val (.ptr 1), .val (shD mk ti fu), .val tg, .val (.ptr 3), .val (.lst (ns.map .str)), .val (.ptr 4), a7, .val (.int kd), .val (dE d), a10, a11, a12, a13], dT c p tg ps cur g⟩) :
    Wp (bIf ⟨[a0, .val (.ptr 1), .val (shD mk ti fu), .val tg, .val (.ptr 3), .val (.lst (ns.map .str)), .val (.ptr 4), a7, .val (.int kd), .val (.tup [.str ("back" : Str)]), a10, a11, a12, a13], dT c p tg ps cur g⟩) Q := by
  unfold bIf
  by_cases c1 : kd < 2
  · simp [c1]
    refine said_ok hs (p := 1) (by omega) hp fun s t hp hs1 => ?_
    simp
    refine draw_ok hp (by omega) (by omega) fun d t h0 h1 hp => ?_
    by_cases c2 : d = 0
    · simp [c2]
      refine one_ok hs false (p := 2) (z := 18) (.inr (by omega)) hp fun s2 t hp hs2 => ?_
      simp
      refine one_ok hs false (p := 2) (z := 18) (.inr (by omega)) hp fun s3 t hp hs3 => ?_
      obtain ⟨c, p, rfl, hp, _⟩ := elT hp
      exact kQ (.say (.qu false false (.bin false s2 s3))) (((hs2.bin hs3 false).qu false false).mono (by omega) (by omega)) _ _ _ hp
    · simp [c2]
      obtain ⟨c, p, rfl, hp, _⟩ := elT hp
      exact kQ (.say s) (hs1.mono (by omega) (by omega)) _ _ _ hp
  · by_cases c2 : kd = 2
    · simp [c1, c2]
      have e10 : powD (.int 10) (.int 20) = some (.int 100000000000000000000) := by simp [powD]
      simp [e10]
      refine draw_ok hp (by omega) (by omega) fun d t h0 h1 hp => ?_
      obtain ⟨i, ei⟩ : ∃ i, atI ([.int 0, .int 1, .int 2, .int (-1), .int 3, .int 100000000000000000000] : List D) d = some (.int i) := by
        obtain ⟨x, ex, mx⟩ := atI_int (xs := ([.int 0, .int 1, .int 2, .int (-1), .int 3, .int 100000000000000000000] : List D)) h0 (by simpa using h1)
        simp only [List.mem_cons, List.not_mem_nil, or_false] at mx
        rcases mx with h | h | h | h | h | h <;> exact ⟨_, h ▸ ex⟩
      simp [ei]
      obtain ⟨c, p, rfl, hp, _⟩ := elT hp
      subst c2
      exact kQ (.drop i) trivial _ _ _ hp
    · by_cases c3 : kd = 3
      · simp [c1, c2, c3]
        have l1 : ns.length + 1 ≤ lim := by show _ ≤ 1000000; omega
        simp [l1]
        refine draw_ok hp (by omega) (by omega) fun d t h0 h1 hp => ?_
        obtain ⟨nm, en, _⟩ := str_at (ws := ns ++ [("spares" : Str)]) h0 (by simp; omega)
        simp only [List.map_append, List.map_cons, List.map_nil] at en
        simp [en]
        refine draw_ok hp (by omega) (by omega) fun d t h0 h1 hp => ?_
        obtain ⟨q, eq, mq⟩ : ∃ q ∈ frs, atI ([.tup [.int 1, .int 2], .tup [.int 3, .int 1], .tup [.int 0, .int 1], .tup [.int 5, .int 4], .tup [.int 2, .int 4], .tup [.int (-1), .int 2], .tup [.int 1, .int 0]] : List D) d = some (.tup [.int q.1, .int q.2]) := by
          obtain ⟨x, ex, mx⟩ := atI_int (xs := frs.map fun q => D.tup [.int q.1, .int q.2]) h0 (by simpa [frs] using h1)
          obtain ⟨q, hq, rfl⟩ := List.mem_map.mp mx
          exact ⟨q, hq, ex⟩
        simp [mq]
        obtain ⟨c, p, rfl, hp, _⟩ := elT hp
        subst c3
        exact kQ (.weigh nm q.1 q.2) eq _ _ _ hp
      · simp [c1, c2, c3]
        exact kQ .back trivial _ _ _ hp
end
end Mi

namespace Mi
open PySem PySem.Spec PyProof.Rows L2
theorem PyOk.np {n : Nat} {d : D} (h : PyOk n d) : noPtr d = true := by
  obtain ⟨p, e, _⟩ := h
  cases d <;> first | rfl | (exfalso; simp [toPy] at e)
section
variable {c p tg rows : D} {P k g : List D} {w : List (Key × D)} {e : List Slot} {XP : Xn → S → Prop} {mk ti fu ns : List Str} {ps : List Hs} {cur : Hs}
theorem bRest_ok {n : Nat} (hs : ShOk mk ti []) (hns : ns = mk ++ ti) (d : Deed) (hd : DOk mk ti d) (hok : ∀ h ∈ ps ++ [cur], HOk n mk ti h) (hn : n < 1000) (hl : ps.length ≤ n) {a0 a1 a2 a7 a8 a10 a11 a12 a13 : Slot}
    (hp : ∀ R', PoolOk R' (c :: p :: R')) {Q : Fl → S → Prop}
    (kQ : ∀ ps' cur' g' a10 a11 a12, (∀ h ∈ ps' ++ [cur'], HOk (n + 1) mk ti h) → ps'.length ≤ n + 1 → Q .nx ⟨[a0, a1, a2, .val (tgD mk ti []), .val (.ptr 3), .val (.lst (ns.map .str)), .val (.ptr 4), a7, a8, .val (dE d), a10, a11, a12, a13], dT c p (tgD mk ti []) ps' cur' g'⟩) :
    Wp (bRest ⟨[a0, a1, a2, .val (tgD mk ti []), .val (.ptr 3), .val (.lst (ns.map .str)), .val (.ptr 4), a7, a8, .val (dE d), a10, a11, a12, a13], dT c p (tgD mk ti []) ps cur g⟩) Q := by
  obtain ⟨o, ps', cur', T1, ho, hok', hl', h1, h2⟩ := turn_ok (c := c) (p := p) (g := g) (fu := []) hs hns d hd hok hn hl
  have hn0 := ho.np
  have ho := fun {b} => eqD_refl (ho.mono (show 1 ≤ 64 by omega)) (b := b)
  have hc := hok' cur' (by simp)
  have qk := fun {b} => eqD_refl (d := .lst (cur'.ss.map enc)) ((pyok_lst (n := 12) fun x hx => by
    obtain ⟨s, hs1, rfl⟩ := List.mem_map.mp hx
    exact (pyok_enc hs.mn hs.tn (hc.so s hs1).inn).mono (hc.so s hs1).dp).mono (by omega)) (b := b)
  have qw := fun {b} => eqDD_self (neg := b) hc.nd fun q hq => (hc.wo q hq).mono (by omega)
  have te := fun {t Q} => teq_ok (fu := []) hs.mn hs.tn (by simp) (t := t) (Q := Q)
  have ne := fun {e t Q} => wp_neOR (c := 0) (g := g_Tongue___eq__) (e := e) (t := t) (dx := tgD mk ti []) (dy := tgD mk ti []) (k := true) (Q := Q) rfl te
  have eT : dT c p (tgD mk ti []) ps' cur' g = hT c p (tgD mk ti []) (ps'.map stE) (cur'.ss.map enc) cur'.w (.lst (ps'.map stE ++ [.tup [.lst (cur'.ss.map enc), .dic cur'.w]])) g := by simp [dT, stE]
  rw [eT] at h2
  have l1 : cur'.ss.length < lim := by have := hc.l3; show _ < 1000000; omega
  have l2 : cur'.w.length < lim := by have := hc.wl; show _ < 1000000; omega
  have hset : setD (.dic cur'.w) (.str ("spares" : Str)) .non = some (.dic (putD cur'.w (.inr ("spares" : Str)) .non)) := by
    show (if cur'.w.length < lim then _ else _) = _
    rw [if_pos l2]
  unfold bRest
  simp [h1, h2, ho, wp_cont hn0, qk, qw, ne, isLst, appD, l1, hset]
  have := kQ ps' cur' (g ++ [.lst (cur'.ss.map enc), .dic cur'.w, .lst (cur'.ss.map enc ++ [.non]), .dic (putD cur'.w (.inr ("spares" : Str)) .non), .lst (cur'.ss.map enc), .dic cur'.w]) (.val o) (.val o) (.val (.ptr (g.length + 3 + 5))) hok' hl'
  simpa [dT, stE] using this
end
theorem law_wp (ns : List Int) (hn : ns.length ≤ 63) : Wp (g_law [.lck (ns.map .int)] ⟨[], []⟩) fun d _ => d = .bl true := by
  simp [g_law, b_law]
  refine pool_ok ns hn fun t hp => ?_
  simp
  refine small_ok hp fun mk ti fu t hp hs hf => ?_
  subst hf
  simp
  refine tongue_ok hs ?_
  obtain ⟨c, p, rfl, hq⟩ := hp.elim
  have l1 : mk.length + ti.length ≤ lim := by have := hs.m3; have := hs.t2; show _ ≤ 1000000; omega
  obtain ⟨nm, hnm⟩ : ∃ nm, nm = mk ++ ti := ⟨_, rfl⟩
  have lnm : nm.length ≤ 5 := by have := hs.m3; have := hs.t2; rw [hnm, List.length_append]; omega
  have enm : mk.map D.str ++ ti.map D.str = nm.map D.str := by rw [hnm, List.map_append]
  simp [g_Hall___init__, b_Hall___init__, g_check_plain, b_check_plain, putFD, shD, addD_t, l1, enm]
  refine draw_ok (hq _) (by omega) (by omega) fun d t h0 h1 hp => ?_
  obtain ⟨c, p, rfl, hq⟩ := hp.elim
  have r0 : -4611686018427387904 ≤ 4 + d ∧ 4 + d < 4611686018427387904 := by omega
  have r1 : (4 + d).toNat < lim := by show _ < 1000000; omega
  simp [r0, wp_forRng r1]
  refine wp_forL_inv (fun i s => ∃ (c p : D) (ps : List Hs) (cur : Hs) (g : List D) (a7 a8 a9 a10 a11 a12 a13 : Slot), s = ⟨[.val (.lck (ns.map .int)), .val (.ptr 1), .val (shD mk ti []), .val (tgD mk ti []), .val (.ptr 3), .val (.lst (nm.map .str)), .val (.ptr 4), a7, a8, a9, a10, a11, a12, a13], dT c p (tgD mk ti []) ps cur g⟩ ∧ (∀ R', PoolOk R' (c :: p :: R')) ∧ (∀ h ∈ ps ++ [cur], HOk i mk ti h) ∧ ps.length ≤ i)
    ⟨c, p, [], ⟨[], []⟩, [], _, _, _, _, _, _, _, rfl, hq, by simp; exact ⟨by simp, by simp, by simp, by simp, by simp⟩, by simp⟩ ?_ ?_
  · rintro i dd s hi ⟨c, p, ps, cur, g, a7, a8, a9, a10, a11, a12, a13, rfl, hp, hok, hl⟩
    refine ⟨_, rfl, ?_⟩
    have il : i < 100 := by
      have := (List.getElem?_eq_some_iff.mp hi).1
      simp at this
      omega
    show Wp ((sSeq (sAsg (gN 8) (eCall g__law_draw (aCons (vr 1) (aCons (kk (.int (5 : Int))) aNil))))
      (sSeq (sAsg (gN 9) (eTup (aCons (kk (.str ("back" : Str))) aNil)))
      (sSeq bIf bRest))) _) _
    simp
    refine draw_ok (R := hTl (tgD mk ti []) ps cur g) (hp _) (by omega) (by omega) fun kd t h0 h1 hp => ?_
    obtain ⟨c, p, rfl, hp, _⟩ := elT hp
    simp
    refine bIf_ok hs lnm hp fun d hd c p a13 hp => ?_
    obtain ⟨c, p, e, hp, hp2⟩ := elT hp
    rw [e]
    rw [nxt_nx]
    refine bRest_ok hs hnm d hd hok (by omega) hl hp2 fun ps' cur' g' a10 a11 a12 h1 h2 => ?_
    exact ⟨c, p, ps', cur', g', _, _, _, _, _, _, _, rfl, hp2, h1, h2⟩
  · rintro s ⟨c, p, ps, cur, g, a7, a8, a9, a10, a11, a12, a13, rfl, hp, hok, hl⟩
    simp
theorem law_pure (ns : List Int) (h : ns.length ≤ 63) : ∃ s', g_law [.lck (ns.map .int)] ⟨[], []⟩ = .ok (.bl true) s' := by
  obtain ⟨d, s', e, rfl⟩ := wp_ex.mp (law_wp ns h)
  exact ⟨s', e⟩
end Mi


namespace Mi
open PySem PySem.Spec PyProof.Rows L2
theorem all_mk {l : PySem.W.OpenLaw} {w : World} {K : PySem.W.Frag} {h : Heap} {mg : Str → Option Value} {fa C_Tongue C_Hall f__law_pool f__law_draw f__law_names f__law_shape f__law_small_shape f_is_sequence f_is_word f_are_names f_is_key f_are_functions f_Tongue___init__ f__law_tongue f_check_plain f_Hall___init__ f__law_due f_is_tuple f_is_headed f_is_name f_Tongue_marks p_Tongue_marks f_Tongue_ties p_Tongue_ties f_is_test f_parts_of f_is_saying f_check_saying f_own_names f_sayings_in f_free_names f_check_closed f_Hall_change f_Hall_say f_is_integer f_is_within f_Hall_drop f_common_divisor f_is_fraction f_is_share f_Hall_weigh f_Hall_back f__law_did f_Hall_scales f_Tongue___eq__ f__law_quantor f__law_test f__law_matrix f__law_one f__law_closed f__law_free f__law_places f__law_said f_Hall_said f_Hall_depth f_Hall_language f_law C_TooMany C_NoSaid C_NoWeights C_NoUndo g_NAMES g_BINDING g_JOINING g_KEPT_WORDS : Addr} {od__law_pool an__law_pool : Option Addr} {oc__law_pool kV__law_pool dc__law_pool pm__law_pool cd__law_pool ct__law_pool : Value} {sl__law_pool : Array (Option Value)} {od__law_draw an__law_draw : Option Addr} {oc__law_draw kV__law_draw dc__law_draw pm__law_draw cd__law_draw ct__law_draw : Value} {sl__law_draw : Array (Option Value)} {od__law_names an__law_names : Option Addr} {oc__law_names kV__law_names dc__law_names pm__law_names cd__law_names ct__law_names : Value} {sl__law_names : Array (Option Value)} {od__law_shape an__law_shape : Option Addr} {oc__law_shape kV__law_shape dc__law_shape pm__law_shape cd__law_shape ct__law_shape : Value} {sl__law_shape : Array (Option Value)} {od__law_small_shape an__law_small_shape : Option Addr} {oc__law_small_shape kV__law_small_shape dc__law_small_shape pm__law_small_shape cd__law_small_shape ct__law_small_shape : Value} {sl__law_small_shape : Array (Option Value)} {od_is_sequence an_is_sequence : Option Addr} {oc_is_sequence kV_is_sequence dc_is_sequence pm_is_sequence cd_is_sequence ct_is_sequence : Value} {sl_is_sequence : Array (Option Value)} {od_is_word an_is_word : Option Addr} {oc_is_word kV_is_word dc_is_word pm_is_word cd_is_word ct_is_word : Value} {sl_is_word : Array (Option Value)} {od_are_names an_are_names : Option Addr} {oc_are_names kV_are_names dc_are_names pm_are_names cd_are_names ct_are_names : Value} {sl_are_names : Array (Option Value)} {od_is_key an_is_key : Option Addr} {oc_is_key kV_is_key dc_is_key pm_is_key cd_is_key ct_is_key : Value} {sl_is_key : Array (Option Value)} {od_are_functions an_are_functions : Option Addr} {oc_are_functions kV_are_functions dc_are_functions pm_are_functions cd_are_functions ct_are_functions : Value} {sl_are_functions : Array (Option Value)} {od_Tongue___init__ an_Tongue___init__ : Option Addr} {oc_Tongue___init__ kV_Tongue___init__ dc_Tongue___init__ pm_Tongue___init__ cd_Tongue___init__ ct_Tongue___init__ : Value} {sl_Tongue___init__ : Array (Option Value)} {od__law_tongue an__law_tongue : Option Addr} {oc__law_tongue kV__law_tongue dc__law_tongue pm__law_tongue cd__law_tongue ct__law_tongue : Value} {sl__law_tongue : Array (Option Value)} {od_check_plain an_check_plain : Option Addr} {oc_check_plain kV_check_plain dc_check_plain pm_check_plain cd_check_plain ct_check_plain : Value} {sl_check_plain : Array (Option Value)} {od_Hall___init__ an_Hall___init__ : Option Addr} {oc_Hall___init__ kV_Hall___init__ dc_Hall___init__ pm_Hall___init__ cd_Hall___init__ ct_Hall___init__ : Value} {sl_Hall___init__ : Array (Option Value)} {od__law_due an__law_due : Option Addr} {oc__law_due kV__law_due dc__law_due pm__law_due cd__law_due ct__law_due : Value} {sl__law_due : Array (Option Value)} {od_is_tuple an_is_tuple : Option Addr} {oc_is_tuple kV_is_tuple dc_is_tuple pm_is_tuple cd_is_tuple ct_is_tuple : Value} {sl_is_tuple : Array (Option Value)} {od_is_headed an_is_headed : Option Addr} {oc_is_headed kV_is_headed dc_is_headed pm_is_headed cd_is_headed ct_is_headed : Value} {sl_is_headed : Array (Option Value)} {od_is_name an_is_name : Option Addr} {oc_is_name kV_is_name dc_is_name pm_is_name cd_is_name ct_is_name : Value} {sl_is_name : Array (Option Value)} {r_Tongue_marks : List Value} {od_Tongue_marks an_Tongue_marks : Option Addr} {oc_Tongue_marks kV_Tongue_marks dc_Tongue_marks pm_Tongue_marks cd_Tongue_marks ct_Tongue_marks : Value} {sl_Tongue_marks : Array (Option Value)} {r_Tongue_ties : List Value} {od_Tongue_ties an_Tongue_ties : Option Addr} {oc_Tongue_ties kV_Tongue_ties dc_Tongue_ties pm_Tongue_ties cd_Tongue_ties ct_Tongue_ties : Value} {sl_Tongue_ties : Array (Option Value)} {od_is_test an_is_test : Option Addr} {oc_is_test kV_is_test dc_is_test pm_is_test cd_is_test ct_is_test : Value} {sl_is_test : Array (Option Value)} {od_parts_of an_parts_of : Option Addr} {oc_parts_of kV_parts_of dc_parts_of pm_parts_of cd_parts_of ct_parts_of : Value} {sl_parts_of : Array (Option Value)} {od_is_saying an_is_saying : Option Addr} {oc_is_saying kV_is_saying dc_is_saying pm_is_saying cd_is_saying ct_is_saying : Value} {sl_is_saying : Array (Option Value)} {od_check_saying an_check_saying : Option Addr} {oc_check_saying kV_check_saying dc_check_saying pm_check_saying cd_check_saying ct_check_saying : Value} {sl_check_saying : Array (Option Value)} {od_own_names an_own_names : Option Addr} {oc_own_names kV_own_names dc_own_names pm_own_names cd_own_names ct_own_names : Value} {sl_own_names : Array (Option Value)} {od_sayings_in an_sayings_in : Option Addr} {oc_sayings_in kV_sayings_in dc_sayings_in pm_sayings_in cd_sayings_in ct_sayings_in : Value} {sl_sayings_in : Array (Option Value)} {od_free_names an_free_names : Option Addr} {oc_free_names kV_free_names dc_free_names pm_free_names cd_free_names ct_free_names : Value} {sl_free_names : Array (Option Value)} {od_check_closed an_check_closed : Option Addr} {oc_check_closed kV_check_closed dc_check_closed pm_check_closed cd_check_closed ct_check_closed : Value} {sl_check_closed : Array (Option Value)} {od_Hall_change an_Hall_change : Option Addr} {oc_Hall_change kV_Hall_change dc_Hall_change pm_Hall_change cd_Hall_change ct_Hall_change : Value} {sl_Hall_change : Array (Option Value)} {od_Hall_say an_Hall_say : Option Addr} {oc_Hall_say kV_Hall_say dc_Hall_say pm_Hall_say cd_Hall_say ct_Hall_say : Value} {sl_Hall_say : Array (Option Value)} {od_is_integer an_is_integer : Option Addr} {oc_is_integer kV_is_integer dc_is_integer pm_is_integer cd_is_integer ct_is_integer : Value} {sl_is_integer : Array (Option Value)} {od_is_within an_is_within : Option Addr} {oc_is_within kV_is_within dc_is_within pm_is_within cd_is_within ct_is_within : Value} {sl_is_within : Array (Option Value)} {od_Hall_drop an_Hall_drop : Option Addr} {oc_Hall_drop kV_Hall_drop dc_Hall_drop pm_Hall_drop cd_Hall_drop ct_Hall_drop : Value} {sl_Hall_drop : Array (Option Value)} {od_common_divisor an_common_divisor : Option Addr} {oc_common_divisor kV_common_divisor dc_common_divisor pm_common_divisor cd_common_divisor ct_common_divisor : Value} {sl_common_divisor : Array (Option Value)} {od_is_fraction an_is_fraction : Option Addr} {oc_is_fraction kV_is_fraction dc_is_fraction pm_is_fraction cd_is_fraction ct_is_fraction : Value} {sl_is_fraction : Array (Option Value)} {od_is_share an_is_share : Option Addr} {oc_is_share kV_is_share dc_is_share pm_is_share cd_is_share ct_is_share : Value} {sl_is_share : Array (Option Value)} {od_Hall_weigh an_Hall_weigh : Option Addr} {oc_Hall_weigh kV_Hall_weigh dc_Hall_weigh pm_Hall_weigh cd_Hall_weigh ct_Hall_weigh : Value} {sl_Hall_weigh : Array (Option Value)} {od_Hall_back an_Hall_back : Option Addr} {oc_Hall_back kV_Hall_back dc_Hall_back pm_Hall_back cd_Hall_back ct_Hall_back : Value} {sl_Hall_back : Array (Option Value)} {od__law_did an__law_did : Option Addr} {oc__law_did kV__law_did dc__law_did pm__law_did cd__law_did ct__law_did : Value} {sl__law_did : Array (Option Value)} {od_Hall_scales an_Hall_scales : Option Addr} {oc_Hall_scales kV_Hall_scales dc_Hall_scales pm_Hall_scales cd_Hall_scales ct_Hall_scales : Value} {sl_Hall_scales : Array (Option Value)} {od_Tongue___eq__ an_Tongue___eq__ : Option Addr} {oc_Tongue___eq__ kV_Tongue___eq__ dc_Tongue___eq__ pm_Tongue___eq__ cd_Tongue___eq__ ct_Tongue___eq__ : Value} {sl_Tongue___eq__ : Array (Option Value)} {od__law_quantor an__law_quantor : Option Addr} {oc__law_quantor kV__law_quantor dc__law_quantor pm__law_quantor cd__law_quantor ct__law_quantor : Value} {sl__law_quantor : Array (Option Value)} {od__law_test an__law_test : Option Addr} {oc__law_test kV__law_test dc__law_test pm__law_test cd__law_test ct__law_test : Value} {sl__law_test : Array (Option Value)} {od__law_matrix an__law_matrix : Option Addr} {oc__law_matrix kV__law_matrix dc__law_matrix pm__law_matrix cd__law_matrix ct__law_matrix : Value} {sl__law_matrix : Array (Option Value)} {od__law_one an__law_one : Option Addr} {oc__law_one kV__law_one dc__law_one pm__law_one cd__law_one ct__law_one : Value} {sl__law_one : Array (Option Value)} {od__law_closed an__law_closed : Option Addr} {oc__law_closed kV__law_closed dc__law_closed pm__law_closed cd__law_closed ct__law_closed : Value} {sl__law_closed : Array (Option Value)} {od__law_free an__law_free : Option Addr} {oc__law_free kV__law_free dc__law_free pm__law_free cd__law_free ct__law_free : Value} {sl__law_free : Array (Option Value)} {od__law_places an__law_places : Option Addr} {oc__law_places kV__law_places dc__law_places pm__law_places cd__law_places ct__law_places : Value} {sl__law_places : Array (Option Value)} {od__law_said an__law_said : Option Addr} {oc__law_said kV__law_said dc__law_said pm__law_said cd__law_said ct__law_said : Value} {sl__law_said : Array (Option Value)} {od_Hall_said an_Hall_said : Option Addr} {oc_Hall_said kV_Hall_said dc_Hall_said pm_Hall_said cd_Hall_said ct_Hall_said : Value} {sl_Hall_said : Array (Option Value)} {od_Hall_depth an_Hall_depth : Option Addr} {oc_Hall_depth kV_Hall_depth dc_Hall_depth pm_Hall_depth cd_Hall_depth ct_Hall_depth : Value} {sl_Hall_depth : Array (Option Value)} {od_Hall_language an_Hall_language : Option Addr} {oc_Hall_language kV_Hall_language dc_Hall_language pm_Hall_language cd_Hall_language ct_Hall_language : Value} {sl_Hall_language : Array (Option Value)} {od_law an_law : Option Addr} {oc_law kV_law dc_law pm_law cd_law ct_law : Value} {sl_law : Array (Option Value)} {t_LETTERS : Tok} {t_MOST_LETTERS : Tok} {dd_NAMES : Option Addr} {n_NAMES : Nat} {sl_NAMES : Array (Option Value)} {t_NAMES_0 t_NAMES_1 : Tok} {dd_BINDING : Option Addr} {n_BINDING : Nat} {sl_BINDING : Array (Option Value)} {t_BINDING_0 t_BINDING_1 : Tok} {dd_JOINING : Option Addr} {n_JOINING : Nat} {sl_JOINING : Array (Option Value)} {t_JOINING_0 t_JOINING_1 : Tok} {t_MOST_TUPLES : Tok} {t_MOST_DEEP : Tok} {t_MOST_SAID : Tok} {es_KEPT_WORDS : Array DictEntry} {n_KEPT_WORDS : Nat} {t_MOST_MARKS : Tok} {t_MOST_TIES : Tok} (X : K.In h) (G : h.Ns mainGlobals mg) (hfa : mg "law" = some (.ref fa))
    (aC_Tongue : PySem.W.nsIn K mainGlobals "Tongue" = some (some (.ref C_Tongue)))
    (aC_Hall : PySem.W.nsIn K mainGlobals "Hall" = some (some (.ref C_Hall)))
    (a__law_pool : PySem.W.nsIn K mainGlobals "_law_pool" = some (some (.ref f__law_pool)))
    (l__law_pool : K.lookup f__law_pool = some ⟨oc__law_pool, od__law_pool, .func (PySem.W.fnOf "_law_pool" "_law_pool" (defArgs s__law_pool) (defBody s__law_pool) (defScope s__law_pool) .none kV__law_pool dc__law_pool pm__law_pool an__law_pool cd__law_pool ct__law_pool), sl__law_pool⟩)
    (c__law_pool : PySem.W.codeIn K cd__law_pool "_law_pool" = true)
    (k__law_pool : PySem.W.keepIn K (.ref f__law_pool) = true)
    (a__law_draw : PySem.W.nsIn K mainGlobals "_law_draw" = some (some (.ref f__law_draw)))
    (l__law_draw : K.lookup f__law_draw = some ⟨oc__law_draw, od__law_draw, .func (PySem.W.fnOf "_law_draw" "_law_draw" (defArgs s__law_draw) (defBody s__law_draw) (defScope s__law_draw) .none kV__law_draw dc__law_draw pm__law_draw an__law_draw cd__law_draw ct__law_draw), sl__law_draw⟩)
    (c__law_draw : PySem.W.codeIn K cd__law_draw "_law_draw" = true)
    (k__law_draw : PySem.W.keepIn K (.ref f__law_draw) = true)
    (a__law_names : PySem.W.nsIn K mainGlobals "_law_names" = some (some (.ref f__law_names)))
    (l__law_names : K.lookup f__law_names = some ⟨oc__law_names, od__law_names, .func (PySem.W.fnOf "_law_names" "_law_names" (defArgs s__law_names) (defBody s__law_names) (defScope s__law_names) .none kV__law_names dc__law_names pm__law_names an__law_names cd__law_names ct__law_names), sl__law_names⟩)
    (c__law_names : PySem.W.codeIn K cd__law_names "_law_names" = true)
    (k__law_names : PySem.W.keepIn K (.ref f__law_names) = true)
    (a__law_shape : PySem.W.nsIn K mainGlobals "_law_shape" = some (some (.ref f__law_shape)))
    (l__law_shape : K.lookup f__law_shape = some ⟨oc__law_shape, od__law_shape, .func (PySem.W.fnOf "_law_shape" "_law_shape" (defArgs s__law_shape) (defBody s__law_shape) (defScope s__law_shape) .none kV__law_shape dc__law_shape pm__law_shape an__law_shape cd__law_shape ct__law_shape), sl__law_shape⟩)
    (c__law_shape : PySem.W.codeIn K cd__law_shape "_law_shape" = true)
    (k__law_shape : PySem.W.keepIn K (.ref f__law_shape) = true)
    (a__law_small_shape : PySem.W.nsIn K mainGlobals "_law_small_shape" = some (some (.ref f__law_small_shape)))
    (l__law_small_shape : K.lookup f__law_small_shape = some ⟨oc__law_small_shape, od__law_small_shape, .func (PySem.W.fnOf "_law_small_shape" "_law_small_shape" (defArgs s__law_small_shape) (defBody s__law_small_shape) (defScope s__law_small_shape) .none kV__law_small_shape dc__law_small_shape pm__law_small_shape an__law_small_shape cd__law_small_shape ct__law_small_shape), sl__law_small_shape⟩)
    (c__law_small_shape : PySem.W.codeIn K cd__law_small_shape "_law_small_shape" = true)
    (k__law_small_shape : PySem.W.keepIn K (.ref f__law_small_shape) = true)
    (a_is_sequence : PySem.W.nsIn K mainGlobals "is_sequence" = some (some (.ref f_is_sequence)))
    (l_is_sequence : K.lookup f_is_sequence = some ⟨oc_is_sequence, od_is_sequence, .func (PySem.W.fnOf "is_sequence" "is_sequence" (defArgs s_is_sequence) (defBody s_is_sequence) (defScope s_is_sequence) .none kV_is_sequence dc_is_sequence pm_is_sequence an_is_sequence cd_is_sequence ct_is_sequence), sl_is_sequence⟩)
    (c_is_sequence : PySem.W.codeIn K cd_is_sequence "is_sequence" = true)
    (k_is_sequence : PySem.W.keepIn K (.ref f_is_sequence) = true)
    (a_is_word : PySem.W.nsIn K mainGlobals "is_word" = some (some (.ref f_is_word)))
    (l_is_word : K.lookup f_is_word = some ⟨oc_is_word, od_is_word, .func (PySem.W.fnOf "is_word" "is_word" (defArgs s_is_word) (defBody s_is_word) (defScope s_is_word) .none kV_is_word dc_is_word pm_is_word an_is_word cd_is_word ct_is_word), sl_is_word⟩)
    (c_is_word : PySem.W.codeIn K cd_is_word "is_word" = true)
    (k_is_word : PySem.W.keepIn K (.ref f_is_word) = true)
    (a_are_names : PySem.W.nsIn K mainGlobals "are_names" = some (some (.ref f_are_names)))
    (l_are_names : K.lookup f_are_names = some ⟨oc_are_names, od_are_names, .func (PySem.W.fnOf "are_names" "are_names" (defArgs s_are_names) (defBody s_are_names) (defScope s_are_names) .none kV_are_names dc_are_names pm_are_names an_are_names cd_are_names ct_are_names), sl_are_names⟩)
    (c_are_names : PySem.W.codeIn K cd_are_names "are_names" = true)
    (k_are_names : PySem.W.keepIn K (.ref f_are_names) = true)
    (a_is_key : PySem.W.nsIn K mainGlobals "is_key" = some (some (.ref f_is_key)))
    (l_is_key : K.lookup f_is_key = some ⟨oc_is_key, od_is_key, .func (PySem.W.fnOf "is_key" "is_key" (defArgs s_is_key) (defBody s_is_key) (defScope s_is_key) .none kV_is_key dc_is_key pm_is_key an_is_key cd_is_key ct_is_key), sl_is_key⟩)
    (c_is_key : PySem.W.codeIn K cd_is_key "is_key" = true)
    (k_is_key : PySem.W.keepIn K (.ref f_is_key) = true)
    (a_are_functions : PySem.W.nsIn K mainGlobals "are_functions" = some (some (.ref f_are_functions)))
    (l_are_functions : K.lookup f_are_functions = some ⟨oc_are_functions, od_are_functions, .func (PySem.W.fnOf "are_functions" "are_functions" (defArgs s_are_functions) (defBody s_are_functions) (defScope s_are_functions) .none kV_are_functions dc_are_functions pm_are_functions an_are_functions cd_are_functions ct_are_functions), sl_are_functions⟩)
    (c_are_functions : PySem.W.codeIn K cd_are_functions "are_functions" = true)
    (k_are_functions : PySem.W.keepIn K (.ref f_are_functions) = true)
    (a_Tongue___init__ : PySem.W.findIn K (.ref C_Tongue) "__init__" = some (some (.ref f_Tongue___init__)))
    (i_Tongue___init__ : PySem.W.isFn K (.ref f_Tongue___init__) = true)
    (l_Tongue___init__ : K.lookup f_Tongue___init__ = some ⟨oc_Tongue___init__, od_Tongue___init__, .func (PySem.W.fnOf "__init__" "Tongue.__init__" (defArgs s_Tongue___init__) (defBody s_Tongue___init__) (defScope s_Tongue___init__) .none kV_Tongue___init__ dc_Tongue___init__ pm_Tongue___init__ an_Tongue___init__ cd_Tongue___init__ ct_Tongue___init__), sl_Tongue___init__⟩)
    (c_Tongue___init__ : PySem.W.codeIn K cd_Tongue___init__ "Tongue.__init__" = true)
    (k_Tongue___init__ : PySem.W.keepIn K (.ref f_Tongue___init__) = true)
    (a__law_tongue : PySem.W.nsIn K mainGlobals "_law_tongue" = some (some (.ref f__law_tongue)))
    (l__law_tongue : K.lookup f__law_tongue = some ⟨oc__law_tongue, od__law_tongue, .func (PySem.W.fnOf "_law_tongue" "_law_tongue" (defArgs s__law_tongue) (defBody s__law_tongue) (defScope s__law_tongue) .none kV__law_tongue dc__law_tongue pm__law_tongue an__law_tongue cd__law_tongue ct__law_tongue), sl__law_tongue⟩)
    (c__law_tongue : PySem.W.codeIn K cd__law_tongue "_law_tongue" = true)
    (k__law_tongue : PySem.W.keepIn K (.ref f__law_tongue) = true)
    (a_check_plain : PySem.W.nsIn K mainGlobals "check_plain" = some (some (.ref f_check_plain)))
    (l_check_plain : K.lookup f_check_plain = some ⟨oc_check_plain, od_check_plain, .func (PySem.W.fnOf "check_plain" "check_plain" (defArgs s_check_plain) (defBody s_check_plain) (defScope s_check_plain) .none kV_check_plain dc_check_plain pm_check_plain an_check_plain cd_check_plain ct_check_plain), sl_check_plain⟩)
    (c_check_plain : PySem.W.codeIn K cd_check_plain "check_plain" = true)
    (k_check_plain : PySem.W.keepIn K (.ref f_check_plain) = true)
    (a_Hall___init__ : PySem.W.findIn K (.ref C_Hall) "__init__" = some (some (.ref f_Hall___init__)))
    (i_Hall___init__ : PySem.W.isFn K (.ref f_Hall___init__) = true)
    (l_Hall___init__ : K.lookup f_Hall___init__ = some ⟨oc_Hall___init__, od_Hall___init__, .func (PySem.W.fnOf "__init__" "Hall.__init__" (defArgs s_Hall___init__) (defBody s_Hall___init__) (defScope s_Hall___init__) .none kV_Hall___init__ dc_Hall___init__ pm_Hall___init__ an_Hall___init__ cd_Hall___init__ ct_Hall___init__), sl_Hall___init__⟩)
    (c_Hall___init__ : PySem.W.codeIn K cd_Hall___init__ "Hall.__init__" = true)
    (k_Hall___init__ : PySem.W.keepIn K (.ref f_Hall___init__) = true)
    (a__law_due : PySem.W.nsIn K mainGlobals "_law_due" = some (some (.ref f__law_due)))
    (l__law_due : K.lookup f__law_due = some ⟨oc__law_due, od__law_due, .func (PySem.W.fnOf "_law_due" "_law_due" (defArgs s__law_due) (defBody s__law_due) (defScope s__law_due) .none kV__law_due dc__law_due pm__law_due an__law_due cd__law_due ct__law_due), sl__law_due⟩)
    (c__law_due : PySem.W.codeIn K cd__law_due "_law_due" = true)
    (k__law_due : PySem.W.keepIn K (.ref f__law_due) = true)
    (a_is_tuple : PySem.W.nsIn K mainGlobals "is_tuple" = some (some (.ref f_is_tuple)))
    (l_is_tuple : K.lookup f_is_tuple = some ⟨oc_is_tuple, od_is_tuple, .func (PySem.W.fnOf "is_tuple" "is_tuple" (defArgs s_is_tuple) (defBody s_is_tuple) (defScope s_is_tuple) .none kV_is_tuple dc_is_tuple pm_is_tuple an_is_tuple cd_is_tuple ct_is_tuple), sl_is_tuple⟩)
    (c_is_tuple : PySem.W.codeIn K cd_is_tuple "is_tuple" = true)
    (k_is_tuple : PySem.W.keepIn K (.ref f_is_tuple) = true)
    (a_is_headed : PySem.W.nsIn K mainGlobals "is_headed" = some (some (.ref f_is_headed)))
    (l_is_headed : K.lookup f_is_headed = some ⟨oc_is_headed, od_is_headed, .func (PySem.W.fnOf "is_headed" "is_headed" (defArgs s_is_headed) (defBody s_is_headed) (defScope s_is_headed) .none kV_is_headed dc_is_headed pm_is_headed an_is_headed cd_is_headed ct_is_headed), sl_is_headed⟩)
    (c_is_headed : PySem.W.codeIn K cd_is_headed "is_headed" = true)
    (k_is_headed : PySem.W.keepIn K (.ref f_is_headed) = true)
    (a_is_name : PySem.W.nsIn K mainGlobals "is_name" = some (some (.ref f_is_name)))
    (l_is_name : K.lookup f_is_name = some ⟨oc_is_name, od_is_name, .func (PySem.W.fnOf "is_name" "is_name" (defArgs s_is_name) (defBody s_is_name) (defScope s_is_name) .none kV_is_name dc_is_name pm_is_name an_is_name cd_is_name ct_is_name), sl_is_name⟩)
    (c_is_name : PySem.W.codeIn K cd_is_name "is_name" = true)
    (k_is_name : PySem.W.keepIn K (.ref f_is_name) = true)
    (at_Tongue_marks : PySem.W.findIn K (.ref C_Tongue) "marks" = some (some (.ref p_Tongue_marks)))
    (ge_Tongue_marks : PySem.W.specialIn K (.ref p_Tongue_marks) "__get__" = some (some (.builtin "property.__get__")))
    (tk_Tongue_marks : PySem.W.takesIn K (.ref p_Tongue_marks) = some true)
    (re_Tongue_marks : PySem.W.recIn K p_Tongue_marks "property" = some (.ref f_Tongue_marks :: r_Tongue_marks))
    (l_Tongue_marks : K.lookup f_Tongue_marks = some ⟨oc_Tongue_marks, od_Tongue_marks, .func (PySem.W.fnOf "marks" "Tongue.marks" (defArgs s_Tongue_marks) (defBody s_Tongue_marks) (defScope s_Tongue_marks) .none kV_Tongue_marks dc_Tongue_marks pm_Tongue_marks an_Tongue_marks cd_Tongue_marks ct_Tongue_marks), sl_Tongue_marks⟩)
    (c_Tongue_marks : PySem.W.codeIn K cd_Tongue_marks "Tongue.marks" = true)
    (k_Tongue_marks : PySem.W.keepIn K (.ref f_Tongue_marks) = true)
    (at_Tongue_ties : PySem.W.findIn K (.ref C_Tongue) "ties" = some (some (.ref p_Tongue_ties)))
    (ge_Tongue_ties : PySem.W.specialIn K (.ref p_Tongue_ties) "__get__" = some (some (.builtin "property.__get__")))
    (tk_Tongue_ties : PySem.W.takesIn K (.ref p_Tongue_ties) = some true)
    (re_Tongue_ties : PySem.W.recIn K p_Tongue_ties "property" = some (.ref f_Tongue_ties :: r_Tongue_ties))
    (l_Tongue_ties : K.lookup f_Tongue_ties = some ⟨oc_Tongue_ties, od_Tongue_ties, .func (PySem.W.fnOf "ties" "Tongue.ties" (defArgs s_Tongue_ties) (defBody s_Tongue_ties) (defScope s_Tongue_ties) .none kV_Tongue_ties dc_Tongue_ties pm_Tongue_ties an_Tongue_ties cd_Tongue_ties ct_Tongue_ties), sl_Tongue_ties⟩)
    (c_Tongue_ties : PySem.W.codeIn K cd_Tongue_ties "Tongue.ties" = true)
    (k_Tongue_ties : PySem.W.keepIn K (.ref f_Tongue_ties) = true)
    (a_is_test : PySem.W.nsIn K mainGlobals "is_test" = some (some (.ref f_is_test)))
    (l_is_test : K.lookup f_is_test = some ⟨oc_is_test, od_is_test, .func (PySem.W.fnOf "is_test" "is_test" (defArgs s_is_test) (defBody s_is_test) (defScope s_is_test) .none kV_is_test dc_is_test pm_is_test an_is_test cd_is_test ct_is_test), sl_is_test⟩)
    (c_is_test : PySem.W.codeIn K cd_is_test "is_test" = true)
    (k_is_test : PySem.W.keepIn K (.ref f_is_test) = true)
    (a_parts_of : PySem.W.nsIn K mainGlobals "parts_of" = some (some (.ref f_parts_of)))
    (l_parts_of : K.lookup f_parts_of = some ⟨oc_parts_of, od_parts_of, .func (PySem.W.fnOf "parts_of" "parts_of" (defArgs s_parts_of) (defBody s_parts_of) (defScope s_parts_of) .none kV_parts_of dc_parts_of pm_parts_of an_parts_of cd_parts_of ct_parts_of), sl_parts_of⟩)
    (c_parts_of : PySem.W.codeIn K cd_parts_of "parts_of" = true)
    (k_parts_of : PySem.W.keepIn K (.ref f_parts_of) = true)
    (a_is_saying : PySem.W.nsIn K mainGlobals "is_saying" = some (some (.ref f_is_saying)))
    (l_is_saying : K.lookup f_is_saying = some ⟨oc_is_saying, od_is_saying, .func (PySem.W.fnOf "is_saying" "is_saying" (defArgs s_is_saying) (defBody s_is_saying) (defScope s_is_saying) .none kV_is_saying dc_is_saying pm_is_saying an_is_saying cd_is_saying ct_is_saying), sl_is_saying⟩)
    (c_is_saying : PySem.W.codeIn K cd_is_saying "is_saying" = true)
    (k_is_saying : PySem.W.keepIn K (.ref f_is_saying) = true)
    (a_check_saying : PySem.W.nsIn K mainGlobals "check_saying" = some (some (.ref f_check_saying)))
    (l_check_saying : K.lookup f_check_saying = some ⟨oc_check_saying, od_check_saying, .func (PySem.W.fnOf "check_saying" "check_saying" (defArgs s_check_saying) (defBody s_check_saying) (defScope s_check_saying) .none kV_check_saying dc_check_saying pm_check_saying an_check_saying cd_check_saying ct_check_saying), sl_check_saying⟩)
    (c_check_saying : PySem.W.codeIn K cd_check_saying "check_saying" = true)
    (k_check_saying : PySem.W.keepIn K (.ref f_check_saying) = true)
    (a_own_names : PySem.W.nsIn K mainGlobals "own_names" = some (some (.ref f_own_names)))
    (l_own_names : K.lookup f_own_names = some ⟨oc_own_names, od_own_names, .func (PySem.W.fnOf "own_names" "own_names" (defArgs s_own_names) (defBody s_own_names) (defScope s_own_names) .none kV_own_names dc_own_names pm_own_names an_own_names cd_own_names ct_own_names), sl_own_names⟩)
    (c_own_names : PySem.W.codeIn K cd_own_names "own_names" = true)
    (k_own_names : PySem.W.keepIn K (.ref f_own_names) = true)
    (a_sayings_in : PySem.W.nsIn K mainGlobals "sayings_in" = some (some (.ref f_sayings_in)))
    (l_sayings_in : K.lookup f_sayings_in = some ⟨oc_sayings_in, od_sayings_in, .func (PySem.W.fnOf "sayings_in" "sayings_in" (defArgs s_sayings_in) (defBody s_sayings_in) (defScope s_sayings_in) .none kV_sayings_in dc_sayings_in pm_sayings_in an_sayings_in cd_sayings_in ct_sayings_in), sl_sayings_in⟩)
    (c_sayings_in : PySem.W.codeIn K cd_sayings_in "sayings_in" = true)
    (k_sayings_in : PySem.W.keepIn K (.ref f_sayings_in) = true)
    (a_free_names : PySem.W.nsIn K mainGlobals "free_names" = some (some (.ref f_free_names)))
    (l_free_names : K.lookup f_free_names = some ⟨oc_free_names, od_free_names, .func (PySem.W.fnOf "free_names" "free_names" (defArgs s_free_names) (defBody s_free_names) (defScope s_free_names) .none kV_free_names dc_free_names pm_free_names an_free_names cd_free_names ct_free_names), sl_free_names⟩)
    (c_free_names : PySem.W.codeIn K cd_free_names "free_names" = true)
    (k_free_names : PySem.W.keepIn K (.ref f_free_names) = true)
    (a_check_closed : PySem.W.nsIn K mainGlobals "check_closed" = some (some (.ref f_check_closed)))
    (l_check_closed : K.lookup f_check_closed = some ⟨oc_check_closed, od_check_closed, .func (PySem.W.fnOf "check_closed" "check_closed" (defArgs s_check_closed) (defBody s_check_closed) (defScope s_check_closed) .none kV_check_closed dc_check_closed pm_check_closed an_check_closed cd_check_closed ct_check_closed), sl_check_closed⟩)
    (c_check_closed : PySem.W.codeIn K cd_check_closed "check_closed" = true)
    (k_check_closed : PySem.W.keepIn K (.ref f_check_closed) = true)
    (a_Hall_change : PySem.W.findIn K (.ref C_Hall) "change" = some (some (.ref f_Hall_change)))
    (i_Hall_change : PySem.W.isFn K (.ref f_Hall_change) = true)
    (l_Hall_change : K.lookup f_Hall_change = some ⟨oc_Hall_change, od_Hall_change, .func (PySem.W.fnOf "change" "Hall.change" (defArgs s_Hall_change) (defBody s_Hall_change) (defScope s_Hall_change) .none kV_Hall_change dc_Hall_change pm_Hall_change an_Hall_change cd_Hall_change ct_Hall_change), sl_Hall_change⟩)
    (c_Hall_change : PySem.W.codeIn K cd_Hall_change "Hall.change" = true)
    (k_Hall_change : PySem.W.keepIn K (.ref f_Hall_change) = true)
    (a_Hall_say : PySem.W.findIn K (.ref C_Hall) "say" = some (some (.ref f_Hall_say)))
    (i_Hall_say : PySem.W.isFn K (.ref f_Hall_say) = true)
    (l_Hall_say : K.lookup f_Hall_say = some ⟨oc_Hall_say, od_Hall_say, .func (PySem.W.fnOf "say" "Hall.say" (defArgs s_Hall_say) (defBody s_Hall_say) (defScope s_Hall_say) .none kV_Hall_say dc_Hall_say pm_Hall_say an_Hall_say cd_Hall_say ct_Hall_say), sl_Hall_say⟩)
    (c_Hall_say : PySem.W.codeIn K cd_Hall_say "Hall.say" = true)
    (k_Hall_say : PySem.W.keepIn K (.ref f_Hall_say) = true)
    (a_is_integer : PySem.W.nsIn K mainGlobals "is_integer" = some (some (.ref f_is_integer)))
    (l_is_integer : K.lookup f_is_integer = some ⟨oc_is_integer, od_is_integer, .func (PySem.W.fnOf "is_integer" "is_integer" (defArgs s_is_integer) (defBody s_is_integer) (defScope s_is_integer) .none kV_is_integer dc_is_integer pm_is_integer an_is_integer cd_is_integer ct_is_integer), sl_is_integer⟩)
    (c_is_integer : PySem.W.codeIn K cd_is_integer "is_integer" = true)
    (k_is_integer : PySem.W.keepIn K (.ref f_is_integer) = true)
    (a_is_within : PySem.W.nsIn K mainGlobals "is_within" = some (some (.ref f_is_within)))
    (l_is_within : K.lookup f_is_within = some ⟨oc_is_within, od_is_within, .func (PySem.W.fnOf "is_within" "is_within" (defArgs s_is_within) (defBody s_is_within) (defScope s_is_within) .none kV_is_within dc_is_within pm_is_within an_is_within cd_is_within ct_is_within), sl_is_within⟩)
    (c_is_within : PySem.W.codeIn K cd_is_within "is_within" = true)
    (k_is_within : PySem.W.keepIn K (.ref f_is_within) = true)
    (a_Hall_drop : PySem.W.findIn K (.ref C_Hall) "drop" = some (some (.ref f_Hall_drop)))
    (i_Hall_drop : PySem.W.isFn K (.ref f_Hall_drop) = true)
    (l_Hall_drop : K.lookup f_Hall_drop = some ⟨oc_Hall_drop, od_Hall_drop, .func (PySem.W.fnOf "drop" "Hall.drop" (defArgs s_Hall_drop) (defBody s_Hall_drop) (defScope s_Hall_drop) .none kV_Hall_drop dc_Hall_drop pm_Hall_drop an_Hall_drop cd_Hall_drop ct_Hall_drop), sl_Hall_drop⟩)
    (c_Hall_drop : PySem.W.codeIn K cd_Hall_drop "Hall.drop" = true)
    (k_Hall_drop : PySem.W.keepIn K (.ref f_Hall_drop) = true)
    (a_common_divisor : PySem.W.nsIn K mainGlobals "common_divisor" = some (some (.ref f_common_divisor)))
    (l_common_divisor : K.lookup f_common_divisor = some ⟨oc_common_divisor, od_common_divisor, .func (PySem.W.fnOf "common_divisor" "common_divisor" (defArgs s_common_divisor) (defBody s_common_divisor) (defScope s_common_divisor) .none kV_common_divisor dc_common_divisor pm_common_divisor an_common_divisor cd_common_divisor ct_common_divisor), sl_common_divisor⟩)
    (c_common_divisor : PySem.W.codeIn K cd_common_divisor "common_divisor" = true)
    (k_common_divisor : PySem.W.keepIn K (.ref f_common_divisor) = true)
    (a_is_fraction : PySem.W.nsIn K mainGlobals "is_fraction" = some (some (.ref f_is_fraction)))
    (l_is_fraction : K.lookup f_is_fraction = some ⟨oc_is_fraction, od_is_fraction, .func (PySem.W.fnOf "is_fraction" "is_fraction" (defArgs s_is_fraction) (defBody s_is_fraction) (defScope s_is_fraction) .none kV_is_fraction dc_is_fraction pm_is_fraction an_is_fraction cd_is_fraction ct_is_fraction), sl_is_fraction⟩)
    (c_is_fraction : PySem.W.codeIn K cd_is_fraction "is_fraction" = true)
    (k_is_fraction : PySem.W.keepIn K (.ref f_is_fraction) = true)
    (a_is_share : PySem.W.nsIn K mainGlobals "is_share" = some (some (.ref f_is_share)))
    (l_is_share : K.lookup f_is_share = some ⟨oc_is_share, od_is_share, .func (PySem.W.fnOf "is_share" "is_share" (defArgs s_is_share) (defBody s_is_share) (defScope s_is_share) .none kV_is_share dc_is_share pm_is_share an_is_share cd_is_share ct_is_share), sl_is_share⟩)
    (c_is_share : PySem.W.codeIn K cd_is_share "is_share" = true)
    (k_is_share : PySem.W.keepIn K (.ref f_is_share) = true)
    (a_Hall_weigh : PySem.W.findIn K (.ref C_Hall) "weigh" = some (some (.ref f_Hall_weigh)))
    (i_Hall_weigh : PySem.W.isFn K (.ref f_Hall_weigh) = true)
    (l_Hall_weigh : K.lookup f_Hall_weigh = some ⟨oc_Hall_weigh, od_Hall_weigh, .func (PySem.W.fnOf "weigh" "Hall.weigh" (defArgs s_Hall_weigh) (defBody s_Hall_weigh) (defScope s_Hall_weigh) .none kV_Hall_weigh dc_Hall_weigh pm_Hall_weigh an_Hall_weigh cd_Hall_weigh ct_Hall_weigh), sl_Hall_weigh⟩)
    (c_Hall_weigh : PySem.W.codeIn K cd_Hall_weigh "Hall.weigh" = true)
    (k_Hall_weigh : PySem.W.keepIn K (.ref f_Hall_weigh) = true)
    (a_Hall_back : PySem.W.findIn K (.ref C_Hall) "back" = some (some (.ref f_Hall_back)))
    (i_Hall_back : PySem.W.isFn K (.ref f_Hall_back) = true)
    (l_Hall_back : K.lookup f_Hall_back = some ⟨oc_Hall_back, od_Hall_back, .func (PySem.W.fnOf "back" "Hall.back" (defArgs s_Hall_back) (defBody s_Hall_back) (defScope s_Hall_back) .none kV_Hall_back dc_Hall_back pm_Hall_back an_Hall_back cd_Hall_back ct_Hall_back), sl_Hall_back⟩)
    (c_Hall_back : PySem.W.codeIn K cd_Hall_back "Hall.back" = true)
    (k_Hall_back : PySem.W.keepIn K (.ref f_Hall_back) = true)
    (a__law_did : PySem.W.nsIn K mainGlobals "_law_did" = some (some (.ref f__law_did)))
    (l__law_did : K.lookup f__law_did = some ⟨oc__law_did, od__law_did, .func (PySem.W.fnOf "_law_did" "_law_did" (defArgs s__law_did) (defBody s__law_did) (defScope s__law_did) .none kV__law_did dc__law_did pm__law_did an__law_did cd__law_did ct__law_did), sl__law_did⟩)
    (c__law_did : PySem.W.codeIn K cd__law_did "_law_did" = true)
    (k__law_did : PySem.W.keepIn K (.ref f__law_did) = true)
    (a_Hall_scales : PySem.W.findIn K (.ref C_Hall) "scales" = some (some (.ref f_Hall_scales)))
    (i_Hall_scales : PySem.W.isFn K (.ref f_Hall_scales) = true)
    (l_Hall_scales : K.lookup f_Hall_scales = some ⟨oc_Hall_scales, od_Hall_scales, .func (PySem.W.fnOf "scales" "Hall.scales" (defArgs s_Hall_scales) (defBody s_Hall_scales) (defScope s_Hall_scales) .none kV_Hall_scales dc_Hall_scales pm_Hall_scales an_Hall_scales cd_Hall_scales ct_Hall_scales), sl_Hall_scales⟩)
    (c_Hall_scales : PySem.W.codeIn K cd_Hall_scales "Hall.scales" = true)
    (k_Hall_scales : PySem.W.keepIn K (.ref f_Hall_scales) = true)
    (a_Tongue___eq__ : PySem.W.findIn K (.ref C_Tongue) "__eq__" = some (some (.ref f_Tongue___eq__)))
    (i_Tongue___eq__ : PySem.W.isFn K (.ref f_Tongue___eq__) = true)
    (l_Tongue___eq__ : K.lookup f_Tongue___eq__ = some ⟨oc_Tongue___eq__, od_Tongue___eq__, .func (PySem.W.fnOf "__eq__" "Tongue.__eq__" (defArgs s_Tongue___eq__) (defBody s_Tongue___eq__) (defScope s_Tongue___eq__) .none kV_Tongue___eq__ dc_Tongue___eq__ pm_Tongue___eq__ an_Tongue___eq__ cd_Tongue___eq__ ct_Tongue___eq__), sl_Tongue___eq__⟩)
    (c_Tongue___eq__ : PySem.W.codeIn K cd_Tongue___eq__ "Tongue.__eq__" = true)
    (k_Tongue___eq__ : PySem.W.keepIn K (.ref f_Tongue___eq__) = true)
    (a__law_quantor : PySem.W.nsIn K mainGlobals "_law_quantor" = some (some (.ref f__law_quantor)))
    (l__law_quantor : K.lookup f__law_quantor = some ⟨oc__law_quantor, od__law_quantor, .func (PySem.W.fnOf "_law_quantor" "_law_quantor" (defArgs s__law_quantor) (defBody s__law_quantor) (defScope s__law_quantor) .none kV__law_quantor dc__law_quantor pm__law_quantor an__law_quantor cd__law_quantor ct__law_quantor), sl__law_quantor⟩)
    (c__law_quantor : PySem.W.codeIn K cd__law_quantor "_law_quantor" = true)
    (k__law_quantor : PySem.W.keepIn K (.ref f__law_quantor) = true)
    (a__law_test : PySem.W.nsIn K mainGlobals "_law_test" = some (some (.ref f__law_test)))
    (l__law_test : K.lookup f__law_test = some ⟨oc__law_test, od__law_test, .func (PySem.W.fnOf "_law_test" "_law_test" (defArgs s__law_test) (defBody s__law_test) (defScope s__law_test) .none kV__law_test dc__law_test pm__law_test an__law_test cd__law_test ct__law_test), sl__law_test⟩)
    (c__law_test : PySem.W.codeIn K cd__law_test "_law_test" = true)
    (k__law_test : PySem.W.keepIn K (.ref f__law_test) = true)
    (a__law_matrix : PySem.W.nsIn K mainGlobals "_law_matrix" = some (some (.ref f__law_matrix)))
    (l__law_matrix : K.lookup f__law_matrix = some ⟨oc__law_matrix, od__law_matrix, .func (PySem.W.fnOf "_law_matrix" "_law_matrix" (defArgs s__law_matrix) (defBody s__law_matrix) (defScope s__law_matrix) .none kV__law_matrix dc__law_matrix pm__law_matrix an__law_matrix cd__law_matrix ct__law_matrix), sl__law_matrix⟩)
    (c__law_matrix : PySem.W.codeIn K cd__law_matrix "_law_matrix" = true)
    (k__law_matrix : PySem.W.keepIn K (.ref f__law_matrix) = true)
    (a__law_one : PySem.W.nsIn K mainGlobals "_law_one" = some (some (.ref f__law_one)))
    (l__law_one : K.lookup f__law_one = some ⟨oc__law_one, od__law_one, .func (PySem.W.fnOf "_law_one" "_law_one" (defArgs s__law_one) (defBody s__law_one) (defScope s__law_one) .none kV__law_one dc__law_one pm__law_one an__law_one cd__law_one ct__law_one), sl__law_one⟩)
    (c__law_one : PySem.W.codeIn K cd__law_one "_law_one" = true)
    (k__law_one : PySem.W.keepIn K (.ref f__law_one) = true)
    (a__law_closed : PySem.W.nsIn K mainGlobals "_law_closed" = some (some (.ref f__law_closed)))
    (l__law_closed : K.lookup f__law_closed = some ⟨oc__law_closed, od__law_closed, .func (PySem.W.fnOf "_law_closed" "_law_closed" (defArgs s__law_closed) (defBody s__law_closed) (defScope s__law_closed) .none kV__law_closed dc__law_closed pm__law_closed an__law_closed cd__law_closed ct__law_closed), sl__law_closed⟩)
    (c__law_closed : PySem.W.codeIn K cd__law_closed "_law_closed" = true)
    (k__law_closed : PySem.W.keepIn K (.ref f__law_closed) = true)
    (a__law_free : PySem.W.nsIn K mainGlobals "_law_free" = some (some (.ref f__law_free)))
    (l__law_free : K.lookup f__law_free = some ⟨oc__law_free, od__law_free, .func (PySem.W.fnOf "_law_free" "_law_free" (defArgs s__law_free) (defBody s__law_free) (defScope s__law_free) .none kV__law_free dc__law_free pm__law_free an__law_free cd__law_free ct__law_free), sl__law_free⟩)
    (c__law_free : PySem.W.codeIn K cd__law_free "_law_free" = true)
    (k__law_free : PySem.W.keepIn K (.ref f__law_free) = true)
    (a__law_places : PySem.W.nsIn K mainGlobals "_law_places" = some (some (.ref f__law_places)))
    (l__law_places : K.lookup f__law_places = some ⟨oc__law_places, od__law_places, .func (PySem.W.fnOf "_law_places" "_law_places" (defArgs s__law_places) (defBody s__law_places) (defScope s__law_places) .none kV__law_places dc__law_places pm__law_places an__law_places cd__law_places ct__law_places), sl__law_places⟩)
    (c__law_places : PySem.W.codeIn K cd__law_places "_law_places" = true)
    (k__law_places : PySem.W.keepIn K (.ref f__law_places) = true)
    (a__law_said : PySem.W.nsIn K mainGlobals "_law_said" = some (some (.ref f__law_said)))
    (l__law_said : K.lookup f__law_said = some ⟨oc__law_said, od__law_said, .func (PySem.W.fnOf "_law_said" "_law_said" (defArgs s__law_said) (defBody s__law_said) (defScope s__law_said) .none kV__law_said dc__law_said pm__law_said an__law_said cd__law_said ct__law_said), sl__law_said⟩)
    (c__law_said : PySem.W.codeIn K cd__law_said "_law_said" = true)
    (k__law_said : PySem.W.keepIn K (.ref f__law_said) = true)
    (a_Hall_said : PySem.W.findIn K (.ref C_Hall) "said" = some (some (.ref f_Hall_said)))
    (i_Hall_said : PySem.W.isFn K (.ref f_Hall_said) = true)
    (l_Hall_said : K.lookup f_Hall_said = some ⟨oc_Hall_said, od_Hall_said, .func (PySem.W.fnOf "said" "Hall.said" (defArgs s_Hall_said) (defBody s_Hall_said) (defScope s_Hall_said) .none kV_Hall_said dc_Hall_said pm_Hall_said an_Hall_said cd_Hall_said ct_Hall_said), sl_Hall_said⟩)
    (c_Hall_said : PySem.W.codeIn K cd_Hall_said "Hall.said" = true)
    (k_Hall_said : PySem.W.keepIn K (.ref f_Hall_said) = true)
    (a_Hall_depth : PySem.W.findIn K (.ref C_Hall) "depth" = some (some (.ref f_Hall_depth)))
    (i_Hall_depth : PySem.W.isFn K (.ref f_Hall_depth) = true)
    (l_Hall_depth : K.lookup f_Hall_depth = some ⟨oc_Hall_depth, od_Hall_depth, .func (PySem.W.fnOf "depth" "Hall.depth" (defArgs s_Hall_depth) (defBody s_Hall_depth) (defScope s_Hall_depth) .none kV_Hall_depth dc_Hall_depth pm_Hall_depth an_Hall_depth cd_Hall_depth ct_Hall_depth), sl_Hall_depth⟩)
    (c_Hall_depth : PySem.W.codeIn K cd_Hall_depth "Hall.depth" = true)
    (k_Hall_depth : PySem.W.keepIn K (.ref f_Hall_depth) = true)
    (a_Hall_language : PySem.W.findIn K (.ref C_Hall) "language" = some (some (.ref f_Hall_language)))
    (i_Hall_language : PySem.W.isFn K (.ref f_Hall_language) = true)
    (l_Hall_language : K.lookup f_Hall_language = some ⟨oc_Hall_language, od_Hall_language, .func (PySem.W.fnOf "language" "Hall.language" (defArgs s_Hall_language) (defBody s_Hall_language) (defScope s_Hall_language) .none kV_Hall_language dc_Hall_language pm_Hall_language an_Hall_language cd_Hall_language ct_Hall_language), sl_Hall_language⟩)
    (c_Hall_language : PySem.W.codeIn K cd_Hall_language "Hall.language" = true)
    (k_Hall_language : PySem.W.keepIn K (.ref f_Hall_language) = true)
    (a_law : PySem.W.nsIn K mainGlobals "law" = some (some (.ref f_law)))
    (l_law : K.lookup f_law = some ⟨oc_law, od_law, .func (PySem.W.fnOf "law" "law" (defArgs s_law) (defBody s_law) (defScope s_law) .none kV_law dc_law pm_law an_law cd_law ct_law), sl_law⟩)
    (c_law : PySem.W.codeIn K cd_law "law" = true)
    (k_law : PySem.W.keepIn K (.ref f_law) = true)
    (z_abs : PySem.W.nsIn K mainGlobals "abs" = some none)
    (z_bool : PySem.W.nsIn K mainGlobals "bool" = some none)
    (z_int : PySem.W.nsIn K mainGlobals "int" = some none)
    (z_isinstance : PySem.W.nsIn K mainGlobals "isinstance" = some none)
    (z_len : PySem.W.nsIn K mainGlobals "len" = some none)
    (z_list : PySem.W.nsIn K mainGlobals "list" = some none)
    (z_range : PySem.W.nsIn K mainGlobals "range" = some none)
    (z_str : PySem.W.nsIn K mainGlobals "str" = some none)
    (z_sum : PySem.W.nsIn K mainGlobals "sum" = some none)
    (z_tuple : PySem.W.nsIn K mainGlobals "tuple" = some none)
    (pg_Tongue : PySem.W.plainGet K C_Tongue Str.empty = true)
    (hd_Tongue : PySem.W.hasDictIn K C_Tongue = true)
    (po_Tongue : PySem.W.plainOver K C_Tongue = true)
    (sa_Tongue : PySem.W.findIn K (.ref C_Tongue) "__setattr__" = some (some (.builtin "object.__setattr__")))
    (mk_Tongue : PySem.W.makesIn K C_Tongue = true)
    (kc_Tongue : PySem.W.keepIn K (.ref C_Tongue) = true)
    (na_Tongue_functions : PySem.W.findIn K (.ref C_Tongue) "functions" = some none)
    (na_Tongue_kept_marks : PySem.W.findIn K (.ref C_Tongue) "kept_marks" = some none)
    (na_Tongue_kept_ties : PySem.W.findIn K (.ref C_Tongue) "kept_ties" = some none)
    (pg_Hall : PySem.W.plainGet K C_Hall Str.empty = true)
    (hd_Hall : PySem.W.hasDictIn K C_Hall = true)
    (po_Hall : PySem.W.plainOver K C_Hall = true)
    (sa_Hall : PySem.W.findIn K (.ref C_Hall) "__setattr__" = some (some (.builtin "object.__setattr__")))
    (mk_Hall : PySem.W.makesIn K C_Hall = true)
    (kc_Hall : PySem.W.keepIn K (.ref C_Hall) = true)
    (na_Hall_kept : PySem.W.findIn K (.ref C_Hall) "kept" = some none)
    (na_Hall_kept_tongue : PySem.W.findIn K (.ref C_Hall) "kept_tongue" = some none)
    (na_Hall_past : PySem.W.findIn K (.ref C_Hall) "past" = some none)
    (na_Hall_scale : PySem.W.findIn K (.ref C_Hall) "scale" = some none)
    (xa_Tongue : PySem.W.findIn K (.ref C_Tongue) "__class__" = some (some (.builtin "object.__class__")))
    (xn_Tongue : PySem.W.specialIn K (.builtin "object.__class__") "__get__" = some (some (.builtin "getset_descriptor.__get__")))
    (xx_Tongue : PySem.W.takesIn K (.builtin "object.__class__") = some true)
    (xm_Tongue : PySem.W.mroIn K C_Tongue (.type "object") = some true)
    (ne_Tongue : PySem.W.findIn K (.ref C_Tongue) "__ne__" = some (some (.builtin "object.__ne__")))
    (nm_Tongue : PySem.W.mroIn K C_Tongue (.type "object") = some true)
    (aC_TooMany : PySem.W.nsIn K mainGlobals "TooMany" = some (some (.ref C_TooMany)))
    (xq_TooMany : PySem.W.excIn K C_TooMany [.type "ValueError", .type "Exception", .type "BaseException", .type "object"] "ValueError.__new__" = true)
    (xk_TooMany : PySem.W.keepIn K (.ref C_TooMany) = true)
    (xb_TooMany : PySem.W.subIn K (.ref C_TooMany) (.type "BaseException") = some true)
    (xt_TooMany : PySem.W.typeIn K (.ref C_TooMany) = some (.type "type"))
    (aC_NoSaid : PySem.W.nsIn K mainGlobals "NoSaid" = some (some (.ref C_NoSaid)))
    (xq_NoSaid : PySem.W.excIn K C_NoSaid [.type "ValueError", .type "Exception", .type "BaseException", .type "object"] "ValueError.__new__" = true)
    (xk_NoSaid : PySem.W.keepIn K (.ref C_NoSaid) = true)
    (xb_NoSaid : PySem.W.subIn K (.ref C_NoSaid) (.type "BaseException") = some true)
    (xt_NoSaid : PySem.W.typeIn K (.ref C_NoSaid) = some (.type "type"))
    (aC_NoWeights : PySem.W.nsIn K mainGlobals "NoWeights" = some (some (.ref C_NoWeights)))
    (xq_NoWeights : PySem.W.excIn K C_NoWeights [.type "ValueError", .type "Exception", .type "BaseException", .type "object"] "ValueError.__new__" = true)
    (xk_NoWeights : PySem.W.keepIn K (.ref C_NoWeights) = true)
    (xb_NoWeights : PySem.W.subIn K (.ref C_NoWeights) (.type "BaseException") = some true)
    (xt_NoWeights : PySem.W.typeIn K (.ref C_NoWeights) = some (.type "type"))
    (aC_NoUndo : PySem.W.nsIn K mainGlobals "NoUndo" = some (some (.ref C_NoUndo)))
    (xq_NoUndo : PySem.W.excIn K C_NoUndo [.type "ValueError", .type "Exception", .type "BaseException", .type "object"] "ValueError.__new__" = true)
    (xk_NoUndo : PySem.W.keepIn K (.ref C_NoUndo) = true)
    (xb_NoUndo : PySem.W.subIn K (.ref C_NoUndo) (.type "BaseException") = some true)
    (xt_NoUndo : PySem.W.typeIn K (.ref C_NoUndo) = some (.type "type"))
    (xi_NoSaid : PySem.W.isClsIn K C_NoSaid = true)
    (xi_NoUndo : PySem.W.isClsIn K C_NoUndo = true)
    (xi_NoWeights : PySem.W.isClsIn K C_NoWeights = true)
    (xi_TooMany : PySem.W.isClsIn K C_TooMany = true)
    (xs_TooMany_TooMany : PySem.W.subIn K (.ref C_TooMany) (.ref C_TooMany) = some true)
    (xs_NoSaid_TooMany : PySem.W.subIn K (.ref C_NoSaid) (.ref C_TooMany) = some false)
    (xs_NoSaid_NoSaid : PySem.W.subIn K (.ref C_NoSaid) (.ref C_NoSaid) = some true)
    (xs_NoWeights_TooMany : PySem.W.subIn K (.ref C_NoWeights) (.ref C_TooMany) = some false)
    (xs_NoWeights_NoSaid : PySem.W.subIn K (.ref C_NoWeights) (.ref C_NoSaid) = some false)
    (xs_NoWeights_NoWeights : PySem.W.subIn K (.ref C_NoWeights) (.ref C_NoWeights) = some true)
    (xs_NoUndo_TooMany : PySem.W.subIn K (.ref C_NoUndo) (.ref C_TooMany) = some false)
    (xs_NoUndo_NoSaid : PySem.W.subIn K (.ref C_NoUndo) (.ref C_NoSaid) = some false)
    (xs_NoUndo_NoWeights : PySem.W.subIn K (.ref C_NoUndo) (.ref C_NoWeights) = some false)
    (xs_NoUndo_NoUndo : PySem.W.subIn K (.ref C_NoUndo) (.ref C_NoUndo) = some true)
    (v_LETTERS : PySem.W.nsIn K mainGlobals "LETTERS" = some (some (.str ("abcdefghijklmnopqrstuvwxyz" : Str) t_LETTERS)))
    (v_MOST_LETTERS : PySem.W.nsIn K mainGlobals "MOST_LETTERS" = some (some (.int (6 : Int) t_MOST_LETTERS)))
    (v_NAMES : PySem.W.nsIn K mainGlobals "NAMES" = some (some (.ref g_NAMES)))
    (o_NAMES : K.lookup g_NAMES = some ⟨.type "tuple", dd_NAMES, .seq #[.str ("x" : Str) t_NAMES_0, .str ("y" : Str) t_NAMES_1] n_NAMES, sl_NAMES⟩)
    (v_BINDING : PySem.W.nsIn K mainGlobals "BINDING" = some (some (.ref g_BINDING)))
    (o_BINDING : K.lookup g_BINDING = some ⟨.type "tuple", dd_BINDING, .seq #[.str ("each" : Str) t_BINDING_0, .str ("some" : Str) t_BINDING_1] n_BINDING, sl_BINDING⟩)
    (v_JOINING : PySem.W.nsIn K mainGlobals "JOINING" = some (some (.ref g_JOINING)))
    (o_JOINING : K.lookup g_JOINING = some ⟨.type "tuple", dd_JOINING, .seq #[.str ("and" : Str) t_JOINING_0, .str ("or" : Str) t_JOINING_1] n_JOINING, sl_JOINING⟩)
    (v_MOST_TUPLES : PySem.W.nsIn K mainGlobals "MOST_TUPLES" = some (some (.int (100 : Int) t_MOST_TUPLES)))
    (v_MOST_DEEP : PySem.W.nsIn K mainGlobals "MOST_DEEP" = some (some (.int (20 : Int) t_MOST_DEEP)))
    (v_MOST_SAID : PySem.W.nsIn K mainGlobals "MOST_SAID" = some (some (.int (3 : Int) t_MOST_SAID)))
    (v_KEPT_WORDS : PySem.W.nsIn K mainGlobals "KEPT_WORDS" = some (some (.ref g_KEPT_WORDS)))
    (o_KEPT_WORDS : K.lookup g_KEPT_WORDS = some ⟨.type "dict", none, .dict es_KEPT_WORDS n_KEPT_WORDS, #[]⟩)
    (q_KEPT_WORDS : (g_KEPT_WORDS == sysModules) = false)
    (q2_KEPT_WORDS : es_KEPT_WORDS.toList.map He.keyOf = He.keysIn w.params KEPT_WORDS_ws)
    (v_MOST_MARKS : PySem.W.nsIn K mainGlobals "MOST_MARKS" = some (some (.int (3 : Int) t_MOST_MARKS)))
    (v_MOST_TIES : PySem.W.nsIn K mainGlobals "MOST_TIES" = some (some (.int (2 : Int) t_MOST_TIES))) :
    ∃ fd : FuncData, (∀ (s : Shared) (v : Value), BindsTo s fd ⟨[v], []⟩ [("_law_script", v)]) ∧ ∀ base : Heap, K.In base → base.Ns mainGlobals mg → FnOk l.prog w K mg base (L2.CX l.prog w) 50 fa fd ["_law_script"] (spLaw K 63) := by
  have e := hfa.symm.trans (PySem.W.mg_of X G a_law)
  cases e
  have T : Txt ⟨f__law_pool, f__law_draw, f__law_names, f__law_shape, f__law_small_shape, f_is_sequence, f_is_word, f_are_names, f_is_key, f_are_functions, f_Tongue___init__, f__law_tongue, f_check_plain, f_Hall___init__, f__law_due, f_is_tuple, f_is_headed, f_is_name, f_Tongue_marks, f_Tongue_ties, f_is_test, f_parts_of, f_is_saying, f_check_saying, f_own_names, f_sayings_in, f_free_names, f_check_closed, f_Hall_change, f_Hall_say, f_is_integer, f_is_within, f_Hall_drop, f_common_divisor, f_is_fraction, f_is_share, f_Hall_weigh, f_Hall_back, f__law_did, f_Hall_scales, f_Tongue___eq__, f__law_quantor, f__law_test, f__law_matrix, f__law_one, f__law_closed, f__law_free, f__law_places, f__law_said, f_Hall_said, f_Hall_depth, f_Hall_language, fa, p_Tongue_marks, p_Tongue_ties, g_NAMES, g_BINDING, g_JOINING, g_KEPT_WORDS⟩ K w mg (fun n => match n with | 0 => C_Tongue | 1 => C_Hall | 2 => C_TooMany | 3 => C_NoSaid | 4 => C_NoWeights | 5 => C_NoUndo | _ => C_Tongue) := ⟨PySem.W.mg_none_of X G z_abs,
    PySem.W.mg_none_of X G z_bool,
    PySem.W.mg_none_of X G z_int,
    PySem.W.mg_none_of X G z_isinstance,
    PySem.W.mg_none_of X G z_len,
    PySem.W.mg_none_of X G z_list,
    PySem.W.mg_none_of X G z_range,
    PySem.W.mg_none_of X G z_str,
    PySem.W.mg_none_of X G z_sum,
    PySem.W.mg_none_of X G z_tuple,
    PySem.W.mg_of X G a__law_pool,
    PySem.W.mg_of X G a__law_draw,
    PySem.W.mg_of X G a__law_names,
    PySem.W.mg_of X G a__law_shape,
    PySem.W.mg_of X G a__law_small_shape,
    PySem.W.mg_of X G a_is_sequence,
    PySem.W.mg_of X G a_is_word,
    PySem.W.mg_of X G a_are_names,
    PySem.W.mg_of X G a_is_key,
    PySem.W.mg_of X G a_are_functions,
    PySem.W.mg_of X G a__law_tongue,
    PySem.W.mg_of X G a_check_plain,
    PySem.W.mg_of X G a__law_due,
    PySem.W.mg_of X G a_is_tuple,
    PySem.W.mg_of X G a_is_headed,
    PySem.W.mg_of X G a_is_name,
    PySem.W.mg_of X G a_is_test,
    PySem.W.mg_of X G a_parts_of,
    PySem.W.mg_of X G a_is_saying,
    PySem.W.mg_of X G a_check_saying,
    PySem.W.mg_of X G a_own_names,
    PySem.W.mg_of X G a_sayings_in,
    PySem.W.mg_of X G a_free_names,
    PySem.W.mg_of X G a_check_closed,
    PySem.W.mg_of X G a_is_integer,
    PySem.W.mg_of X G a_is_within,
    PySem.W.mg_of X G a_common_divisor,
    PySem.W.mg_of X G a_is_fraction,
    PySem.W.mg_of X G a_is_share,
    PySem.W.mg_of X G a__law_did,
    PySem.W.mg_of X G a__law_quantor,
    PySem.W.mg_of X G a__law_test,
    PySem.W.mg_of X G a__law_matrix,
    PySem.W.mg_of X G a__law_one,
    PySem.W.mg_of X G a__law_closed,
    PySem.W.mg_of X G a__law_free,
    PySem.W.mg_of X G a__law_places,
    PySem.W.mg_of X G a__law_said,
    PySem.W.mg_of X G a_law,
    PySem.W.mg_of X G aC_Tongue,
    ⟨pg_Tongue, hd_Tongue, po_Tongue, sa_Tongue⟩,
    ⟨mk_Tongue, a_Tongue___init__, i_Tongue___init__, kc_Tongue⟩,
    na_Tongue_functions,
    na_Tongue_kept_marks,
    na_Tongue_kept_ties,
    ⟨at_Tongue_marks, ge_Tongue_marks, tk_Tongue_marks, _, re_Tongue_marks⟩,
    ⟨at_Tongue_ties, ge_Tongue_ties, tk_Tongue_ties, _, re_Tongue_ties⟩,
    ⟨a_Tongue___eq__, i_Tongue___eq__, k_Tongue___eq__⟩,
    PySem.W.mg_of X G aC_Hall,
    ⟨pg_Hall, hd_Hall, po_Hall, sa_Hall⟩,
    ⟨mk_Hall, a_Hall___init__, i_Hall___init__, kc_Hall⟩,
    na_Hall_kept,
    na_Hall_kept_tongue,
    na_Hall_past,
    na_Hall_scale,
    ⟨a_Hall_change, i_Hall_change, k_Hall_change⟩,
    ⟨a_Hall_say, i_Hall_say, k_Hall_say⟩,
    ⟨a_Hall_drop, i_Hall_drop, k_Hall_drop⟩,
    ⟨a_Hall_weigh, i_Hall_weigh, k_Hall_weigh⟩,
    ⟨a_Hall_back, i_Hall_back, k_Hall_back⟩,
    ⟨a_Hall_scales, i_Hall_scales, k_Hall_scales⟩,
    ⟨a_Hall_said, i_Hall_said, k_Hall_said⟩,
    ⟨a_Hall_depth, i_Hall_depth, k_Hall_depth⟩,
    ⟨a_Hall_language, i_Hall_language, k_Hall_language⟩,
    ⟨⟨pg_Tongue, hd_Tongue, po_Tongue, sa_Tongue⟩, xa_Tongue, xn_Tongue, xx_Tongue, xm_Tongue⟩,
    ⟨ne_Tongue, a_Tongue___eq__, i_Tongue___eq__, nm_Tongue⟩,
    PySem.W.mg_of X G aC_TooMany,
    ⟨xq_TooMany, xk_TooMany, xb_TooMany, xt_TooMany⟩,
    PySem.W.mg_of X G aC_NoSaid,
    ⟨xq_NoSaid, xk_NoSaid, xb_NoSaid, xt_NoSaid⟩,
    PySem.W.mg_of X G aC_NoWeights,
    ⟨xq_NoWeights, xk_NoWeights, xb_NoWeights, xt_NoWeights⟩,
    PySem.W.mg_of X G aC_NoUndo,
    ⟨xq_NoUndo, xk_NoUndo, xb_NoUndo, xt_NoUndo⟩,
    (by intro i j b h; unfold exm_tab at h; split at h <;> first | (cases h; first | exact exm_pair xb_TooMany xi_TooMany xt_TooMany xs_TooMany_TooMany | exact exm_pair xb_TooMany xi_TooMany xt_TooMany xs_NoSaid_TooMany | exact exm_pair xb_NoSaid xi_NoSaid xt_NoSaid xs_NoSaid_NoSaid | exact exm_pair xb_TooMany xi_TooMany xt_TooMany xs_NoWeights_TooMany | exact exm_pair xb_NoSaid xi_NoSaid xt_NoSaid xs_NoWeights_NoSaid | exact exm_pair xb_NoWeights xi_NoWeights xt_NoWeights xs_NoWeights_NoWeights | exact exm_pair xb_TooMany xi_TooMany xt_TooMany xs_NoUndo_TooMany | exact exm_pair xb_NoSaid xi_NoSaid xt_NoSaid xs_NoUndo_NoSaid | exact exm_pair xb_NoWeights xi_NoWeights xt_NoWeights xs_NoUndo_NoWeights | exact exm_pair xb_NoUndo xi_NoUndo xt_NoUndo xs_NoUndo_NoUndo) | cases h),
    ⟨_, PySem.W.mg_of X G v_LETTERS⟩,
    ⟨_, PySem.W.mg_of X G v_MOST_LETTERS⟩,
    PySem.W.mg_of X G v_NAMES,
    ⟨_, _, _, o_NAMES, rfl, rfl, (by simp [sizeLine]), .cons ⟨_, rfl⟩ (.cons ⟨_, rfl⟩ (.nil))⟩,
    PySem.W.mg_of X G v_BINDING,
    ⟨_, _, _, o_BINDING, rfl, rfl, (by simp [sizeLine]), .cons ⟨_, rfl⟩ (.cons ⟨_, rfl⟩ (.nil))⟩,
    PySem.W.mg_of X G v_JOINING,
    ⟨_, _, _, o_JOINING, rfl, rfl, (by simp [sizeLine]), .cons ⟨_, rfl⟩ (.cons ⟨_, rfl⟩ (.nil))⟩,
    ⟨_, PySem.W.mg_of X G v_MOST_TUPLES⟩,
    ⟨_, PySem.W.mg_of X G v_MOST_DEEP⟩,
    ⟨_, PySem.W.mg_of X G v_MOST_SAID⟩,
    PySem.W.mg_of X G v_KEPT_WORDS,
    kwords_of o_KEPT_WORDS q_KEPT_WORDS q2_KEPT_WORDS,
    ⟨_, PySem.W.mg_of X G v_MOST_MARKS⟩,
    ⟨_, PySem.W.mg_of X G v_MOST_TIES⟩⟩
  have F__law_pool := fun_mk (st := s__law_pool) l__law_pool c__law_pool k__law_pool
  have F__law_draw := fun_mk (st := s__law_draw) l__law_draw c__law_draw k__law_draw
  have F__law_names := fun_mk (st := s__law_names) l__law_names c__law_names k__law_names
  have F__law_shape := fun_mk (st := s__law_shape) l__law_shape c__law_shape k__law_shape
  have F__law_small_shape := fun_mk (st := s__law_small_shape) l__law_small_shape c__law_small_shape k__law_small_shape
  have F_is_sequence := fun_mk (st := s_is_sequence) l_is_sequence c_is_sequence k_is_sequence
  have F_is_word := fun_mk (st := s_is_word) l_is_word c_is_word k_is_word
  have F_are_names := fun_mk (st := s_are_names) l_are_names c_are_names k_are_names
  have F_is_key := fun_mk (st := s_is_key) l_is_key c_is_key k_is_key
  have F_are_functions := fun_mk (st := s_are_functions) l_are_functions c_are_functions k_are_functions
  have F_Tongue___init__ := fun_mk (st := s_Tongue___init__) l_Tongue___init__ c_Tongue___init__ k_Tongue___init__
  have F__law_tongue := fun_mk (st := s__law_tongue) l__law_tongue c__law_tongue k__law_tongue
  have F_check_plain := fun_mk (st := s_check_plain) l_check_plain c_check_plain k_check_plain
  have F_Hall___init__ := fun_mk (st := s_Hall___init__) l_Hall___init__ c_Hall___init__ k_Hall___init__
  have F__law_due := fun_mk (st := s__law_due) l__law_due c__law_due k__law_due
  have F_is_tuple := fun_mk (st := s_is_tuple) l_is_tuple c_is_tuple k_is_tuple
  have F_is_headed := fun_mk (st := s_is_headed) l_is_headed c_is_headed k_is_headed
  have F_is_name := fun_mk (st := s_is_name) l_is_name c_is_name k_is_name
  have F_Tongue_marks := fun_mk (st := s_Tongue_marks) l_Tongue_marks c_Tongue_marks k_Tongue_marks
  have F_Tongue_ties := fun_mk (st := s_Tongue_ties) l_Tongue_ties c_Tongue_ties k_Tongue_ties
  have F_is_test := fun_mk (st := s_is_test) l_is_test c_is_test k_is_test
  have F_parts_of := fun_mk (st := s_parts_of) l_parts_of c_parts_of k_parts_of
  have F_is_saying := fun_mk (st := s_is_saying) l_is_saying c_is_saying k_is_saying
  have F_check_saying := fun_mk (st := s_check_saying) l_check_saying c_check_saying k_check_saying
  have F_own_names := fun_mk (st := s_own_names) l_own_names c_own_names k_own_names
  have F_sayings_in := fun_mk (st := s_sayings_in) l_sayings_in c_sayings_in k_sayings_in
  have F_free_names := fun_mk (st := s_free_names) l_free_names c_free_names k_free_names
  have F_check_closed := fun_mk (st := s_check_closed) l_check_closed c_check_closed k_check_closed
  have F_Hall_change := fun_mk (st := s_Hall_change) l_Hall_change c_Hall_change k_Hall_change
  have F_Hall_say := fun_mk (st := s_Hall_say) l_Hall_say c_Hall_say k_Hall_say
  have F_is_integer := fun_mk (st := s_is_integer) l_is_integer c_is_integer k_is_integer
  have F_is_within := fun_mk (st := s_is_within) l_is_within c_is_within k_is_within
  have F_Hall_drop := fun_mk (st := s_Hall_drop) l_Hall_drop c_Hall_drop k_Hall_drop
  have F_common_divisor := fun_mk (st := s_common_divisor) l_common_divisor c_common_divisor k_common_divisor
  have F_is_fraction := fun_mk (st := s_is_fraction) l_is_fraction c_is_fraction k_is_fraction
  have F_is_share := fun_mk (st := s_is_share) l_is_share c_is_share k_is_share
  have F_Hall_weigh := fun_mk (st := s_Hall_weigh) l_Hall_weigh c_Hall_weigh k_Hall_weigh
  have F_Hall_back := fun_mk (st := s_Hall_back) l_Hall_back c_Hall_back k_Hall_back
  have F__law_did := fun_mk (st := s__law_did) l__law_did c__law_did k__law_did
  have F_Hall_scales := fun_mk (st := s_Hall_scales) l_Hall_scales c_Hall_scales k_Hall_scales
  have F_Tongue___eq__ := fun_mk (st := s_Tongue___eq__) l_Tongue___eq__ c_Tongue___eq__ k_Tongue___eq__
  have F__law_quantor := fun_mk (st := s__law_quantor) l__law_quantor c__law_quantor k__law_quantor
  have F__law_test := fun_mk (st := s__law_test) l__law_test c__law_test k__law_test
  have F__law_matrix := fun_mk (st := s__law_matrix) l__law_matrix c__law_matrix k__law_matrix
  have F__law_one := fun_mk (st := s__law_one) l__law_one c__law_one k__law_one
  have F__law_closed := fun_mk (st := s__law_closed) l__law_closed c__law_closed k__law_closed
  have F__law_free := fun_mk (st := s__law_free) l__law_free c__law_free k__law_free
  have F__law_places := fun_mk (st := s__law_places) l__law_places c__law_places k__law_places
  have F__law_said := fun_mk (st := s__law_said) l__law_said c__law_said k__law_said
  have F_Hall_said := fun_mk (st := s_Hall_said) l_Hall_said c_Hall_said k_Hall_said
  have F_Hall_depth := fun_mk (st := s_Hall_depth) l_Hall_depth c_Hall_depth k_Hall_depth
  have F_Hall_language := fun_mk (st := s_Hall_language) l_Hall_language c_Hall_language k_Hall_language
  have F_law := fun_mk (st := s_law) l_law c_law k_law
  refine ⟨PySem.W.fnOf "law" "law" (defArgs s_law) (defBody s_law) (defScope s_law) .none kV_law dc_law pm_law an_law cd_law ct_law, fun s v => .of_eq rfl, fun base _ _ => ?_⟩
  have H__law_pool := ok__law_pool (P := l.prog) (base := base) T F__law_pool
  have H__law_draw := ok__law_draw (P := l.prog) (base := base) T F__law_draw
  have H__law_names := ok__law_names (P := l.prog) (base := base) T H__law_draw F__law_names
  have H__law_shape := ok__law_shape (P := l.prog) (base := base) T H__law_draw H__law_names F__law_shape
  have H__law_small_shape := ok__law_small_shape (P := l.prog) (base := base) T H__law_shape F__law_small_shape
  have H_is_sequence := ok_is_sequence (P := l.prog) (base := base) T F_is_sequence
  have H_is_word := ok_is_word (P := l.prog) (base := base) T F_is_word
  have H_are_names := ok_are_names (P := l.prog) (base := base) T H_is_sequence H_is_word F_are_names
  have H_is_key := ok_is_key (P := l.prog) (base := base) T F_is_key
  have H_are_functions := ok_are_functions (P := l.prog) (base := base) T H_is_sequence H_is_key F_are_functions
  have H_Tongue___init__ := ok_Tongue___init__ (P := l.prog) (base := base) T H_are_names H_are_functions F_Tongue___init__
  have H__law_tongue := ok__law_tongue (P := l.prog) (base := base) T H_Tongue___init__ F__law_tongue
  have H_check_plain := ok_check_plain (P := l.prog) (base := base) T F_check_plain
  have H_Hall___init__ := ok_Hall___init__ (P := l.prog) (base := base) T H_check_plain F_Hall___init__
  have H__law_due := ok__law_due (P := l.prog) (base := base) T F__law_due
  have H_is_tuple := ok_is_tuple (P := l.prog) (base := base) T F_is_tuple
  have H_is_headed := ok_is_headed (P := l.prog) (base := base) T H_is_tuple F_is_headed
  have H_is_name := ok_is_name (P := l.prog) (base := base) T H_is_key F_is_name
  have H_Tongue_marks := ok_Tongue_marks (P := l.prog) (base := base) T F_Tongue_marks
  have H_Tongue_ties := ok_Tongue_ties (P := l.prog) (base := base) T F_Tongue_ties
  have H_is_test := ok_is_test (P := l.prog) (base := base) T H_is_headed H_is_key H_Tongue_marks H_is_name H_Tongue_ties F_is_test
  have H_parts_of := ok_parts_of (P := l.prog) (base := base) T H_is_test H_is_headed H_is_tuple H_is_name F_parts_of
  have H_is_saying := ok_is_saying (P := l.prog) (base := base) T H_parts_of F_is_saying
  have H_check_saying := ok_check_saying (P := l.prog) (base := base) T H_is_saying F_check_saying
  have H_own_names := ok_own_names (P := l.prog) (base := base) T F_own_names
  have H_sayings_in := ok_sayings_in (P := l.prog) (base := base) T F_sayings_in
  have H_free_names := ok_free_names (P := l.prog) (base := base) T H_own_names H_sayings_in F_free_names
  have H_check_closed := ok_check_closed (P := l.prog) (base := base) T H_check_saying (H_free_names 22) F_check_closed
  have H_Hall_change := ok_Hall_change (P := l.prog) (base := base) T F_Hall_change
  have H_Hall_say := ok_Hall_say (P := l.prog) (base := base) T H_check_closed H_Hall_change F_Hall_say
  have H_is_integer := ok_is_integer (P := l.prog) (base := base) T F_is_integer
  have H_is_within := ok_is_within (P := l.prog) (base := base) T H_is_integer F_is_within
  have H_Hall_drop := ok_Hall_drop (P := l.prog) (base := base) T H_is_within H_Hall_change F_Hall_drop
  have H_common_divisor := ok_common_divisor (P := l.prog) (base := base) T F_common_divisor
  have H_is_fraction := ok_is_fraction (P := l.prog) (base := base) T H_is_tuple H_is_integer H_common_divisor F_is_fraction
  have H_is_share := ok_is_share (P := l.prog) (base := base) T H_is_fraction F_is_share
  have H_Hall_weigh := ok_Hall_weigh (P := l.prog) (base := base) T H_is_key H_Tongue_marks H_Tongue_ties H_is_share H_Hall_change F_Hall_weigh
  have H_Hall_back := ok_Hall_back (P := l.prog) (base := base) T F_Hall_back
  have H__law_did := ok__law_did (P := l.prog) (base := base) T H_Hall_say H_Hall_drop H_Hall_weigh H_Hall_back F__law_did
  have H_Hall_scales := ok_Hall_scales (P := l.prog) (base := base) T F_Hall_scales
  have H_Tongue___eq__ := ok_Tongue___eq__ (P := l.prog) (base := base) T H_Tongue_marks H_Tongue_ties F_Tongue___eq__
  have H__law_quantor := ok__law_quantor (P := l.prog) (base := base) T H__law_draw F__law_quantor
  have H__law_test := ok__law_test (P := l.prog) (base := base) T H__law_draw F__law_test
  have H__law_matrix := ok__law_matrix (P := l.prog) (base := base) T H__law_draw H__law_test F__law_matrix
  have H__law_one := ok__law_one (P := l.prog) (base := base) T H__law_draw (H__law_matrix 5) H__law_quantor F__law_one
  have H__law_closed := ok__law_closed (P := l.prog) (base := base) T H__law_draw H__law_quantor H__law_one F__law_closed
  have H__law_free := ok__law_free (P := l.prog) (base := base) T F__law_free
  have H__law_places := ok__law_places (P := l.prog) (base := base) T (H__law_free 24) F__law_places
  have H__law_said := ok__law_said (P := l.prog) (base := base) T (H__law_closed 4) (H__law_places 24) H__law_quantor H__law_test F__law_said
  have H_Hall_said := ok_Hall_said (P := l.prog) (base := base) T F_Hall_said
  have H_Hall_depth := ok_Hall_depth (P := l.prog) (base := base) T F_Hall_depth
  have H_Hall_language := ok_Hall_language (P := l.prog) (base := base) T F_Hall_language
  have H_law := ok_law (P := l.prog) (base := base) T H__law_pool H__law_small_shape H__law_tongue H_Hall___init__ H__law_draw H__law_said H__law_one H__law_due H__law_did H_Hall_said H_Hall_scales H_Hall_depth H_Tongue___eq__ H_Hall_language F_law
  exact fn_law law_pure H_law
theorem walk {l : PySem.W.OpenLaw} {q : Program} {loose : List Str} {XP : (Str → Option Value) → Heap → Prop} {YP : World → Heap → Prop} {d : DefRec} {K : Params → PySem.W.Frag} (hn : l.most = some 63) (hdf : d.params.defaults = [])
    (hY : ∀ (w : World) (h : Heap), YP w h → (K w.params).In h)
    (F : ∀ (w : World) (mg : Str → Option Value) (fa : Addr) (h : Heap), (K w.params).In h → h.Ns mainGlobals mg → mg d.name = some (.ref fa) →
      ∃ fd : FuncData, (∀ (s : Shared) (u : Value), BindsTo s fd ⟨[u], []⟩ [("_law_script", u)]) ∧ ∀ base : Heap, (K w.params).In base → base.Ns mainGlobals mg → FnOk l.prog w (K w.params) mg base (L2.CX l.prog w) 50 fa fd ["_law_script"] (spLaw (K w.params) 63)) :
    PySem.W.WalkO q loose XP YP l.row.toRowW d [] (fun f vs => PySem.call f vs) :=
  L2.walk_of (n := 63) (k := 50) (x := "_law_script") (CX := fun w => L2.CX l.prog w) (sp := fun w => spLaw (K w.params) 63) hn (by decide) hdf ⟨rfl, by decide, by decide⟩ hY F (fun _ _ a ns hl _ hS => ⟨a, ns, rfl, hl, hS, fun _ => rfl⟩) fun w H s e s' z => cx_no z
end Mi
open PySem PySem.W PyProof.Rows
set_option maxRecDepth 100000 in
set_option maxHeartbeats 0 in
theorem PySem.Challenge.cw_pairsayings_k75_whole_halls_by_own_rows_holds : PySem.Challenge.rw_pairsayings_k75_whole_halls_by_own_rows.Holds := by
  w_on; o_law; k_head; (case hw => w_witness2)
  k_fill
  refine Mi.walk (l := PySem.Challenge.rw_pairsayings_k75_whole_halls_by_own_rows) rfl rfl (fun w h Y => PySem.W.kIn_of Y) ?F
  case F =>
    intro w mg fa h KX G hmg
    refine' Mi.all_mk KX G hmg ?aC_Tongue ?aC_Hall ?a__law_pool ?l__law_pool ?c__law_pool ?k__law_pool ?a__law_draw ?l__law_draw ?c__law_draw ?k__law_draw ?a__law_names ?l__law_names ?c__law_names ?k__law_names ?a__law_shape ?l__law_shape ?c__law_shape ?k__law_shape ?a__law_small_shape ?l__law_small_shape ?c__law_small_shape ?k__law_small_shape ?a_is_sequence ?l_is_sequence ?c_is_sequence ?k_is_sequence ?a_is_word ?l_is_word ?c_is_word ?k_is_word ?a_are_names ?l_are_names ?c_are_names ?k_are_names ?a_is_key ?l_is_key ?c_is_key ?k_is_key ?a_are_functions ?l_are_functions ?c_are_functions ?k_are_functions ?a_Tongue___init__ ?i_Tongue___init__ ?l_Tongue___init__ ?c_Tongue___init__ ?k_Tongue___init__ ?a__law_tongue ?l__law_tongue ?c__law_tongue ?k__law_tongue ?a_check_plain ?l_check_plain ?c_check_plain ?k_check_plain ?a_Hall___init__ ?i_Hall___init__ ?l_Hall___init__ ?c_Hall___init__ ?k_Hall___init__ ?a__law_due ?l__law_due ?c__law_due ?k__law_due ?a_is_tuple ?l_is_tuple ?c_is_tuple ?k_is_tuple ?a_is_headed ?l_is_headed ?c_is_headed ?k_is_headed ?a_is_name ?l_is_name ?c_is_name ?k_is_name ?at_Tongue_marks ?ge_Tongue_marks ?tk_Tongue_marks ?re_Tongue_marks ?l_Tongue_marks ?c_Tongue_marks ?k_Tongue_marks ?at_Tongue_ties ?ge_Tongue_ties ?tk_Tongue_ties ?re_Tongue_ties ?l_Tongue_ties ?c_Tongue_ties ?k_Tongue_ties ?a_is_test ?l_is_test ?c_is_test ?k_is_test ?a_parts_of ?l_parts_of ?c_parts_of ?k_parts_of ?a_is_saying ?l_is_saying ?c_is_saying ?k_is_saying ?a_check_saying ?l_check_saying ?c_check_saying ?k_check_saying ?a_own_names ?l_own_names ?c_own_names ?k_own_names ?a_sayings_in ?l_sayings_in ?c_sayings_in ?k_sayings_in ?a_free_names ?l_free_names ?c_free_names ?k_free_names ?a_check_closed ?l_check_closed ?c_check_closed ?k_check_closed ?a_Hall_change ?i_Hall_change ?l_Hall_change ?c_Hall_change ?k_Hall_change ?a_Hall_say ?i_Hall_say ?l_Hall_say ?c_Hall_say ?k_Hall_say ?a_is_integer ?l_is_integer ?c_is_integer ?k_is_integer ?a_is_within ?l_is_within ?c_is_within ?k_is_within ?a_Hall_drop ?i_Hall_drop ?l_Hall_drop ?c_Hall_drop ?k_Hall_drop ?a_common_divisor ?l_common_divisor ?c_common_divisor ?k_common_divisor ?a_is_fraction ?l_is_fraction ?c_is_fraction ?k_is_fraction ?a_is_share ?l_is_share ?c_is_share ?k_is_share ?a_Hall_weigh ?i_Hall_weigh ?l_Hall_weigh ?c_Hall_weigh ?k_Hall_weigh ?a_Hall_back ?i_Hall_back ?l_Hall_back ?c_Hall_back ?k_Hall_back ?a__law_did ?l__law_did ?c__law_did ?k__law_did ?a_Hall_scales ?i_Hall_scales ?l_Hall_scales ?c_Hall_scales ?k_Hall_scales ?a_Tongue___eq__ ?i_Tongue___eq__ ?l_Tongue___eq__ ?c_Tongue___eq__ ?k_Tongue___eq__ ?a__law_quantor ?l__law_quantor ?c__law_quantor ?k__law_quantor ?a__law_test ?l__law_test ?c__law_test ?k__law_test ?a__law_matrix ?l__law_matrix ?c__law_matrix ?k__law_matrix ?a__law_one ?l__law_one ?c__law_one ?k__law_one ?a__law_closed ?l__law_closed ?c__law_closed ?k__law_closed ?a__law_free ?l__law_free ?c__law_free ?k__law_free ?a__law_places ?l__law_places ?c__law_places ?k__law_places ?a__law_said ?l__law_said ?c__law_said ?k__law_said ?a_Hall_said ?i_Hall_said ?l_Hall_said ?c_Hall_said ?k_Hall_said ?a_Hall_depth ?i_Hall_depth ?l_Hall_depth ?c_Hall_depth ?k_Hall_depth ?a_Hall_language ?i_Hall_language ?l_Hall_language ?c_Hall_language ?k_Hall_language ?a_law ?l_law ?c_law ?k_law ?z_abs ?z_bool ?z_int ?z_isinstance ?z_len ?z_list ?z_range ?z_str ?z_sum ?z_tuple ?pg_Tongue ?hd_Tongue ?po_Tongue ?sa_Tongue ?mk_Tongue ?kc_Tongue ?na_Tongue_functions ?na_Tongue_kept_marks ?na_Tongue_kept_ties ?pg_Hall ?hd_Hall ?po_Hall ?sa_Hall ?mk_Hall ?kc_Hall ?na_Hall_kept ?na_Hall_kept_tongue ?na_Hall_past ?na_Hall_scale ?xa_Tongue ?xn_Tongue ?xx_Tongue ?xm_Tongue ?ne_Tongue ?nm_Tongue ?aC_TooMany ?xq_TooMany ?xk_TooMany ?xb_TooMany ?xt_TooMany ?aC_NoSaid ?xq_NoSaid ?xk_NoSaid ?xb_NoSaid ?xt_NoSaid ?aC_NoWeights ?xq_NoWeights ?xk_NoWeights ?xb_NoWeights ?xt_NoWeights ?aC_NoUndo ?xq_NoUndo ?xk_NoUndo ?xb_NoUndo ?xt_NoUndo ?xi_NoSaid ?xi_NoUndo ?xi_NoWeights ?xi_TooMany ?xs_TooMany_TooMany ?xs_NoSaid_TooMany ?xs_NoSaid_NoSaid ?xs_NoWeights_TooMany ?xs_NoWeights_NoSaid ?xs_NoWeights_NoWeights ?xs_NoUndo_TooMany ?xs_NoUndo_NoSaid ?xs_NoUndo_NoWeights ?xs_NoUndo_NoUndo ?v_LETTERS ?v_MOST_LETTERS ?v_NAMES ?o_NAMES ?v_BINDING ?o_BINDING ?v_JOINING ?o_JOINING ?v_MOST_TUPLES ?v_MOST_DEEP ?v_MOST_SAID ?v_KEPT_WORDS ?o_KEPT_WORDS ?q_KEPT_WORDS ?q2_KEPT_WORDS ?v_MOST_MARKS ?v_MOST_TIES
    (case aC_Tongue => k_is)
    (case aC_Hall => k_is)
    (case a__law_pool => k_is)
    (case l__law_pool => k_is)
    (case c__law_pool => k_is)
    (case k__law_pool => k_is)
    (case a__law_draw => k_is)
    (case l__law_draw => k_is)
    (case c__law_draw => k_is)
    (case k__law_draw => k_is)
    (case a__law_names => k_is)
    (case l__law_names => k_is)
    (case c__law_names => k_is)
    (case k__law_names => k_is)
    (case a__law_shape => k_is)
    (case l__law_shape => k_is)
    (case c__law_shape => k_is)
    (case k__law_shape => k_is)
    (case a__law_small_shape => k_is)
    (case l__law_small_shape => k_is)
    (case c__law_small_shape => k_is)
    (case k__law_small_shape => k_is)
    (case a_is_sequence => k_is)
    (case l_is_sequence => k_is)
    (case c_is_sequence => k_is)
    (case k_is_sequence => k_is)
    (case a_is_word => k_is)
    (case l_is_word => k_is)
    (case c_is_word => k_is)
    (case k_is_word => k_is)
    (case a_are_names => k_is)
    (case l_are_names => k_is)
    (case c_are_names => k_is)
    (case k_are_names => k_is)
    (case a_is_key => k_is)
    (case l_is_key => k_is)
    (case c_is_key => k_is)
    (case k_is_key => k_is)
    (case a_are_functions => k_is)
    (case l_are_functions => k_is)
    (case c_are_functions => k_is)
    (case k_are_functions => k_is)
    (case a_Tongue___init__ => k_is)
    (case i_Tongue___init__ => k_is)
    (case l_Tongue___init__ => k_is)
    (case c_Tongue___init__ => k_is)
    (case k_Tongue___init__ => k_is)
    (case a__law_tongue => k_is)
    (case l__law_tongue => k_is)
    (case c__law_tongue => k_is)
    (case k__law_tongue => k_is)
    (case a_check_plain => k_is)
    (case l_check_plain => k_is)
    (case c_check_plain => k_is)
    (case k_check_plain => k_is)
    (case a_Hall___init__ => k_is)
    (case i_Hall___init__ => k_is)
    (case l_Hall___init__ => k_is)
    (case c_Hall___init__ => k_is)
    (case k_Hall___init__ => k_is)
    (case a__law_due => k_is)
    (case l__law_due => k_is)
    (case c__law_due => k_is)
    (case k__law_due => k_is)
    (case a_is_tuple => k_is)
    (case l_is_tuple => k_is)
    (case c_is_tuple => k_is)
    (case k_is_tuple => k_is)
    (case a_is_headed => k_is)
    (case l_is_headed => k_is)
    (case c_is_headed => k_is)
    (case k_is_headed => k_is)
    (case a_is_name => k_is)
    (case l_is_name => k_is)
    (case c_is_name => k_is)
    (case k_is_name => k_is)
    (case at_Tongue_marks => k_is)
    (case ge_Tongue_marks => k_is)
    (case tk_Tongue_marks => k_is)
    (case re_Tongue_marks => k_is)
    (case l_Tongue_marks => k_is)
    (case c_Tongue_marks => k_is)
    (case k_Tongue_marks => k_is)
    (case at_Tongue_ties => k_is)
    (case ge_Tongue_ties => k_is)
    (case tk_Tongue_ties => k_is)
    (case re_Tongue_ties => k_is)
    (case l_Tongue_ties => k_is)
    (case c_Tongue_ties => k_is)
    (case k_Tongue_ties => k_is)
    (case a_is_test => k_is)
    (case l_is_test => k_is)
    (case c_is_test => k_is)
    (case k_is_test => k_is)
    (case a_parts_of => k_is)
    (case l_parts_of => k_is)
    (case c_parts_of => k_is)
    (case k_parts_of => k_is)
    (case a_is_saying => k_is)
    (case l_is_saying => k_is)
    (case c_is_saying => k_is)
    (case k_is_saying => k_is)
    (case a_check_saying => k_is)
    (case l_check_saying => k_is)
    (case c_check_saying => k_is)
    (case k_check_saying => k_is)
    (case a_own_names => k_is)
    (case l_own_names => k_is)
    (case c_own_names => k_is)
    (case k_own_names => k_is)
    (case a_sayings_in => k_is)
    (case l_sayings_in => k_is)
    (case c_sayings_in => k_is)
    (case k_sayings_in => k_is)
    (case a_free_names => k_is)
    (case l_free_names => k_is)
    (case c_free_names => k_is)
    (case k_free_names => k_is)
    (case a_check_closed => k_is)
    (case l_check_closed => k_is)
    (case c_check_closed => k_is)
    (case k_check_closed => k_is)
    (case a_Hall_change => k_is)
    (case i_Hall_change => k_is)
    (case l_Hall_change => k_is)
    (case c_Hall_change => k_is)
    (case k_Hall_change => k_is)
    (case a_Hall_say => k_is)
    (case i_Hall_say => k_is)
    (case l_Hall_say => k_is)
    (case c_Hall_say => k_is)
    (case k_Hall_say => k_is)
    (case a_is_integer => k_is)
    (case l_is_integer => k_is)
    (case c_is_integer => k_is)
    (case k_is_integer => k_is)
    (case a_is_within => k_is)
    (case l_is_within => k_is)
    (case c_is_within => k_is)
    (case k_is_within => k_is)
    (case a_Hall_drop => k_is)
    (case i_Hall_drop => k_is)
    (case l_Hall_drop => k_is)
    (case c_Hall_drop => k_is)
    (case k_Hall_drop => k_is)
    (case a_common_divisor => k_is)
    (case l_common_divisor => k_is)
    (case c_common_divisor => k_is)
    (case k_common_divisor => k_is)
    (case a_is_fraction => k_is)
    (case l_is_fraction => k_is)
    (case c_is_fraction => k_is)
    (case k_is_fraction => k_is)
    (case a_is_share => k_is)
    (case l_is_share => k_is)
    (case c_is_share => k_is)
    (case k_is_share => k_is)
    (case a_Hall_weigh => k_is)
    (case i_Hall_weigh => k_is)
    (case l_Hall_weigh => k_is)
    (case c_Hall_weigh => k_is)
    (case k_Hall_weigh => k_is)
    (case a_Hall_back => k_is)
    (case i_Hall_back => k_is)
    (case l_Hall_back => k_is)
    (case c_Hall_back => k_is)
    (case k_Hall_back => k_is)
    (case a__law_did => k_is)
    (case l__law_did => k_is)
    (case c__law_did => k_is)
    (case k__law_did => k_is)
    (case a_Hall_scales => k_is)
    (case i_Hall_scales => k_is)
    (case l_Hall_scales => k_is)
    (case c_Hall_scales => k_is)
    (case k_Hall_scales => k_is)
    (case a_Tongue___eq__ => k_is)
    (case i_Tongue___eq__ => k_is)
    (case l_Tongue___eq__ => k_is)
    (case c_Tongue___eq__ => k_is)
    (case k_Tongue___eq__ => k_is)
    (case a__law_quantor => k_is)
    (case l__law_quantor => k_is)
    (case c__law_quantor => k_is)
    (case k__law_quantor => k_is)
    (case a__law_test => k_is)
    (case l__law_test => k_is)
    (case c__law_test => k_is)
    (case k__law_test => k_is)
    (case a__law_matrix => k_is)
    (case l__law_matrix => k_is)
    (case c__law_matrix => k_is)
    (case k__law_matrix => k_is)
    (case a__law_one => k_is)
    (case l__law_one => k_is)
    (case c__law_one => k_is)
    (case k__law_one => k_is)
    (case a__law_closed => k_is)
    (case l__law_closed => k_is)
    (case c__law_closed => k_is)
    (case k__law_closed => k_is)
    (case a__law_free => k_is)
    (case l__law_free => k_is)
    (case c__law_free => k_is)
    (case k__law_free => k_is)
    (case a__law_places => k_is)
    (case l__law_places => k_is)
    (case c__law_places => k_is)
    (case k__law_places => k_is)
    (case a__law_said => k_is)
    (case l__law_said => k_is)
    (case c__law_said => k_is)
    (case k__law_said => k_is)
    (case a_Hall_said => k_is)
    (case i_Hall_said => k_is)
    (case l_Hall_said => k_is)
    (case c_Hall_said => k_is)
    (case k_Hall_said => k_is)
    (case a_Hall_depth => k_is)
    (case i_Hall_depth => k_is)
    (case l_Hall_depth => k_is)
    (case c_Hall_depth => k_is)
    (case k_Hall_depth => k_is)
    (case a_Hall_language => k_is)
    (case i_Hall_language => k_is)
    (case l_Hall_language => k_is)
    (case c_Hall_language => k_is)
    (case k_Hall_language => k_is)
    (case a_law => k_is)
    (case l_law => k_is)
    (case c_law => k_is)
    (case k_law => k_is)
    (case z_abs => k_is)
    (case z_bool => k_is)
    (case z_int => k_is)
    (case z_isinstance => k_is)
    (case z_len => k_is)
    (case z_list => k_is)
    (case z_range => k_is)
    (case z_str => k_is)
    (case z_sum => k_is)
    (case z_tuple => k_is)
    (case pg_Tongue => k_is)
    (case hd_Tongue => k_is)
    (case po_Tongue => k_is)
    (case sa_Tongue => k_is)
    (case mk_Tongue => k_is)
    (case kc_Tongue => k_is)
    (case na_Tongue_functions => k_is)
    (case na_Tongue_kept_marks => k_is)
    (case na_Tongue_kept_ties => k_is)
    (case pg_Hall => k_is)
    (case hd_Hall => k_is)
    (case po_Hall => k_is)
    (case sa_Hall => k_is)
    (case mk_Hall => k_is)
    (case kc_Hall => k_is)
    (case na_Hall_kept => k_is)
    (case na_Hall_kept_tongue => k_is)
    (case na_Hall_past => k_is)
    (case na_Hall_scale => k_is)
    (case xa_Tongue => first | rfl | k_is)
    (case xn_Tongue => first | rfl | k_is)
    (case xx_Tongue => first | rfl | k_is)
    (case xm_Tongue => first | rfl | k_is)
    (case ne_Tongue => k_is)
    (case nm_Tongue => k_is)
    (case aC_TooMany => k_is)
    (case xq_TooMany => k_exc)
    (case xk_TooMany => k_is)
    (case xb_TooMany => k_is)
    (case xt_TooMany => k_is)
    (case aC_NoSaid => k_is)
    (case xq_NoSaid => k_exc)
    (case xk_NoSaid => k_is)
    (case xb_NoSaid => k_is)
    (case xt_NoSaid => k_is)
    (case aC_NoWeights => k_is)
    (case xq_NoWeights => k_exc)
    (case xk_NoWeights => k_is)
    (case xb_NoWeights => k_is)
    (case xt_NoWeights => k_is)
    (case aC_NoUndo => k_is)
    (case xq_NoUndo => k_exc)
    (case xk_NoUndo => k_is)
    (case xb_NoUndo => k_is)
    (case xt_NoUndo => k_is)
    (case xi_NoSaid => k_is)
    (case xi_NoUndo => k_is)
    (case xi_NoWeights => k_is)
    (case xi_TooMany => k_is)
    (case xs_TooMany_TooMany => first | rfl | k_is)
    (case xs_NoSaid_TooMany => first | rfl | k_is)
    (case xs_NoSaid_NoSaid => first | rfl | k_is)
    (case xs_NoWeights_TooMany => first | rfl | k_is)
    (case xs_NoWeights_NoSaid => first | rfl | k_is)
    (case xs_NoWeights_NoWeights => first | rfl | k_is)
    (case xs_NoUndo_TooMany => first | rfl | k_is)
    (case xs_NoUndo_NoSaid => first | rfl | k_is)
    (case xs_NoUndo_NoWeights => first | rfl | k_is)
    (case xs_NoUndo_NoUndo => first | rfl | k_is)
    (case v_LETTERS => k_is)
    (case v_MOST_LETTERS => k_is)
    (case v_NAMES => k_is)
    (case o_NAMES => k_is)
    (case v_BINDING => k_is)
    (case o_BINDING => k_is)
    (case v_JOINING => k_is)
    (case o_JOINING => k_is)
    (case v_MOST_TUPLES => k_is)
    (case v_MOST_DEEP => k_is)
    (case v_MOST_SAID => k_is)
    (case v_KEPT_WORDS => k_is)
    (case o_KEPT_WORDS => k_is)
    (case q_KEPT_WORDS => rfl)
    (case q2_KEPT_WORDS => rfl)
    (case v_MOST_MARKS => k_is)
    (case v_MOST_TIES => k_is)

