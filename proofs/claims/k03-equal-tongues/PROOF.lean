import PyProof.Rows.All
import Wide.All
import OpenK.AllK
import Wide.FinOn
import HandS.ForMost
import HandS.ForExc
import HandS.CallSlots
import HandS.TryMany
import KE.KDictKeyed
import HandS.IsInst
import HandS.TupAny
import HandS.Property
import HandS.Iter
import HandS.Zip
import HandS.MakeKw
import HandS.MakeKwOnly
import HandS.More
import HandS.HeadHook3
import HandS.StrMore
import KE.KDictCopyH
import PyProof.InstNe
import PyProof.Rows.InDataRows
import HandS.Sort
import HandS.DictComp
import HandS.Conv
import HandS.SortInts
import HandS.DeepEq
import PySem.Challenge.RW_pairsayings_k03_equal_tongues
import HandS.Codes
import PyProof.P3Eq
set_option Elab.async false
set_option linter.all false
set_option maxRecDepth 100000
set_option maxHeartbeats 4000000
/-! Mi: a mirror of Python runs as plain Lean functions over trees. -/
namespace Mi
open PySem L2

/-- data as trees; a thing that changes and is shared is a number of the store -/
inductive D where
  | non | bl (b : Bool) | int (i : Int) | str (x : Str)
  | tup (xs : List D) | lst (xs : List D) | lck (xs : List D) | dic (kvs : List (Key × D)) | dit (kvs : List (List Key × D)) | din (kvs : List (NestedKey × D))
  | obj (c : Nat) (fs : List (Str × D)) | ptr (n : Nat)
inductive Slot where
  | no | val (d : D) | own (d : D)
structure S where
  e : List Slot
  t : List D
structure Xn where
  c : Nat
  pay : Option (List (Str × D))
inductive Res (α : Type) where
  | ok (a : α) (s : S) | exc (x : Xn) (s : S) | stuck
abbrev M (α : Type) := S → Res α
def Res.bind {α β : Type} (r : Res α) (f : α → M β) : Res β := match r with
  | .ok a s => f a s
  | .exc x s => .exc x s
  | .stuck => .stuck
def bnd {α β : Type} (m : M α) (f : α → M β) : M β := fun s => (m s).bind f
def ret {α : Type} (a : α) : M α := fun s => .ok a s
def stk {α : Type} : M α := fun _ => .stuck
/-- a value, or the mutable thing that a slot of the frame holds -/
inductive Loc where
  | val (d : D) | own (i : Nat)

def isStrD : D → Bool | .str _ => true | _ => false
structure Gc where
  K : PySem.W.Frag
  ca : Nat → Addr
  w : World

def Kt (K : PySem.W.Frag) (a : Addr) (xs : List V) : Prop :=
  ∃ (o : Obj) (its : Array Value) (n : Nat), K.lookup a = some o ∧ o.cls = .type "tuple" ∧ o.data = .seq its n ∧ its.size ≤ sizeLine ∧ Vals xs its.toList

/-- a list of the written part -/
def Kl (K : PySem.W.Frag) (a : Addr) (xs : List V) : Prop :=
  ∃ (o : Obj) (its : Array Value) (n : Nat), K.lookup a = some o ∧ o.cls = .type "list" ∧ o.dict = none ∧ o.data = .seq its n ∧ its.size ≤ sizeLine ∧ Vals xs its.toList

/-- a dict whose keys are tuples of numbers, texts and None: where each key's tuple stands is part of what is told -/
def dnO (w : World) (a : Addr) (xs : List (NestedKey × Addr × V)) : HO := .ext fun h => xs.length ≤ sizeLine ∧ (a == sysModules) = false ∧ (xs.map (·.1)).Nodup ∧ ∃ ys : List (NestedKey × Addr × Value),
  Paired (fun (p : NestedKey × Addr × V) (q : NestedKey × Addr × Value) => p.1 = q.1 ∧ p.2.1 = q.2.1 ∧ RelV p.2.2 q.2.2) xs ys ∧ ∃ o es ep, h.get? a = some o ∧ o.ExactDict ∧ o.data = .dict es ep ∧ es.toList = ys.map fun y => ⟨NestedKey.hash w y.1, .ref y.2.1, y.2.2⟩
def nkV : V → Option NestedKey
  | .int i => some (.num i)
  | .str x => some (.text x)
  | .non => some .none
  | _ => none
def nksV : List V → Option (List NestedKey)
  | [] => some []
  | v :: vs => match nkV v, nksV vs with | some k, some ks => some (k :: ks) | _, _ => none
/-- the tuple at b is the key k -/
def KTup (W : Addr → Prop) (H : Hp) (k : NestedKey) (b : Addr) : Prop := ∃ us ks, H b = some (.tup us) ∧ ¬ W b ∧ nksV us = some ks ∧ k = .tup ks

mutual
inductive Rep (G : Gc) (W : Addr → Prop) (ρ : List Addr) (H : Hp) : V → D → Prop
  | non : Rep G W ρ H .non .non
  | bl {b : Bool} : Rep G W ρ H (.bl b) (.bl b)
  | int {i : Int} : Rep G W ρ H (.int i) (.int i)
  | str {x : Str} : Rep G W ρ H (.str x) (.str x)
  | tup {a : Addr} {vs : List V} {ds : List D} : H a = some (.tup vs) → ¬ W a → Reps G W ρ H vs ds → Rep G W ρ H (.ref a) (.tup ds)
  | tupK {a : Addr} {vs : List V} {ds : List D} : Kt G.K a vs → ds.all isStrD = true → Reps G W ρ H vs ds → Rep G W ρ H (.ref a) (.tup ds)
  | lst {a : Addr} {vs : List V} {ds : List D} : H a = some (.lst vs) → ¬ W a → Reps G W ρ H vs ds → Rep G W ρ H (.ref a) (.lst ds)
  | lck {a : Addr} {vs : List V} {ds : List D} : Rd H a (.lst vs) → ¬ W a → Reps G W ρ H vs ds → Rep G W ρ H (.ref a) (.lck ds)
  | lckK {a : Addr} {vs : List V} {ds : List D} : Kl G.K a vs → Reps G W ρ H vs ds → Rep G W ρ H (.ref a) (.lck ds)
  | dic {a : Addr} {vs : List (Key × V)} {ds : List (Key × D)} : Rd H a (.dK vs) → ¬ W a → vs.map (·.1) = ds.map (·.1) → Reps G W ρ H (vs.map (·.2)) (ds.map (·.2)) → Rep G W ρ H (.ref a) (.dic ds)
  | dit {a : Addr} {vs : List (List Key × V)} {ds : List (List Key × D)} : H a = some (.dT vs) → ¬ W a → vs.map (·.1) = ds.map (·.1) → Reps G W ρ H (vs.map (·.2)) (ds.map (·.2)) → Rep G W ρ H (.ref a) (.dit ds)
  | din {a : Addr} {vs : List (NestedKey × Addr × V)} {ds : List (NestedKey × D)} : H a = some (dnO G.w a vs) → ¬ W a → (∀ x ∈ vs, KTup W H x.1 x.2.1) → vs.map (·.1) = ds.map (·.1) → Reps G W ρ H (vs.map (·.2.2)) (ds.map (·.2)) → Rep G W ρ H (.ref a) (.din ds)
  | obj {a dx : Addr} {c : Nat} {vs : List (Str × V)} {ds : List (Str × D)} : H a = some (.ins (G.ca c) dx vs) → ¬ W a → vs.map (·.1) = ds.map (·.1) → Reps G W ρ H (vs.map (·.2)) (ds.map (·.2)) → Rep G W ρ H (.ref a) (.obj c ds)
  | ptr {a : Addr} {n : Nat} : ρ[n]? = some a → Rep G W ρ H (.ref a) (.ptr n)
inductive Reps (G : Gc) (W : Addr → Prop) (ρ : List Addr) (H : Hp) : List V → List D → Prop
  | nil : Reps G W ρ H [] []
  | cons {v : V} {d : D} {vs : List V} {ds : List D} : Rep G W ρ H v d → Reps G W ρ H vs ds → Reps G W ρ H (v :: vs) (d :: ds)
end

/-- what a step keeps: all that is not in W, and what is in S0 -/
structure Kp (S0 W : Addr → Prop) (H : Hp) (W' : Addr → Prop) (H' : Hp) : Prop where
  keep : ∀ b o, ¬ W b → H b = some o → H' b = some o
  wn : ∀ b o, ¬ W b → H b = some o → ¬ W' b
  s0 : ∀ b o, S0 b → H b = some o → H' b = some o

section
variable {G : Gc} {S0 W W' W2 : Addr → Prop} {ρ ρ' : List Addr} {H H' H2 : Hp}
theorem Kp.refl : Kp S0 W H W H := ⟨fun _ _ _ h => h, fun _ _ h _ => h, fun _ _ _ h => h⟩
theorem Kp.trans (a : Kp S0 W H W' H') (b : Kp S0 W' H' W2 H2) : Kp S0 W H W2 H2 :=
  ⟨fun x o n h => b.keep x o (a.wn x o n h) (a.keep x o n h), fun x o n h => b.wn x o (a.wn x o n h) (a.keep x o n h), fun x o n h => b.s0 x o n (a.s0 x o n h)⟩
theorem rd_keep {a : Addr} {u : HO} (k : ∀ b o, ¬ W b → H b = some o → H' b = some o) (hw : ¬ W a) (h : Rd H a u) : Rd H' a u := by
  rcases h with h | ⟨o, h⟩
  · exact .inl (k a _ hw h)
  · exact .inr ⟨o, k a _ hw h⟩
theorem rd_some {a : Addr} {u : HO} (h : Rd H a u) : ∃ o, H a = some o := by
  rcases h with h | ⟨o, h⟩
  · exact ⟨_, h⟩
  · exact ⟨_, h⟩
theorem pre_get {ρ ρ' : List Addr} (p : ρ <+: ρ') {n : Nat} {a : Addr} (h : ρ[n]? = some a) : ρ'[n]? = some a := by
  obtain ⟨t, rfl⟩ := p
  rw [List.getElem?_append_left (List.getElem?_eq_some_iff.mp h).1]
  exact h
theorem KTup.mono {k' : NestedKey} {b : Addr} (k : Kp S0 W H W' H') (h : KTup W H k' b) : KTup W' H' k' b := let ⟨us, ks, e, n, q, z⟩ := h; ⟨us, ks, k.keep _ _ n e, k.wn _ _ n e, q, z⟩
mutual
theorem Rep.mono (k : Kp S0 W H W' H') (p : ρ <+: ρ') : ∀ {v : V} {d : D}, Rep G W ρ H v d → Rep G W' ρ' H' v d
  | _, _, .non => .non
  | _, _, .bl => .bl
  | _, _, .int => .int
  | _, _, .str => .str
  | _, _, .tup h n r => .tup (k.keep _ _ n h) (k.wn _ _ n h) (Reps.mono k p r)
  | _, _, .tupK h z r => .tupK h z (Reps.mono k p r)
  | _, _, .lst h n r => .lst (k.keep _ _ n h) (k.wn _ _ n h) (Reps.mono k p r)
  | _, _, .lck h n r => .lck (rd_keep k.keep n h) (let ⟨o, e⟩ := rd_some h; k.wn _ o n e) (Reps.mono k p r)
  | _, _, .lckK h r => .lckK h (Reps.mono k p r)
  | _, _, .dic h n e r => .dic (rd_keep k.keep n h) (let ⟨o, e⟩ := rd_some h; k.wn _ o n e) e (Reps.mono k p r)
  | _, _, .dit h n e r => .dit (k.keep _ _ n h) (k.wn _ _ n h) e (Reps.mono k p r)
  | _, _, .din h n q e r => .din (k.keep _ _ n h) (k.wn _ _ n h) (fun x hx => (q x hx).mono k) e (Reps.mono k p r)
  | _, _, .obj h n e r => .obj (k.keep _ _ n h) (k.wn _ _ n h) e (Reps.mono k p r)
  | _, _, .ptr h => .ptr (pre_get p h)
theorem Reps.mono (k : Kp S0 W H W' H') (p : ρ <+: ρ') : ∀ {vs : List V} {ds : List D}, Reps G W ρ H vs ds → Reps G W' ρ' H' vs ds
  | _, _, .nil => .nil
  | _, _, .cons h r => .cons (Rep.mono k p h) (Reps.mono k p r)
end
theorem Reps.length : ∀ {vs : List V} {ds : List D}, Reps G W ρ H vs ds → vs.length = ds.length
  | _, _, .nil => rfl
  | _, _, .cons _ r => congrArg (· + 1) (Reps.length r)
theorem Reps.get : ∀ {vs : List V} {ds : List D}, Reps G W ρ H vs ds → ∀ {i : Nat} {d : D}, ds[i]? = some d → ∃ v, vs[i]? = some v ∧ Rep G W ρ H v d
  | _, _, .nil, i, d, h => by simp at h
  | _, _, .cons (v := v) r _, 0, d, h => by simp at h; subst h; exact ⟨v, rfl, r⟩
  | _, _, .cons _ t, i + 1, d, h => by
    obtain ⟨v, e, r⟩ := Reps.get t (i := i) (d := d) (by simpa using h)
    exact ⟨v, by simpa using e, r⟩
theorem Reps.getV : ∀ {vs : List V} {ds : List D}, Reps G W ρ H vs ds → ∀ {i : Nat} {v : V}, vs[i]? = some v → ∃ d, ds[i]? = some d ∧ Rep G W ρ H v d
  | _, _, .nil, i, d, h => by simp at h
  | _, _, .cons (d := d) r _, 0, v, h => by simp at h; subst h; exact ⟨d, rfl, r⟩
  | _, _, .cons _ t, i + 1, v, h => by
    obtain ⟨d, e, r⟩ := Reps.getV t (i := i) (v := v) (by simpa using h)
    exact ⟨d, by simpa using e, r⟩
theorem Reps.append : ∀ {vs us : List V} {ds es : List D}, Reps G W ρ H vs ds → Reps G W ρ H us es → Reps G W ρ H (vs ++ us) (ds ++ es)
  | _, _, _, _, .nil, q => q
  | _, _, _, _, .cons r t, q => .cons r (Reps.append t q)
theorem Reps.take : ∀ (n : Nat) {vs : List V} {ds : List D}, Reps G W ρ H vs ds → Reps G W ρ H (vs.take n) (ds.take n)
  | 0, _, _, _ => .nil
  | _ + 1, _, _, .nil => .nil
  | n + 1, _, _, .cons r t => .cons r (Reps.take n t)
theorem Reps.drop : ∀ (n : Nat) {vs : List V} {ds : List D}, Reps G W ρ H vs ds → Reps G W ρ H (vs.drop n) (ds.drop n)
  | 0, _, _, r => r
  | _ + 1, _, _, .nil => .nil
  | n + 1, _, _, .cons _ t => Reps.drop n t
theorem Reps.set {v : V} {d : D} (h : Rep G W ρ H v d) : ∀ (i : Nat) {vs : List V} {ds : List D}, Reps G W ρ H vs ds → Reps G W ρ H (vs.set i v) (ds.set i d)
  | _, _, _, .nil => .nil
  | 0, _, _, .cons _ t => .cons h t
  | i + 1, _, _, .cons q t => .cons q (Reps.set h i t)
theorem Reps.erase : ∀ (i : Nat) {vs : List V} {ds : List D}, Reps G W ρ H vs ds → Reps G W ρ H (vs.eraseIdx i) (ds.eraseIdx i)
  | _, _, _, .nil => .nil
  | 0, _, _, .cons _ t => t
  | i + 1, _, _, .cons q t => .cons q (Reps.erase i t)
theorem Reps.rev : ∀ {vs : List V} {ds : List D}, Reps G W ρ H vs ds → Reps G W ρ H vs.reverse ds.reverse
  | _, _, .nil => .nil
  | _, _, .cons r t => by simpa using (Reps.rev t).append (.cons r .nil)
theorem Reps.replicate {v : V} {d : D} (h : Rep G W ρ H v d) : ∀ n, Reps G W ρ H (List.replicate n v) (List.replicate n d)
  | 0 => .nil
  | n + 1 => .cons h (Reps.replicate h n)
end

/-- a thing that changes -/
inductive ORep (G : Gc) (W : Addr → Prop) (ρ : List Addr) (H : Hp) (a : Addr) : D → Prop
  | lst {vs : List V} {ds : List D} : H a = some (.lst vs) → Reps G W ρ H vs ds → ORep G W ρ H a (.lst ds)
  | dic {vs : List (Key × V)} {ds : List (Key × D)} : H a = some (.dK vs) → vs.map (·.1) = ds.map (·.1) → Reps G W ρ H (vs.map (·.2)) (ds.map (·.2)) → ORep G W ρ H a (.dic ds)
  | dit {vs : List (List Key × V)} {ds : List (List Key × D)} : H a = some (.dT vs) → vs.map (·.1) = ds.map (·.1) → Reps G W ρ H (vs.map (·.2)) (ds.map (·.2)) → ORep G W ρ H a (.dit ds)
  | din {vs : List (NestedKey × Addr × V)} {ds : List (NestedKey × D)} : H a = some (dnO G.w a vs) → (∀ x ∈ vs, KTup W H x.1 x.2.1) → vs.map (·.1) = ds.map (·.1) → Reps G W ρ H (vs.map (·.2.2)) (ds.map (·.2)) → ORep G W ρ H a (.din ds)
  | obj {dx : Addr} {c : Nat} {vs : List (Str × V)} {ds : List (Str × D)} : H a = some (.ins (G.ca c) dx vs) → vs.map (·.1) = ds.map (·.1) → Reps G W ρ H (vs.map (·.2)) (ds.map (·.2)) → ORep G W ρ H a (.obj c ds)

section
variable {G : Gc} {S0 W W' W2 : Addr → Prop} {ρ ρ' : List Addr} {H H' H2 : Hp} {a : Addr} {d : D}
theorem ORep.some (h : ORep G W ρ H a d) : ∃ o, H a = some o := by
  cases h with
  | din h _ _ _ => exact ⟨_, h⟩
  | lst h _ => exact ⟨_, h⟩
  | dic h _ _ => exact ⟨_, h⟩
  | dit h _ _ => exact ⟨_, h⟩
  | obj h _ _ => exact ⟨_, h⟩
/-- no tuple -/
def noT (o : HO) : Prop := ∀ xs, o ≠ .tup xs
theorem orep_someT (h : ORep G W ρ H a d) : ∃ o, H a = some o ∧ noT o := by
  cases h with
  | din h _ _ _ => exact ⟨_, h, fun _ z => nomatch z⟩
  | lst h _ => exact ⟨_, h, fun _ z => nomatch z⟩
  | dic h _ _ => exact ⟨_, h, fun _ z => nomatch z⟩
  | dit h _ _ => exact ⟨_, h, fun _ z => nomatch z⟩
  | obj h _ _ => exact ⟨_, h, fun _ z => nomatch z⟩
theorem orep_not {o : HO} (h : ORep G W ρ (upd H a o) a d) : noT o := by
  obtain ⟨u, q, z⟩ := orep_someT h
  rw [upd_same] at q; cases q; exact z
theorem ORep.mono (k : Kp S0 W H W' H') (p : ρ <+: ρ') (e : H' a = H a) (h : ORep G W ρ H a d) : ORep G W' ρ' H' a d := by
  cases h with
  | lst h r => exact .lst (e.trans h) (r.mono k p)
  | dic h q r => exact .dic (e.trans h) q (r.mono k p)
  | dit h q r => exact .dit (e.trans h) q (r.mono k p)
  | din h z q r => exact .din (e.trans h) (fun x hx => (z x hx).mono k) q (r.mono k p)
  | obj h q r => exact .obj (e.trans h) q (r.mono k p)
theorem ORep.rep (h : ORep G W ρ H a d) (n : ¬ W a) : Rep G W ρ H (.ref a) d := by
  cases h with
  | lst h r => exact .lst h n r
  | dic h q r => exact .dic (.inl h) n q r
  | dit h q r => exact .dit h n q r
  | din h z q r => exact .din h n z q r
  | obj h q r => exact .obj h n q r
end

/-- what only its holder may change: the callers' things, the store's, the frame's own -/
def Wa (S0 : Addr → Prop) (ρ : List Addr) (e : List Slot) (σ : L2.St) (a : Addr) : Prop :=
  S0 a ∨ a ∈ ρ ∨ ∃ (i : Nat) (d : D), e[i]? = some (.own d) ∧ σ[i]? = some (some (.ref a))

structure Sat (G : Gc) (S0 : Addr → Prop) (ρ : List Addr) (s : S) (σ : L2.St) (H : Hp) : Prop where
  len : s.e.length = σ.length
  val : ∀ (i : Nat) (d : D), s.e[i]? = some (.val d) → ∃ v, σ[i]? = some (some v) ∧ Rep G (Wa S0 ρ s.e σ) ρ H v d
  own : ∀ (i : Nat) (d : D), s.e[i]? = some (.own d) → ∃ a, σ[i]? = some (some (.ref a)) ∧ ORep G (Wa S0 ρ s.e σ) ρ H a d ∧ a ∉ ρ ∧ ¬ S0 a
  inj : ∀ (i j : Nat) (a : Addr) (d d' : D), s.e[i]? = some (.own d) → s.e[j]? = some (.own d') → σ[i]? = some (some (.ref a)) → σ[j]? = some (some (.ref a)) → i = j
  -- ', s.e[i]? = some (.own d) → s.e[j]? = some (.own d') → σ[i]? = some (some (.ref a)) → σ[j]? = some (some (.ref a)) → i = j
  rlen : ρ.length = s.t.length
  sto : ∀ (n : Nat) (a : Addr) (d : D), ρ[n]? = some a → s.t[n]? = some d → ORep G (Wa S0 ρ s.e σ) ρ H a d
  nd : ρ.Nodup
  rs : ∀ a, a ∈ ρ → ¬ S0 a
  s0 : ∀ a, S0 a → ∃ o, H a = some o ∧ noT o

section
variable {G : Gc} {S0 W W' W2 : Addr → Prop} {ρ ρ' : List Addr} {s s' : S} {σ σ' : L2.St} {H H' H2 : Hp} {a : Addr} {d : D} {v : V}
theorem Sat.thereT (h : Sat G S0 ρ s σ H) (w : Wa S0 ρ s.e σ a) : ∃ o, H a = some o ∧ noT o := by
  rcases w with w | w | ⟨i, d, e1, e2⟩
  · exact h.s0 a w
  · obtain ⟨n, hn⟩ := List.mem_iff_getElem?.mp w
    have hl : n < s.t.length := by rw [← h.rlen]; exact (List.getElem?_eq_some_iff.mp hn).1
    exact orep_someT (h.sto n a _ hn (List.getElem?_eq_getElem hl))
  · obtain ⟨b, e3, r, _⟩ := h.own i d e1
    rw [e2] at e3; cases e3
    exact orep_someT r
theorem Sat.there (h : Sat G S0 ρ s σ H) (w : Wa S0 ρ s.e σ a) : ∃ o, H a = some o := let ⟨o, q, _⟩ := h.thereT w; ⟨o, q⟩
theorem Sat.free (h : Sat G S0 ρ s σ H) (n : H a = none) : ¬ Wa S0 ρ s.e σ a := fun w => by
  obtain ⟨o, e⟩ := h.there w
  rw [n] at e; cases e
/-- nothing that W knows has changed, all else stands -/
theorem Sat.grow (h : Sat G S0 ρ s σ H) (k : ∀ b o, H b = some o → H' b = some o) : Sat G S0 ρ s σ H' ∧ Kp S0 (Wa S0 ρ s.e σ) H (Wa S0 ρ s.e σ) H' := by
  have kp : Kp S0 (Wa S0 ρ s.e σ) H (Wa S0 ρ s.e σ) H' := ⟨fun b o _ e => k b o e, fun _ _ n _ => n, fun b o _ e => k b o e⟩
  refine ⟨⟨h.len, fun i d e => ?_, fun i d e => ?_, h.inj, h.rlen, fun n a d e1 e2 => ?_, h.nd, h.rs, fun a w => ?_⟩, kp⟩
  · obtain ⟨v, e1, r⟩ := h.val i d e
    exact ⟨v, e1, r.mono kp (List.prefix_refl _)⟩
  · obtain ⟨a, e1, r, n⟩ := h.own i d e
    obtain ⟨o, q⟩ := r.some
    exact ⟨a, e1, r.mono kp (List.prefix_refl _) ((k a o q).trans q.symm), n⟩
  · have r := h.sto n a d e1 e2
    obtain ⟨o, q⟩ := r.some
    exact r.mono kp (List.prefix_refl _) ((k a o q).trans q.symm)
  · obtain ⟨o, q, z⟩ := h.s0 a w
    exact ⟨o, k a o q, z⟩
end

/-- results' relations -/
abbrev RelT (β α : Type) := (Addr → Prop) → List Addr → Hp → L2.St → β → α → Prop
def LRep (G : Gc) : RelT V Loc := fun W ρ H σ v l => match l with
  | .val d => Rep G W ρ H v d
  | .own i => σ[i]? = some (some v)
def DRep (G : Gc) : RelT V D := fun W ρ H _ v d => Rep G W ρ H v d
def DReps (G : Gc) : RelT (List V) (List D) := fun W ρ H _ v d => Reps G W ρ H v d
def BRel : RelT Bool Bool := fun _ _ _ _ a b => a = b
def Stab {β α : Type} (R : RelT β α) : Prop := ∀ {S0 W W' : Addr → Prop} {ρ ρ' : List Addr} {H H' : Hp} {σ : L2.St} {b : β} {a : α}, R W ρ H σ b a → Kp S0 W H W' H' → ρ <+: ρ' → R W' ρ' H' σ b a
theorem stab_L {G : Gc} : Stab (LRep G) := fun {_ _ _ _ _ _ _ _ _ a} r k p => by
  cases a with
  | val d => exact Rep.mono k p r
  | own i => exact r
theorem stab_D {G : Gc} : Stab (DRep G) := fun r k p => Rep.mono k p r
theorem stab_Ds {G : Gc} : Stab (DReps G) := fun r k p => Reps.mono k p r
theorem stab_B : Stab BRel := fun r _ _ => r

/-- an exception: its class, its own dict -/
def XRep (G : Gc) (W : Addr → Prop) (ρ : List Addr) (H : Hp) (c : Value) (dx : Option Addr) (x : Xn) : Prop :=
  c = .ref (G.ca x.c) ∧ ∀ fs, x.pay = some fs → ∃ a vs, dx = some a ∧ H a = some (.xd vs) ∧ ¬ W a ∧ vs.map (·.1) = fs.map (·.1) ∧ Reps G W ρ H (vs.map (·.2)) (fs.map (·.2))

structure Nx (S0 : Addr → Prop) (ρ : List Addr) (e : List Slot) (σ : L2.St) (H : Hp) (ρ' : List Addr) (e' : List Slot) (σ' : L2.St) (H' : Hp) : Prop where
  k : Kp S0 (Wa S0 ρ e σ) H (Wa S0 ρ' e' σ') H'
  p : ρ <+: ρ'
theorem Nx.refl {S0 : Addr → Prop} {ρ : List Addr} {e : List Slot} {σ : L2.St} {H : Hp} : Nx S0 ρ e σ H ρ e σ H := ⟨.refl, List.prefix_refl _⟩
theorem Nx.trans {S0 : Addr → Prop} {ρ ρ1 ρ2 : List Addr} {e e1 e2 : List Slot} {σ σ1 σ2 : L2.St} {H H1 H2 : Hp} (a : Nx S0 ρ e σ H ρ1 e1 σ1 H1) (b : Nx S0 ρ1 e1 σ1 H1 ρ2 e2 σ2 H2) : Nx S0 ρ e σ H ρ2 e2 σ2 H2 :=
  ⟨a.k.trans b.k, a.p.trans b.p⟩

def Post {β α : Type} (G : Gc) (X : WX) (R : RelT β α) (S0 : Addr → Prop) (ρ : List Addr) (s : S) (σ : L2.St) (H : Hp) (r : Res α) (Q : β → Hp → Prop) : Prop := match r with
  | .ok a s' => ∀ b H' ρ', Sat G S0 ρ' s' σ H' → Nx S0 ρ s.e σ H ρ' s'.e σ H' → R (Wa S0 ρ' s'.e σ) ρ' H' σ b a → Q b H'
  | .exc x s' => ∀ c dx H' ρ', Sat G S0 ρ' s' σ H' → Nx S0 ρ s.e σ H ρ' s'.e σ H' → XRep G (Wa S0 ρ' s'.e σ) ρ' H' c dx x → X c dx σ H'
  | .stuck => False
/-- the reading t computes m -/
def Ev {β α : Type} (G : Gc) (X : WX) (R : RelT β α) (t : L2.St → Hp → (β → Hp → Prop) → Prop) (m : M α) : Prop :=
  ∀ S0 ρ s σ H Q, Sat G S0 ρ s σ H → Post G X R S0 ρ s σ H (m s) Q → t σ H Q

section
variable {G : Gc} {X : WX} {S0 : Addr → Prop} {ρ ρ1 : List Addr} {s s1 : S} {σ : L2.St} {H H1 : Hp}
theorem Post.from {β α : Type} {R : RelT β α} {r : Res α} {Q : β → Hp → Prop} (h : Post G X R S0 ρ s σ H r Q) (n : Nx S0 ρ s.e σ H ρ1 s1.e σ H1) : Post G X R S0 ρ1 s1 σ H1 r Q := by
  cases r with
  | ok a s' => exact fun b H' ρ' t n' q => h b H' ρ' t (n.trans n') q
  | exc x s' => exact fun c dx H' ρ' t n' q => h c dx H' ρ' t (n.trans n') q
  | stuck => exact h
theorem post_bind {β α β2 α2 : Type} {R1 : RelT β α} {R2 : RelT β2 α2} {m : Res α} {f : α → M α2} {Q1 : β → Hp → Prop} {Q2 : β2 → Hp → Prop} (hp : Post G X R2 S0 ρ s σ H (m.bind f) Q2)
    (k : ∀ a s1, m = .ok a s1 → ∀ b H1 ρ1, Sat G S0 ρ1 s1 σ H1 → Nx S0 ρ s.e σ H ρ1 s1.e σ H1 → R1 (Wa S0 ρ1 s1.e σ) ρ1 H1 σ b a → Post G X R2 S0 ρ1 s1 σ H1 (f a s1) Q2 → Q1 b H1) : Post G X R1 S0 ρ s σ H m Q1 := by
  cases m with
  | ok a s1 => exact fun b H1 ρ1 t n q => k a s1 rfl b H1 ρ1 t n q (Post.from hp n)
  | exc x s1 => exact hp
  | stuck => exact hp
theorem Post.ret {β α : Type} {R : RelT β α} {a : α} {b : β} {Q : β → Hp → Prop} (h : Post G X R S0 ρ s σ H (.ok a s) Q) (t : Sat G S0 ρ s σ H) (r : R (Wa S0 ρ s.e σ) ρ H σ b a) : Q b H := h b H ρ t .refl r
end

/-! ### places and values -/
/-- what a place holds now -/
def cont : Loc → M D
  | .val (.ptr n), s => match s.t[n]? with | some d => .ok d s | none => .stuck
  | .val d, s => .ok d s
  | .own i, s => match s.e[i]? with | some (.own d) => .ok d s | _ => .stuck
/-- a place given away: what a slot held alone is frozen -/
def toVal : Loc → M D
  | .val d, s => .ok d s
  | .own i, s => match s.e[i]? with | some (.own d) => .ok d ⟨s.e.set i (.val d), s.t⟩ | some (.val d) => .ok d s | _ => .stuck
section
variable {G : Gc} {X : WX} {S0 : Addr → Prop} {ρ ρ1 : List Addr} {s s1 : S} {σ : L2.St} {H H1 : Hp} {i : Nat} {d : D}
theorem getset {α : Type} {l : List α} {i j : Nat} {x y : α} (h : (l.set i x)[j]? = some y) : (j = i ∧ x = y) ∨ (j ≠ i ∧ l[j]? = some y) := by
  by_cases e : j = i
  · subst e
    have hl : j < l.length := by have := (List.getElem?_eq_some_iff.mp h).1; simpa using this
    rw [List.getElem?_set_self hl] at h
    exact .inl ⟨rfl, Option.some.inj h⟩
  · rw [List.getElem?_set_ne (Ne.symm e)] at h
    exact .inr ⟨e, h⟩
/-- a slot's own thing frozen -/
theorem Sat.freeze (t : Sat G S0 ρ s σ H) (h : s.e[i]? = some (.own d)) : Sat G S0 ρ ⟨s.e.set i (.val d), s.t⟩ σ H ∧ Nx S0 ρ s.e σ H ρ (s.e.set i (.val d)) σ H := by
  have sub : ∀ a, Wa S0 ρ (s.e.set i (.val d)) σ a → Wa S0 ρ s.e σ a := fun a w => by
    rcases w with w | w | ⟨j, d', e1, e2⟩
    · exact .inl w
    · exact .inr (.inl w)
    · rcases getset e1 with ⟨rfl, z⟩ | ⟨_, e1⟩
      · cases z
      · exact .inr (.inr ⟨j, d', e1, e2⟩)
  have kp : Kp S0 (Wa S0 ρ s.e σ) H (Wa S0 ρ (s.e.set i (.val d)) σ) H := ⟨fun _ _ _ e => e, fun b _ n _ w => n (sub b w), fun _ _ _ e => e⟩
  refine ⟨⟨by simpa using t.len, fun j d' e => ?_, fun j d' e => ?_, fun j k a d1 d2 e1 e2 e3 e4 => ?_, t.rlen, fun n a d' e1 e2 => ?_, t.nd, t.rs, t.s0⟩, kp, List.prefix_refl _⟩
  · rcases getset e with ⟨rfl, z⟩ | ⟨_, e⟩
    · cases z
      obtain ⟨a, e1, r, n1, n2⟩ := t.own j d h
      refine ⟨_, e1, (r.mono kp (List.prefix_refl _) rfl).rep fun w => ?_⟩
      rcases w with w | w | ⟨k, d2, e3, e4⟩
      · exact n2 w
      · exact n1 w
      · rcases getset e3 with ⟨_, z⟩ | ⟨ne, e3⟩
        · cases z
        · exact ne (t.inj k j a _ _ e3 h e4 e1)
    · obtain ⟨v, e1, r⟩ := t.val j d' e
      exact ⟨v, e1, r.mono kp (List.prefix_refl _)⟩
  · rcases getset e with ⟨rfl, z⟩ | ⟨_, e⟩
    · cases z
    · obtain ⟨a, e1, r, n⟩ := t.own j d' e
      exact ⟨a, e1, r.mono kp (List.prefix_refl _) rfl, n⟩
  · rcases getset e1 with ⟨rfl, z⟩ | ⟨_, e1⟩
    · cases z
    · rcases getset e2 with ⟨rfl, z⟩ | ⟨_, e2⟩
      · cases z
      · exact t.inj j k a d1 d2 e1 e2 e3 e4
  · exact (t.sto n a d' e1 e2).mono kp (List.prefix_refl _) rfl
/-- giving a place away -/
theorem post_toVal {β α : Type} {R : RelT β α} {l : Loc} {f : D → M α} {v : V} {Q2 : β → Hp → Prop} {P : Prop} (t : Sat G S0 ρ s σ H) (r : LRep G (Wa S0 ρ s.e σ) ρ H σ v l) (hp : Post G X R S0 ρ s σ H ((toVal l s).bind f) Q2)
    (k : ∀ d s1, Sat G S0 ρ s1 σ H → Nx S0 ρ s.e σ H ρ s1.e σ H → Rep G (Wa S0 ρ s1.e σ) ρ H v d → Post G X R S0 ρ s1 σ H (f d s1) Q2 → P) : P := by
  cases l with
  | val d => exact k d s t .refl r hp
  | own i =>
    have r' : σ[i]? = some (some v) := r
    unfold toVal at hp
    cases e : s.e[i]? with
    | none => simp only [e] at hp; exact hp.elim
    | some sl =>
      cases sl with
      | no => simp only [e] at hp; exact hp.elim
      | val d =>
        simp only [e] at hp
        obtain ⟨v', e1, q⟩ := t.val i d e
        rw [r'] at e1; cases e1
        exact k d s t .refl q hp
      | own d =>
        simp only [e] at hp
        obtain ⟨t1, n1⟩ := t.freeze e
        obtain ⟨v', e1, q⟩ := t1.val i d (by
          have hl : i < s.e.length := (List.getElem?_eq_some_iff.mp e).1
          exact List.getElem?_set_self hl)
        rw [r'] at e1; cases e1
        exact k d _ t1 n1 q (hp.from n1)
/-- what stands at a place: the value itself, or a thing in the store or of a slot -/
theorem post_cont {β α : Type} {R : RelT β α} {l : Loc} {f : D → M α} {v : V} {Q2 : β → Hp → Prop} {P : Prop} (t : Sat G S0 ρ s σ H) (r : LRep G (Wa S0 ρ s.e σ) ρ H σ v l) (hp : Post G X R S0 ρ s σ H ((cont l s).bind f) Q2)
    (k : ∀ d, (Rep G (Wa S0 ρ s.e σ) ρ H v d ∨ ∃ a, v = .ref a ∧ ORep G (Wa S0 ρ s.e σ) ρ H a d) → Post G X R S0 ρ s σ H (f d s) Q2 → P) : P := by
  cases l with
  | val d =>
    cases d with
    | ptr n =>
      unfold cont at hp
      cases e : s.t[n]? with
      | none => simp only [e] at hp; exact hp.elim
      | some d =>
        simp only [e] at hp
        have r' : Rep G (Wa S0 ρ s.e σ) ρ H v (.ptr n) := r
        cases r' with
        | ptr h => exact k d (.inr ⟨_, rfl, t.sto n _ d h e⟩) hp
    | _ => exact k _ (.inl r) hp
  | own i =>
    have r' : σ[i]? = some (some v) := r
    unfold cont at hp
    cases e : s.e[i]? with
    | none => simp only [e] at hp; exact hp.elim
    | some sl =>
      cases sl with
      | no => simp only [e] at hp; exact hp.elim
      | val d => simp only [e] at hp; exact hp.elim
      | own d =>
        simp only [e] at hp
        obtain ⟨a, e1, q, _⟩ := t.own i d e
        rw [r'] at e1; cases e1
        exact k d (.inr ⟨a, rfl, q⟩) hp
end
end Mi

namespace Mi
open PySem L2

abbrev lim : Nat := 1000000
theorem lim_line {n : Nat} (h : n ≤ lim) : n ≤ sizeLine := by rw [sizeLine_eq]; show n ≤ 16777216; have : n ≤ 1000000 := h; omega
theorem lim_lt {n : Nat} (h : n < lim) : n < sizeLine := by rw [sizeLine_eq]; show n < 16777216; have : n < 1000000 := h; omega

/-- judgements: an expression, a test, arguments, with their readings and what they compute -/
structure JE (X : Cx) (ca : Nat → Addr) (W : WX) (e : Expr) (te : TE) (m : M Loc) : Prop where
  pe : PE X e te
  ev : Ev ⟨X.K, ca, X.w⟩ W (LRep ⟨X.K, ca, X.w⟩) te m
structure JT (X : Cx) (ca : Nat → Addr) (W : WX) (e : Expr) (tt : TT) (m : M Bool) : Prop where
  pt : PT X e tt
  ev : Ev ⟨X.K, ca, X.w⟩ W BRel tt m
structure JW (X : Cx) (ca : Nat → Addr) (W : WX) (e : Expr) (tt : TT) (m : M Bool) : Prop where
  pw : PW X e tt
  ev : Ev ⟨X.K, ca, X.w⟩ W BRel tt m
def LReps (G : Gc) : RelT (List V) (List Loc) := fun W ρ H σ vs ls => Paired (fun v l => LRep G W ρ H σ v l) vs ls
structure JA (X : Cx) (ca : Nat → Addr) (W : WX) (es : List Expr) (ta : TA) (m : M (List Loc)) : Prop where
  pa : PA X es ta
  ev : Ev ⟨X.K, ca, X.w⟩ W (LReps ⟨X.K, ca, X.w⟩) ta m
  len : ∀ s ls s', m s = .ok ls s' → ls.length = es.length

/-- what an operand is: data, or the present state of a mutable thing -/
def BR (G : Gc) (W : Addr → Prop) (ρ : List Addr) (H : Hp) (v : V) (d : D) : Prop := Rep G W ρ H v d ∨ ∃ a, v = .ref a ∧ ORep G W ρ H a d
section
variable {G : Gc} {W : Addr → Prop} {ρ : List Addr} {H : Hp} {v : V}
theorem br_non (h : BR G W ρ H v .non) : v = .non := by
  rcases h with h | ⟨a, _, h⟩ <;> cases h; rfl
theorem br_bl {b : Bool} (h : BR G W ρ H v (.bl b)) : v = .bl b := by
  rcases h with h | ⟨a, _, h⟩ <;> cases h; rfl
theorem br_int {b : Int} (h : BR G W ρ H v (.int b)) : v = .int b := by
  rcases h with h | ⟨a, _, h⟩ <;> cases h; rfl
theorem br_str {b : Str} (h : BR G W ρ H v (.str b)) : v = .str b := by
  rcases h with h | ⟨a, _, h⟩ <;> cases h; rfl
theorem br_lst {ds : List D} (h : BR G W ρ H v (.lst ds)) : ∃ a vs, v = .ref a ∧ H a = some (.lst vs) ∧ Reps G W ρ H vs ds := by
  rcases h with h | ⟨a, rfl, h⟩
  · cases h with | lst h _ r => exact ⟨_, _, rfl, h, r⟩
  · cases h with | lst h r => exact ⟨_, _, rfl, h, r⟩
theorem br_lck {ds : List D} (h : BR G W ρ H v (.lck ds)) : ∃ a vs, v = .ref a ∧ SqL G.K H a vs ∧ Reps G W ρ H vs ds := by
  rcases h with h | ⟨a, rfl, h⟩
  · cases h with
    | lck h _ r => exact ⟨_, _, rfl, .inl h, r⟩
    | lckK h r => exact ⟨_, _, rfl, .inr h, r⟩
  · cases h
theorem br_tup {ds : List D} (h : BR G W ρ H v (.tup ds)) : ∃ a vs, v = .ref a ∧ SqT G.K H a vs ∧ Reps G W ρ H vs ds ∧ Rep G W ρ H v (.tup ds) := by
  rcases h with h | ⟨a, rfl, h⟩
  · cases h with
    | tup h n r => exact ⟨_, _, rfl, .inl (.inl h), r, .tup h n r⟩
    | tupK h z r => exact ⟨_, _, rfl, .inr h, r, .tupK h z r⟩
  · cases h
theorem br_dic {ds : List (Key × D)} (h : BR G W ρ H v (.dic ds)) : ∃ a vs, v = .ref a ∧ Rd H a (.dK vs) ∧ vs.map (·.1) = ds.map (·.1) ∧ Reps G W ρ H (vs.map (·.2)) (ds.map (·.2)) := by
  rcases h with h | ⟨a, rfl, h⟩
  · cases h with | dic h _ e r => exact ⟨_, _, rfl, h, e, r⟩
  · cases h with | dic h e r => exact ⟨_, _, rfl, .inl h, e, r⟩
theorem br_dit {ds : List (List Key × D)} (h : BR G W ρ H v (.dit ds)) : ∃ a vs, v = .ref a ∧ H a = some (.dT vs) ∧ vs.map (·.1) = ds.map (·.1) ∧ Reps G W ρ H (vs.map (·.2)) (ds.map (·.2)) := by
  rcases h with h | ⟨a, rfl, h⟩
  · cases h with | dit h _ e r => exact ⟨_, _, rfl, h, e, r⟩
  · cases h with | dit h e r => exact ⟨_, _, rfl, h, e, r⟩
theorem br_din {ds : List (NestedKey × D)} (h : BR G W ρ H v (.din ds)) : ∃ a vs, v = .ref a ∧ H a = some (dnO G.w a vs) ∧ (∀ x ∈ vs, KTup W H x.1 x.2.1) ∧ vs.map (·.1) = ds.map (·.1) ∧ Reps G W ρ H (vs.map (·.2.2)) (ds.map (·.2)) := by
  rcases h with h | ⟨a, rfl, h⟩
  · cases h with | din h _ z e r => exact ⟨_, _, rfl, h, z, e, r⟩
  · cases h with | din h z e r => exact ⟨_, _, rfl, h, z, e, r⟩
theorem br_obj {c : Nat} {ds : List (Str × D)} (h : BR G W ρ H v (.obj c ds)) : ∃ a dx vs, v = .ref a ∧ H a = some (.ins (G.ca c) dx vs) ∧ vs.map (·.1) = ds.map (·.1) ∧ Reps G W ρ H (vs.map (·.2)) (ds.map (·.2)) := by
  rcases h with h | ⟨a, rfl, h⟩
  · cases h with | obj h _ e r => exact ⟨_, _, _, rfl, h, e, r⟩
  · cases h with | obj h e r => exact ⟨_, _, _, rfl, h, e, r⟩
end

/-- what the rules ask of the addresses W: all are taken -/
def Tk (W : Addr → Prop) (H : Hp) : Prop := ∀ a, W a → ∃ o, H a = some o ∧ noT o
theorem Tk.tup {W : Addr → Prop} {H : Hp} {a : Addr} {xs : List V} (t : Tk W H) (h : H a = some (.tup xs)) : ¬ W a := fun w => by
  obtain ⟨o, e, z⟩ := t a w
  rw [h] at e; cases e; exact z _ rfl
def Ext (H H' : Hp) : Prop := ∀ b o, H b = some o → H' b = some o
theorem Ext.refl {H : Hp} : Ext H H := fun _ _ h => h
theorem Ext.new {H : Hp} {p : Addr} {o : HO} (h : H p = none) : Ext H (upd H p o) := fun b u e => by rw [upd_ne (ne_of_none e h)]; exact e
theorem Tk.no {W : Addr → Prop} {H : Hp} {p : Addr} (t : Tk W H) (h : H p = none) : ¬ W p := fun w => by
  obtain ⟨o, e, _⟩ := t p w
  rw [h] at e; cases e
theorem Ext.kp {S0 W : Addr → Prop} {H H' : Hp} (e : Ext H H') : Kp S0 W H W H' := ⟨fun b o _ h => e b o h, fun _ _ n _ => n, fun b o _ h => e b o h⟩
theorem Rep.ext {G : Gc} {W : Addr → Prop} {ρ : List Addr} {H H' : Hp} {v : V} {d : D} (h : Rep G W ρ H v d) (e : Ext H H') : Rep G W ρ H' v d := Rep.mono (S0 := fun _ => False) e.kp (List.prefix_refl _) h
theorem Reps.ext {G : Gc} {W : Addr → Prop} {ρ : List Addr} {H H' : Hp} {v : List V} {d : List D} (h : Reps G W ρ H v d) (e : Ext H H') : Reps G W ρ H' v d := Reps.mono (S0 := fun _ => False) e.kp (List.prefix_refl _) h
theorem Sat.tk {G : Gc} {S0 : Addr → Prop} {ρ : List Addr} {s : S} {σ : L2.St} {H : Hp} (t : Sat G S0 ρ s σ H) : Tk (Wa S0 ρ s.e σ) H := fun _ w => t.thereT w

/-- operations on values whose result is data -/
def Sp2 (G : Gc) (r : R2) (f : D → D → Option D) : Prop := ∀ (W : Addr → Prop) (ρ : List Addr) (H : Hp) (x y : V) (dx dy d : D) (Q : VK), Tk W H → BR G W ρ H x dx → BR G W ρ H y dy → f dx dy = some d →
  (∀ v H', Ext H H' → Rep G W ρ H' v d → Q v H') → r x y H Q
def Sp1 (G : Gc) (r : V → Hp → VK → Prop) (f : D → Option D) : Prop := ∀ (W : Addr → Prop) (ρ : List Addr) (H : Hp) (x : V) (dx d : D) (Q : VK), Tk W H → BR G W ρ H x dx → f dx = some d →
  (∀ v H', Ext H H' → Rep G W ρ H' v d → Q v H') → r x H Q
def BRs (G : Gc) (W : Addr → Prop) (ρ : List Addr) (H : Hp) (vs : List V) (ds : List D) : Prop := Paired (fun v d => BR G W ρ H v d) vs ds
def SpC (G : Gc) (r : List V → Hp → VK → Prop) (f : List D → Option D) : Prop := ∀ (W : Addr → Prop) (ρ : List Addr) (H : Hp) (xs : List V) (ds : List D) (d : D) (Q : VK), Tk W H → BRs G W ρ H xs ds → f ds = some d →
  (∀ v H', Ext H H' → Rep G W ρ H' v d → Q v H') → r xs H Q
def SpM (G : Gc) (r : V → List V → Hp → VK → Prop) (f : D → List D → Option D) : Prop := ∀ (W : Addr → Prop) (ρ : List Addr) (H : Hp) (x : V) (xs : List V) (dx : D) (ds : List D) (d : D) (Q : VK), Tk W H → BR G W ρ H x dx → BRs G W ρ H xs ds → f dx ds = some d →
  (∀ v H', Ext H H' → Rep G W ρ H' v d → Q v H') → r x xs H Q

def opt (o : Option D) : M Loc := fun s => match o with | some d => .ok (.val d) s | none => .stuck
def op2 (f : D → D → Option D) (ma mb : M Loc) : M Loc := bnd ma fun x => bnd mb fun y => bnd (cont x) fun dx => bnd (cont y) fun dy => opt (f dx dy)
def op1 (f : D → Option D) (ma : M Loc) : M Loc := bnd ma fun x => bnd (cont x) fun dx => opt (f dx)
def conts : List Loc → M (List D)
  | [] => ret []
  | l :: ls => bnd (cont l) fun d => bnd (conts ls) fun ds => ret (d :: ds)
def vals : List Loc → M (List D)
  | [] => ret []
  | l :: ls => bnd (toVal l) fun d => bnd (vals ls) fun ds => ret (d :: ds)
def opC (f : List D → Option D) (ma : M (List Loc)) : M Loc := bnd ma fun xs => bnd (conts xs) fun ds => opt (f ds)
def opM (f : D → List D → Option D) (mo : M Loc) (ma : M (List Loc)) : M Loc := bnd mo fun x => bnd ma fun xs => bnd (cont x) fun d => bnd (conts xs) fun ds => opt (f d ds)

section
variable {G : Gc} {X : WX} {S0 : Addr → Prop} {ρ ρ1 : List Addr} {s s1 : S} {σ : L2.St} {H H1 : Hp}
theorem post_opt {o : Option D} {Q : VK} {P : Prop} (t : Sat G S0 ρ s σ H) (hp : Post G X (LRep G) S0 ρ s σ H (opt o s) Q)
    (k : ∀ d, o = some d → (∀ v H', Ext H H' → Rep G (Wa S0 ρ s.e σ) ρ H' v d → Q v H') → P) : P := by
  cases o with
  | none => exact hp.elim
  | some d => exact k d rfl fun v H' e r => hp v H' ρ (t.grow e).1 ⟨(t.grow e).2, List.prefix_refl _⟩ r
theorem post_conts {β α : Type} {R : RelT β α} : ∀ {ls : List Loc} {vs : List V} {f : List D → M α} {Q2 : β → Hp → Prop} {P : Prop}, Sat G S0 ρ s σ H → LReps G (Wa S0 ρ s.e σ) ρ H σ vs ls → Post G X R S0 ρ s σ H ((conts ls s).bind f) Q2 →
    (∀ ds, BRs G (Wa S0 ρ s.e σ) ρ H vs ds → Post G X R S0 ρ s σ H (f ds s) Q2 → P) → P
  | [], _, f, Q2, P, t, .nil, hp, k => k [] .nil hp
  | l :: ls, v :: vs, f, Q2, P, t, .cons r rr, hp, k => by
    have hp' : Post G X R S0 ρ s σ H ((cont l s).bind fun d => fun s => (conts ls s).bind fun ds => f (d :: ds)) Q2 := by
      have hp : Post G X R S0 ρ s σ H (((cont l s).bind fun d => bnd (conts ls) fun ds => ret (d :: ds)).bind f) Q2 := hp
      cases e : cont l s with
      | ok d s1 =>
        rw [e] at hp
        show Post G X R S0 ρ s σ H ((conts ls s1).bind fun ds => f (d :: ds)) Q2
        have hp2 : Post G X R S0 ρ s σ H (((conts ls s1).bind fun ds => ret (d :: ds)).bind f) Q2 := hp
        cases e2 : conts ls s1 with
        | ok ds s2 => rw [e2] at hp2; exact hp2
        | exc x s2 => rw [e2] at hp2; exact hp2
        | stuck => rw [e2] at hp2; exact hp2
      | exc x s1 => rw [e] at hp; exact hp
      | stuck => rw [e] at hp; exact hp
    exact post_cont t r hp' fun d b hp2 => post_conts (f := fun ds => f (d :: ds)) t rr hp2 fun ds bs hp3 => k (d :: ds) (.cons b bs) hp3
theorem ev_op2 {r : R2} {f : D → D → Option D} {ta tb : TE} {ma mb : M Loc} (sp : Sp2 G r f) (ha : Ev G X (LRep G) ta ma) (hb : Ev G X (LRep G) tb mb) : Ev G X (LRep G) (tOp r ta tb) (op2 f ma mb) := by
  intro S0 ρ s σ H Q t hp
  refine ha _ _ _ _ _ _ t (post_bind hp fun x s1 _ v H1 ρ1 t1 n1 r1 hp1 => ?_)
  refine hb _ _ _ _ _ _ t1 (post_bind hp1 fun y s2 _ u H2 ρ2 t2 n2 r2 hp2 => ?_)
  have r1' := stab_L r1 n2.k n2.p
  refine post_cont t2 r1' hp2 fun dx bx hp3 => post_cont t2 r2 hp3 fun dy b2 hp4 => post_opt t2 hp4 fun d e q => ?_
  exact sp _ _ _ _ _ _ _ _ _ t2.tk bx b2 e q
theorem ev_op1 {r : V → Hp → VK → Prop} {f : D → Option D} {ta : TE} {ma : M Loc} (sp : Sp1 G r f) (ha : Ev G X (LRep G) ta ma) : Ev G X (LRep G) (tUn r ta) (op1 f ma) := by
  intro S0 ρ s σ H Q t hp
  refine ha _ _ _ _ _ _ t (post_bind hp fun x s1 _ v H1 ρ1 t1 n1 r1 hp1 => ?_)
  refine post_cont t1 r1 hp1 fun dx bx hp3 => post_opt t1 hp3 fun d e q => ?_
  exact sp _ _ _ _ _ _ _ t1.tk bx e q
theorem ev_opC {r : List V → Hp → VK → Prop} {f : List D → Option D} {ta : TA} {ma : M (List Loc)} (sp : SpC G r f) (ha : Ev G X (LReps G) ta ma) : Ev G X (LRep G) (tCB r ta) (opC f ma) := by
  intro S0 ρ s σ H Q t hp
  refine ha _ _ _ _ _ _ t (post_bind hp fun x s1 _ v H1 ρ1 t1 n1 r1 hp1 => ?_)
  refine post_conts t1 r1 hp1 fun dx bx hp3 => post_opt t1 hp3 fun d e q => ?_
  exact sp _ _ _ _ _ _ _ t1.tk bx e q
end

/-! ### names, constants -/
def vr (i : Nat) : M Loc := fun s => match s.e[i]? with | some (.val d) => .ok (.val d) s | some (.own _) => .ok (.own i) s | _ => .stuck
def kk (d : D) : M Loc := ret (.val d)
section
variable {X : Cx} {ca : Nat → Addr} {W : WX} {e a b c : Expr} {es : List Expr} {te ta tb tc : TE} {tA : TA} {m ma mb mc : M Loc} {mA : M (List Loc)} {pos p : Pos}
theorem ev_vr {G : Gc} {i : Nat} : Ev G W (LRep G) (tVar i) (vr i) := by
  intro S0 ρ s σ H Q t hp
  unfold vr at hp
  cases e : s.e[i]? with
  | none => simp only [e] at hp; exact hp.elim
  | some sl =>
    cases sl with
    | no => simp only [e] at hp; exact hp.elim
    | val d =>
      simp only [e] at hp
      obtain ⟨v, e1, r⟩ := t.val i d e
      exact ⟨v, e1, Post.ret hp t r⟩
    | own d =>
      simp only [e] at hp
      obtain ⟨a, e1, r⟩ := t.own i d e
      exact ⟨_, e1, Post.ret hp t e1⟩
theorem ev_c {G : Gc} {v : V} {d : D} (r : ∀ W ρ H, Rep G W ρ H v d) : Ev G W (LRep G) (tC v) (kk d) := fun S0 ρ s σ H Q t hp => Post.ret (R := LRep G) hp t (r _ _ _)
theorem je_var {i : Nat} {x : Str} (hN : X.N[i]? = some x) (hv : Vis X.env.scope x) (hd : (x == ("__debug__" : Str)) = false := by decide) (hcd : (x == ("__classdict__" : Str)) = false := by decide) :
    JE X ca W (.Name x pos) (tVar i) (vr i) := ⟨pe_var hN hv hd hcd, ev_vr⟩
theorem je_int {i : Int} {j} : JE X ca W (.Constant (.int i) j pos) (tC (.int i)) (kk (.int i)) := ⟨pe_int, ev_c fun _ _ _ => .int⟩
theorem je_bl {i : Bool} {j} : JE X ca W (.Constant (.bool i) j pos) (tC (.bl i)) (kk (.bl i)) := ⟨pe_bl, ev_c fun _ _ _ => .bl⟩
theorem je_non {j} : JE X ca W (.Constant .none j pos) (tC .non) (kk .non) := ⟨pe_non, ev_c fun _ _ _ => .non⟩
theorem je_str {i : Str} {j} : JE X ca W (.Constant (.str i) j pos) (tC (.str i)) (kk (.str i)) := ⟨pe_str, ev_c fun _ _ _ => .str⟩
/-- a constant of the module: an int, a text -/
theorem je_gint {x : Str} {i : Int} {t : Tok} (hg : Gl X x) (hm : X.mg x = some (.int i t)) (hd : (x == ("__debug__" : Str)) = false := by decide) : JE X ca W (.Name x pos) (tC (.int i)) (kk (.int i)) := ⟨pe_glob hg hm ⟨_, rfl⟩ hd, ev_c fun _ _ _ => .int⟩
theorem je_gstr {x : Str} {i : Str} {t : Tok} (hg : Gl X x) (hm : X.mg x = some (.str i t)) (hd : (x == ("__debug__" : Str)) = false := by decide) : JE X ca W (.Name x pos) (tC (.str i)) (kk (.str i)) := ⟨pe_glob hg hm ⟨_, rfl⟩ hd, ev_c fun _ _ _ => .str⟩

/-! ### arguments -/
def aNil : M (List Loc) := ret []
def aCons (m : M Loc) (ms : M (List Loc)) : M (List Loc) := bnd m fun x => bnd ms fun xs => ret (x :: xs)
theorem LReps.mono {G : Gc} {S0 W W' : Addr → Prop} {ρ ρ' : List Addr} {H H' : Hp} {σ : L2.St} {vs : List V} {ls : List Loc} (r : LReps G W ρ H σ vs ls) (k : Kp S0 W H W' H') (p : ρ <+: ρ') : LReps G W' ρ' H' σ vs ls := by
  induction r with
  | nil => exact .nil
  | cons r _ ih => exact .cons (stab_L r k p) ih
theorem ja_nil : JA X ca W [] tNil aNil := ⟨pa_nil, fun S0 ρ s σ H Q t hp => Post.ret (R := LReps ⟨X.K, ca, X.w⟩) hp t .nil, fun s ls s' h => by cases h; rfl⟩
theorem ja_cons (ha : JE X ca W e te m) (hr : JA X ca W es tA mA) (hs : starEach (e :: es) X.env = (false, eval e X.env) :: starEach es X.env := by rfl) : JA X ca W (e :: es) (tCons te tA) (aCons m mA) := by
  refine ⟨pa_cons ha.pe hr.pa hs, fun S0 ρ s σ H Q t hp => ?_, fun s ls s' h => ?_⟩
  · refine ha.ev _ _ _ _ _ _ t (post_bind hp fun x s1 _ v H1 ρ1 t1 n1 r1 hp1 => ?_)
    refine hr.ev _ _ _ _ _ _ t1 (post_bind hp1 fun y s2 _ u H2 ρ2 t2 n2 r2 hp2 => ?_)
    exact Post.ret (R := LReps ⟨X.K, ca, X.w⟩) hp2 t2 (.cons (stab_L r1 n2.k n2.p) r2)
  · have h : ((m s).bind fun x => bnd mA fun xs => ret (x :: xs)) = .ok ls s' := h
    cases e : m s with
    | ok x s1 =>
      rw [e] at h
      have h : ((mA s1).bind fun xs => ret (x :: xs)) = .ok ls s' := h
      cases e2 : mA s1 with
      | ok xs s2 =>
        rw [e2] at h
        cases h
        rw [List.length_cons, List.length_cons, hr.len _ _ _ e2]
      | exc x s2 => rw [e2] at h; cases h
      | stuck => rw [e2] at h; cases h
    | exc x s1 => rw [e] at h; cases h
    | stuck => rw [e] at h; cases h

/-! ### operators -/
theorem je_op {op : Operator} {r : R2} {f : D → D → Option D} (ho : OpR X (binaryOp op) r) (sp : Sp2 ⟨X.K, ca, X.w⟩ r f) (ha : JE X ca W a ta ma) (hb : JE X ca W b tb mb) : JE X ca W (.BinOp a op b pos) (tOp r ta tb) (op2 f ma mb) :=
  ⟨pe_op ho ha.pe hb.pe, ev_op2 sp ha.ev hb.ev⟩
theorem je_cmp {op : CmpOp} {r : R2} {f : D → D → Option D} (ho : OpR X (compareOp op) r) (sp : Sp2 ⟨X.K, ca, X.w⟩ r f) (ha : JE X ca W a ta ma) (hb : JE X ca W b tb mb) (hm : behindInMarks op b = false) : JE X ca W (.Compare a [op] [b] pos) (tOp r ta tb) (op2 f ma mb) :=
  ⟨pe_cmpR ho ha.pe hb.pe hm, ev_op2 sp ha.ev hb.ev⟩
theorem je_ix {r : R2} {f : D → D → Option D} (ho : IxR X r) (sp : Sp2 ⟨X.K, ca, X.w⟩ r f) (ha : JE X ca W a ta ma) (hb : JE X ca W b tb mb) (hs : PlainIx b := by exact fun _ _ => rfl) : JE X ca W (.Subscript a b pos) (tOp r ta tb) (op2 f ma mb) :=
  ⟨pe_ix ho ha.pe hb.pe hs, ev_op2 sp ha.ev hb.ev⟩
theorem je_un {op : UnaryOp} {r : V → Hp → VK → Prop} {f : D → Option D} (ho : UnR X (unaryOp op) r) (sp : Sp1 ⟨X.K, ca, X.w⟩ r f) (ha : JE X ca W a ta ma) : JE X ca W (.UnaryOp op a pos) (tUn r ta) (op1 f ma) :=
  ⟨pe_un ho ha.pe, ev_op1 sp ha.ev⟩
/-- a built-in function, a built-in class called -/
theorem je_callB {x : Str} {id : String} {r : List V → Hp → VK → Prop} {f : List D → Option D} (hc : CallR X (.builtin id) r) (sp : SpC ⟨X.K, ca, X.w⟩ r f) (hg : Gl X x) (hm : X.mg x = none) (hv : bootBuiltins x = some (.builtin id)) (ha : JA X ca W (e :: es) tA mA) (hn : x ≠ "__name__" := by decide) (hdb : (x == ("__debug__" : Str)) = false := by decide)
    (he : starEach (e :: es) X.env = (false, eval e X.env) :: starEach es X.env := by rfl) (hpl : (backTo pos (starEach es X.env)).any (·.1) = false := by rfl) : JE X ca W (.Call (.Name x p) (e :: es) [] pos) (tCB r tA) (opC f mA) :=
  ⟨pe_callB hc hg hm hv ha.pa hn hdb he hpl, ev_opC sp ha.ev⟩
theorem je_callTy {x : Str} {T : String} {r : List V → Hp → VK → Prop} {f : List D → Option D} (hc : CallR X (.type T) r) (sp : SpC ⟨X.K, ca, X.w⟩ r f) (hg : Gl X x) (hm : X.mg x = none) (hv : bootBuiltins x = some (.type T)) (ha : JA X ca W (e :: es) tA mA) (hn : x ≠ "__name__" := by decide) (hdb : (x == ("__debug__" : Str)) = false := by decide)
    (he : starEach (e :: es) X.env = (false, eval e X.env) :: starEach es X.env := by rfl) (hpl : (backTo pos (starEach es X.env)).any (·.1) = false := by rfl) : JE X ca W (.Call (.Name x p) (e :: es) [] pos) (tCB r tA) (opC f mA) :=
  ⟨pe_callTy hc hg hm hv ha.pa hn hdb he hpl, ev_opC sp ha.ev⟩

/-! ### tests -/
/-- a value's truth -/
def truD : D → Option Bool
  | .non => some false
  | .bl b => some b
  | .int i => some (i != 0)
  | .str x => if x.length ≤ lim then some ((x.length : Int) != 0) else none
  | .lst ds => some !ds.isEmpty
  | .tup ds => some !ds.isEmpty
  | _ => none
def tst (m : M Loc) : M Bool := bnd m fun x => bnd (cont x) fun d => fun s => match truD d with | some b => .ok b s | none => .stuck
theorem isEmpty_reps {G : Gc} {W : Addr → Prop} {ρ : List Addr} {H : Hp} {vs : List V} {ds : List D} (r : Reps G W ρ H vs ds) : (!vs.isEmpty) = !ds.isEmpty := by
  cases r <;> rfl
theorem tru_br {G : Gc} {W : Addr → Prop} {ρ : List Addr} {H : Hp} {v : V} {d : D} {b : Bool} (h : BR G W ρ H v d) (e : truD d = some b) : TruV G.K v H b := by
  cases d with
  | non => obtain rfl := br_non h; cases e; rfl
  | bl b => obtain rfl := br_bl h; cases e; rfl
  | int b => obtain rfl := br_int h; cases e; rfl
  | str x =>
    obtain rfl := br_str h
    by_cases hl : x.length ≤ lim
    · rw [show truD (.str x) = some ((x.length : Int) != 0) from if_pos hl] at e
      cases e
      exact ⟨lim_line hl, rfl⟩
    · rw [show truD (.str x) = none from if_neg hl] at e
      cases e
  | lst ds => obtain ⟨a, vs, rfl, hs, r⟩ := br_lst h; cases e; exact .inl ⟨vs, .inl (.inl hs), (isEmpty_reps r).symm⟩
  | tup ds => obtain ⟨a, vs, rfl, hs, r, _⟩ := br_tup h; cases e; exact .inr (.inl ⟨vs, hs, (isEmpty_reps r).symm⟩)
  | _ => cases e
theorem jt_val (ha : JE X ca W a ta ma) (he : ∀ whole, isTrue a X.env whole = (do let v ← whole; standAt a.pos; holding [v] (truthy v)) := by intro _; rfl) :
    JT X ca W a (fun σ H Q => ta σ H fun x H' => ∃ k, TruV X.K x H' k ∧ Q k H') (tst ma) := by
  refine ⟨pt_truth ha.pe he, fun S0 ρ s σ H Q t hp => ?_⟩
  refine ha.ev _ _ _ _ _ _ t (post_bind hp fun x s1 _ v H1 ρ1 t1 n1 r1 hp1 => ?_)
  refine post_cont t1 r1 hp1 fun d b hp2 => ?_
  cases e : truD d with
  | none => simp only [e] at hp2; exact hp2.elim
  | some k => simp only [e] at hp2; exact ⟨k, tru_br b e, Post.ret hp2 t1 rfl⟩
/-- a comparison as a test -/
def tstB (m : M Loc) : M Bool := bnd m fun x => fun s => match x with | .val (.bl b) => .ok b s | _ => .stuck
theorem ev_tstB {G : Gc} {tt : TE} {m : M Loc} (h : Ev G W (LRep G) tt m) : Ev G W BRel (tTest tt) (tstB m) := by
  intro S0 ρ s σ H Q t hp
  refine h _ _ _ _ _ _ t (post_bind hp fun x s1 _ v H1 ρ1 t1 n1 r1 hp1 => ?_)
  cases x with
  | own i => exact hp1.elim
  | val d =>
    cases d with
    | bl k =>
      have r' : Rep G (Wa S0 ρ1 s1.e σ) ρ1 H1 v (.bl k) := r1
      cases r'
      exact ⟨k, rfl, Post.ret hp1 t1 rfl⟩
    | _ => exact hp1.elim
theorem jt_cmp {op : CmpOp} {r : R2} {f : D → D → Option D} (ho : OpR X (compareOp op) r) (sp : Sp2 ⟨X.K, ca, X.w⟩ r f) (ha : JE X ca W a ta ma) (hb : JE X ca W b tb mb) (hm : behindInMarks op b = false) : JT X ca W (.Compare a [op] [b] pos) (tTest (tOp r ta tb)) (tstB (op2 f ma mb)) :=
  ⟨pt_cmpR ho ha.pe hb.pe hm, ev_tstB (ev_op2 sp ha.ev hb.ev)⟩
/-- a op1 b op2 c -/
def chn (f g : D → D → Option D) (ma mb mc : M Loc) : M Loc := bnd ma fun x => bnd mb fun y => bnd (cont x) fun dx => bnd (cont y) fun dy => fun s => match f dx dy with
  | some (.bl true) => op2 g (ret y) mc s
  | some (.bl false) => .ok (.val (.bl false)) s
  | _ => .stuck
theorem ev_chn {G : Gc} {r r' : R2} {f g : D → D → Option D} (sp : Sp2 G r f) (sp' : Sp2 G r' g) (ha : Ev G W (LRep G) ta ma) (hb : Ev G W (LRep G) tb mb) (hc : Ev G W (LRep G) tc mc) : Ev G W (LRep G) (tChain r r' ta tb tc) (chn f g ma mb mc) := by
  intro S0 ρ s σ H Q t hp
  refine ha _ _ _ _ _ _ t (post_bind hp fun x s1 _ v H1 ρ1 t1 n1 r1 hp1 => ?_)
  refine hb _ _ _ _ _ _ t1 (post_bind hp1 fun y s2 _ u H2 ρ2 t2 n2 r2 hp2 => ?_)
  have r1' := stab_L r1 n2.k n2.p
  refine post_cont t2 r1' hp2 fun dx bx hp3 => post_cont t2 r2 hp3 fun dy b2 hp4 => ?_
  cases e : f dx dy with
  | none => simp only [e] at hp4; exact hp4.elim
  | some d =>
    refine sp _ _ _ _ _ _ _ _ _ t2.tk bx b2 e fun z H3 x3 rz => ?_
    cases d with
    | bl k =>
      cases rz
      refine ⟨k, rfl, ?_⟩
      have t3 := (t2.grow x3).1
      have n3 : Nx S0 ρ2 s2.e σ H2 ρ2 s2.e σ H3 := ⟨(t2.grow x3).2, List.prefix_refl _⟩
      cases k with
      | true =>
        simp only [e] at hp4
        rw [if_pos rfl]
        have hp5 : Post G W (LRep G) S0 ρ2 s2 σ H3 ((mc s2).bind fun w => bnd (cont y) fun dx => bnd (cont w) fun dy => opt (g dx dy)) Q := hp4.from n3
        refine hc _ _ _ _ _ _ t3 (post_bind hp5 fun w s4 _ q H4 ρ4 t4 n4 r4 hp6 => ?_)
        refine post_cont t4 (stab_L (stab_L r2 n3.k n3.p) n4.k n4.p) hp6 fun dx' bx' hp7 => post_cont t4 r4 hp7 fun dy' by' hp8 => post_opt t4 hp8 fun d' e' q' => ?_
        exact sp' _ _ _ _ _ _ _ _ _ t4.tk bx' by' e' q'
      | false =>
        simp only [e] at hp4
        rw [if_neg Bool.false_ne_true]
        exact hp4 _ _ _ t3 n3 .bl
    | _ => simp only [e] at hp4; exact hp4.elim
theorem jt_chn {op op' : CmpOp} {r r' : R2} {f g : D → D → Option D} (ho : OpR X (compareOp op) r) (sp : Sp2 ⟨X.K, ca, X.w⟩ r f) (ho' : OpR X (compareOp op') r') (sp' : Sp2 ⟨X.K, ca, X.w⟩ r' g) (ha : JE X ca W a ta ma) (hb : JE X ca W b tb mb) (hc : JE X ca W c tc mc)
    (hm : lastMarks [op, op'] [b, c] = false := by with_unfolding_all rfl) : JT X ca W (.Compare a [op, op'] [b, c] pos) (tTest (tChain r r' ta tb tc)) (tstB (chn f g ma mb mc)) :=
  ⟨pt_chain ho ho' ha.pe hb.pe hc.pe hm, ev_tstB (ev_chn sp sp' ha.ev hb.ev hc.ev)⟩
theorem je_chn {op op' : CmpOp} {r r' : R2} {f g : D → D → Option D} (ho : OpR X (compareOp op) r) (sp : Sp2 ⟨X.K, ca, X.w⟩ r f) (ho' : OpR X (compareOp op') r') (sp' : Sp2 ⟨X.K, ca, X.w⟩ r' g) (ha : JE X ca W a ta ma) (hb : JE X ca W b tb mb) (hc : JE X ca W c tc mc)
    (hm : lastMarks [op, op'] [b, c] = false := by with_unfolding_all rfl) : JE X ca W (.Compare a [op, op'] [b, c] pos) (tChain r r' ta tb tc) (chn f g ma mb mc) :=
  ⟨pe_chain ho ho' ha.pe hb.pe hc.pe hm, ev_chn sp sp' ha.ev hb.ev hc.ev⟩
/-! and, or, not as tests -/
variable {tu tv : TT} {mu mv : M Bool} {rest : List Expr}
def mAnd (a b : M Bool) : M Bool := bnd a fun k => if k = true then b else ret false
def mOr (a b : M Bool) : M Bool := bnd a fun k => if k = true then ret true else b
def mNot (a : M Bool) : M Bool := bnd a fun k => ret (!k)
theorem jw_and1 (ha : JT X ca W a tu mu) : JW X ca W (.BoolOp .And [a] pos) tu mu := ⟨pw_and1 ha.pt, ha.ev⟩
theorem jw_or1 (ha : JT X ca W a tu mu) : JW X ca W (.BoolOp .Or [a] pos) tu mu := ⟨pw_or1 ha.pt, ha.ev⟩
theorem jw_and (ha : JT X ca W a tu mu) (hb : JW X ca W (.BoolOp .And (b :: rest) pos) tv mv) : JW X ca W (.BoolOp .And (a :: b :: rest) pos) (tAnd tu tv) (mAnd mu mv) := by
  refine ⟨pw_and ha.pt hb.pw, fun S0 ρ s σ H Q t hp => ?_⟩
  refine ha.ev _ _ _ _ _ _ t (post_bind hp fun x s1 _ v H1 ρ1 t1 n1 r1 hp1 => ?_)
  obtain rfl : x = v := Eq.symm r1
  cases x with
  | true => rw [if_pos rfl]; exact hb.ev _ _ _ _ _ _ t1 hp1
  | false => rw [if_neg Bool.false_ne_true]; exact Post.ret (R := BRel) hp1 t1 rfl
theorem jw_or (ha : JT X ca W a tu mu) (hb : JW X ca W (.BoolOp .Or (b :: rest) pos) tv mv) : JW X ca W (.BoolOp .Or (a :: b :: rest) pos) (tOr tu tv) (mOr mu mv) := by
  refine ⟨pw_or ha.pt hb.pw, fun S0 ρ s σ H Q t hp => ?_⟩
  refine ha.ev _ _ _ _ _ _ t (post_bind hp fun x s1 _ v H1 ρ1 t1 n1 r1 hp1 => ?_)
  obtain rfl : x = v := Eq.symm r1
  cases x with
  | false => rw [if_neg Bool.false_ne_true]; exact hb.ev _ _ _ _ _ _ t1 hp1
  | true => rw [if_pos rfl]; exact Post.ret (R := BRel) hp1 t1 rfl
theorem JW.jt (h : JW X ca W a tu mu) : JT X ca W a tu mu := ⟨h.pw.pt, h.ev⟩
theorem jt_not (ha : JT X ca W a tu mu) : JT X ca W (.UnaryOp .Not a pos) (tNot tu) (mNot mu) := by
  refine ⟨pt_not ha.pt, fun S0 ρ s σ H Q t hp => ?_⟩
  refine ha.ev _ _ _ _ _ _ t (post_bind hp fun x s1 _ v H1 ρ1 t1 n1 r1 hp1 => ?_)
  obtain rfl : x = v := Eq.symm r1
  exact Post.ret (R := BRel) hp1 t1 rfl
/-- .. as values -/
def eAnd (a b : M Loc) : M Loc := bnd a fun x => fun s => match x with | .val (.bl true) => b s | .val (.bl false) => .ok (.val (.bl false)) s | _ => .stuck
def eOr (a b : M Loc) : M Loc := bnd a fun x => fun s => match x with | .val (.bl false) => b s | .val (.bl true) => .ok (.val (.bl true)) s | _ => .stuck
def eNot (a : M Loc) : M Loc := bnd a fun x => fun s => match x with | .val (.bl k) => .ok (.val (.bl (!k))) s | _ => .stuck
theorem je_one {op} (h : JE X ca W a ta ma) : JE X ca W (.BoolOp op [a] pos) ta ma := ⟨pe_one h.pe, h.ev⟩
theorem je_and (ha : JE X ca W a ta ma) (hb : JE X ca W (.BoolOp .And (b :: rest) pos) tb mb) : JE X ca W (.BoolOp .And (a :: b :: rest) pos) (tAndV ta tb) (eAnd ma mb) := by
  refine ⟨pe_and ha.pe hb.pe, fun S0 ρ s σ H Q t hp => ?_⟩
  refine ha.ev _ _ _ _ _ _ t (post_bind hp fun x s1 _ v H1 ρ1 t1 n1 r1 hp1 => ?_)
  cases x with
  | own i => exact hp1.elim
  | val d =>
    cases d with
    | bl k =>
      have r' : Rep ⟨X.K, ca, X.w⟩ (Wa S0 ρ1 s1.e σ) ρ1 H1 v (.bl k) := r1
      cases r'
      refine ⟨k, rfl, ?_⟩
      cases k with
      | true => rw [if_pos rfl]; exact hb.ev _ _ _ _ _ _ t1 hp1
      | false => rw [if_neg Bool.false_ne_true]; exact Post.ret (R := LRep ⟨X.K, ca, X.w⟩) hp1 t1 .bl
    | _ => exact hp1.elim
theorem je_or (ha : JE X ca W a ta ma) (hb : JE X ca W (.BoolOp .Or (b :: rest) pos) tb mb) : JE X ca W (.BoolOp .Or (a :: b :: rest) pos) (tOrV ta tb) (eOr ma mb) := by
  refine ⟨pe_or ha.pe hb.pe, fun S0 ρ s σ H Q t hp => ?_⟩
  refine ha.ev _ _ _ _ _ _ t (post_bind hp fun x s1 _ v H1 ρ1 t1 n1 r1 hp1 => ?_)
  cases x with
  | own i => exact hp1.elim
  | val d =>
    cases d with
    | bl k =>
      have r' : Rep ⟨X.K, ca, X.w⟩ (Wa S0 ρ1 s1.e σ) ρ1 H1 v (.bl k) := r1
      cases r'
      refine ⟨k, rfl, ?_⟩
      cases k with
      | false => rw [if_neg Bool.false_ne_true]; exact hb.ev _ _ _ _ _ _ t1 hp1
      | true => rw [if_pos rfl]; exact Post.ret (R := LRep ⟨X.K, ca, X.w⟩) hp1 t1 .bl
    | _ => exact hp1.elim
theorem je_not (ha : JE X ca W a ta ma) : JE X ca W (.UnaryOp .Not a pos) (tNotV ta) (eNot ma) := by
  refine ⟨pe_not ha.pe, fun S0 ρ s σ H Q t hp => ?_⟩
  refine ha.ev _ _ _ _ _ _ t (post_bind hp fun x s1 _ v H1 ρ1 t1 n1 r1 hp1 => ?_)
  cases x with
  | own i => exact hp1.elim
  | val d =>
    cases d with
    | bl k =>
      have r' : Rep ⟨X.K, ca, X.w⟩ (Wa S0 ρ1 s1.e σ) ρ1 H1 v (.bl k) := r1
      cases r'
      exact ⟨k, rfl, Post.ret (R := LRep ⟨X.K, ca, X.w⟩) hp1 t1 .bl⟩
    | _ => exact hp1.elim
def eIf (c : M Bool) (a b : M Loc) : M Loc := bnd c fun k => if k = true then a else b
theorem je_if {cc : Expr} (hc : JT X ca W cc tu mu) (ha : JE X ca W a ta ma) (hb : JE X ca W b tb mb) : JE X ca W (.IfExp cc a b pos) (tIf tu ta tb) (eIf mu ma mb) := by
  refine ⟨pe_ifExp hc.pt ha.pe hb.pe, fun S0 ρ s σ H Q t hp => ?_⟩
  refine hc.ev _ _ _ _ _ _ t (post_bind hp fun x s1 _ v H1 ρ1 t1 n1 r1 hp1 => ?_)
  obtain rfl : x = v := Eq.symm r1
  cases x with
  | true => rw [if_pos rfl]; exact ha.ev _ _ _ _ _ _ t1 hp1
  | false => rw [if_neg Bool.false_ne_true]; exact hb.ev _ _ _ _ _ _ t1 hp1
end
end Mi

namespace Mi
open PySem L2

/-! ### numbers -/
def addD : D → D → Option D
  | .int i, .int j => some (.int (i + j))
  | .str x, .str y => if x.length + y.length ≤ lim then some (.str (x ++ y)) else none
  | .lst xs, .lst ys => if xs.length + ys.length ≤ lim then some (.lst (xs ++ ys)) else none
  | .tup xs, .tup ys => if xs.length + ys.length ≤ lim then some (.tup (xs ++ ys)) else none
  | _, _ => none
def subD : D → D → Option D
  | .int i, .int j => some (.int (i - j))
  | _, _ => none
def smallI (i : Int) : Bool := decide (-(2 ^ 64) < i) && decide (i < 2 ^ 64)
theorem smallI_of {i : Int} (h : smallI i = true) : -(2 ^ 64) < i ∧ i < 2 ^ 64 := by
  unfold smallI at h
  rw [Bool.and_eq_true] at h
  exact ⟨of_decide_eq_true h.1, of_decide_eq_true h.2⟩
def mulD : D → D → Option D
  | .int i, .int j => if smallI i || smallI j then some (.int (i * j)) else none
  | .lst xs, .int k => if 0 ≤ k ∧ k ≤ 1000 ∧ xs.length ≤ 1000 then some (.lst (List.replicate k.toNat xs).flatten) else none
  | _, _ => none
def modD : D → D → Option D
  | .int i, .int j => if 0 < j then some (.int (i % j)) else none
  | _, _ => none
def fdivD : D → D → Option D
  | .int i, .int j => if 0 < j ∧ j < 1073741824 then some (.int (i / j)) else none
  | _, _ => none
def powD : D → D → Option D
  | .int i, .int j => if 0 ≤ j ∧ j ≤ 1000 ∧ i.natAbs < 2 ^ 64 then some (.int (i ^ j.toNat)) else none
  | _, _ => none
def cmpD (p : Int → Int → Bool) : D → D → Option D
  | .int i, .int j => some (.bl (p i j))
  | _, _ => none
def addI : D → D → Option D
  | .int i, .int j => some (.int (i + j))
  | _, _ => none
def negD : D → Option D
  | .int i => some (.int (-i))
  | _ => none
section
variable {G : Gc} {X : Cx}
theorem sp_I0 {g : Int → Int → V} {f : D → D → Option D} (h : ∀ i j, ∃ d, f (.int i) (.int j) = some d ∧ ∀ W ρ H, Rep G W ρ H (g i j) d) (h2 : ∀ x y, (∃ d, f x y = some d) → ∃ i j, x = .int i ∧ y = .int j) : Sp2 G (rI0 g) f := by
  intro W ρ H x y dx dy d Q tk bx bby e q
  obtain ⟨i, j, rfl, rfl⟩ := h2 dx dy ⟨d, e⟩
  obtain rfl := br_int bx
  obtain rfl := br_int bby
  obtain ⟨d', e', r⟩ := h i j
  rw [e] at e'; cases e'
  exact ⟨i, j, rfl, rfl, q _ _ Ext.refl (r _ _ _)⟩
theorem sp_I {C : Int → Int → Prop} {g : Int → Int → V} {f : D → D → Option D} (h2 : ∀ x y d, f x y = some d → ∃ i j, x = .int i ∧ y = .int j ∧ C i j ∧ ∀ W ρ H, Rep G W ρ H (g i j) d) : Sp2 G (rI C g) f := by
  intro W ρ H x y dx dy d Q tk bx bby e q
  obtain ⟨i, j, rfl, rfl, c, r⟩ := h2 dx dy d e
  obtain rfl := br_int bx
  obtain rfl := br_int bby
  exact ⟨i, j, rfl, rfl, c, q _ _ Ext.refl (r _ _ _)⟩
theorem sp_sub : Sp2 G (rI0 fun i j => .int (i - j)) subD := sp_I0 (fun i j => ⟨_, rfl, fun _ _ _ => .int⟩) fun x y ⟨d, e⟩ => by
  cases x <;> cases y <;> first | exact ⟨_, _, rfl, rfl⟩ | cases e
theorem sp_addI : Sp2 G (rI0 fun i j => .int (i + j)) addI := sp_I0 (fun i j => ⟨_, rfl, fun _ _ _ => .int⟩) fun x y ⟨d, e⟩ => by
  cases x <;> cases y <;> first | exact ⟨_, _, rfl, rfl⟩ | cases e
theorem sp_cmp {p : Int → Int → Bool} : Sp2 G (rI0 fun i j => .bl (p i j)) (cmpD p) := sp_I0 (fun i j => ⟨_, rfl, fun _ _ _ => .bl⟩) fun x y ⟨d, e⟩ => by
  cases x <;> cases y <;> first | exact ⟨_, _, rfl, rfl⟩ | cases e
theorem sp_mod : Sp2 G (rI (fun _ j => 0 < j) fun i j => .int (i % j)) modD := sp_I fun x y d e => by
  cases x <;> cases y <;> first | (cases e; done) | skip
  rename_i i j
  by_cases h : 0 < j
  · rw [show modD (.int i) (.int j) = some (.int (i % j)) from if_pos h] at e
    cases e
    exact ⟨_, _, rfl, rfl, h, fun _ _ _ => .int⟩
  · rw [show modD (.int i) (.int j) = none from if_neg h] at e; cases e
theorem sp_fdiv : Sp2 G (rI CDiv fun i j => .int (i / j)) fdivD := sp_I fun x y d e => by
  cases x <;> cases y <;> first | (cases e; done) | skip
  rename_i i j
  by_cases h : 0 < j ∧ j < 1073741824
  · rw [show fdivD (.int i) (.int j) = some (.int (i / j)) from if_pos h] at e
    cases e
    exact ⟨_, _, rfl, rfl, h, fun _ _ _ => .int⟩
  · rw [show fdivD (.int i) (.int j) = none from if_neg h] at e; cases e
theorem sp_pow : Sp2 G (rI CPow fun i j => .int (i ^ j.toNat)) powD := sp_I fun x y d e => by
  cases x <;> cases y <;> first | (cases e; done) | skip
  rename_i i j
  by_cases h : 0 ≤ j ∧ j ≤ 1000 ∧ i.natAbs < 2 ^ 64
  · rw [show powD (.int i) (.int j) = some (.int (i ^ j.toNat)) from if_pos h] at e
    cases e
    exact ⟨_, _, rfl, rfl, ⟨h.1, by have := h.2.1; omega, h.2.2⟩, fun _ _ _ => .int⟩
  · rw [show powD (.int i) (.int j) = none from if_neg h] at e; cases e
theorem sp_neg : Sp1 G (rU fun i => .int (-i)) negD := by
  intro W ρ H x dx d Q tk bx e q
  cases dx <;> first | (cases e; done) | skip
  rename_i i
  cases e
  obtain rfl := br_int bx
  exact ⟨i, rfl, q _ _ Ext.refl .int⟩
/-- a new thing -/
theorem new_lst {W : Addr → Prop} {ρ : List Addr} {H : Hp} {p : Addr} {vs : List V} {ds : List D} (tk : Tk W H) (n : H p = none) (r : Reps G W ρ H vs ds) : Rep G W ρ (upd H p (.lst vs)) (.ref p) (.lst ds) := .lst upd_same (tk.no n) (r.ext (.new n))
theorem new_tup {W : Addr → Prop} {ρ : List Addr} {H : Hp} {p : Addr} {vs : List V} {ds : List D} (tk : Tk W H) (n : H p = none) (r : Reps G W ρ H vs ds) : Rep G W ρ (upd H p (.tup vs)) (.ref p) (.tup ds) := .tup upd_same (tk.no n) (r.ext (.new n))

def rAddU (K : PySem.W.Frag) : R2 := fun x y H Q => ((∃ i j, x = .int i ∧ y = .int j ∧ Q (.int (i + j)) H) ∨ (∃ i j, x = .str i ∧ y = .str j ∧ i.length + j.length ≤ sizeLine ∧ Q (.str (i ++ j)) H)) ∨ rCat x y H Q ∨ rCatA K x y H Q
theorem op_addU : OpR X (binaryOp .Add) (rAddU X.K) := (op_add.or op_add_str).or (op_cat.or op_catA)
theorem sp_addU : Sp2 G (rAddU G.K) addD := by
  intro W ρ H x y dx dy d Q tk bx bby e q
  cases dx <;> cases dy <;> first | (cases e; done) | skip
  · rename_i i j
    cases e
    obtain rfl := br_int bx
    obtain rfl := br_int bby
    exact .inl (.inl ⟨i, j, rfl, rfl, q _ _ Ext.refl .int⟩)
  · rename_i i j
    by_cases h : i.length + j.length ≤ lim
    · rw [show addD (.str i) (.str j) = some (.str (i ++ j)) from if_pos h] at e
      cases e
      obtain rfl := br_str bx
      obtain rfl := br_str bby
      exact .inl (.inr ⟨i, j, rfl, rfl, lim_line h, q _ _ Ext.refl .str⟩)
    · rw [show addD (.str i) (.str j) = none from if_neg h] at e; cases e
  · rename_i i j
    by_cases h : i.length + j.length ≤ lim
    · rw [show addD (.tup i) (.tup j) = some (.tup (i ++ j)) from if_pos h] at e
      cases e
      obtain ⟨a, vs, rfl, h1, r1, z1⟩ := br_tup bx
      obtain ⟨b, us, rfl, h2, r2, z2⟩ := br_tup bby
      refine .inr (.inr ⟨a, b, vs, us, rfl, rfl, h1, h2, lim_line (by rw [r1.length, r2.length]; exact h), fun e1 => ?_, fun e1 e2 => ?_, fun e1 e2 p n => ?_⟩)
      · subst e1; cases r1; exact q _ _ Ext.refl (by simpa using z2)
      · subst e2; cases r2; exact q _ _ Ext.refl (by simpa using z1)
      · exact q _ _ (.new n) (new_tup tk n (r1.append r2))
    · rw [show addD (.tup i) (.tup j) = none from if_neg h] at e; cases e
  · rename_i i j
    by_cases h : i.length + j.length ≤ lim
    · rw [show addD (.lst i) (.lst j) = some (.lst (i ++ j)) from if_pos h] at e
      cases e
      obtain ⟨a, vs, rfl, h1, r1⟩ := br_lst bx
      obtain ⟨b, us, rfl, h2, r2⟩ := br_lst bby
      exact .inr (.inl ⟨a, b, vs, us, rfl, rfl, h1, h2, lim_line (by rw [r1.length, r2.length]; exact h), fun p n => q _ _ (.new n) (new_lst tk n (r1.append r2))⟩)
    · rw [show addD (.lst i) (.lst j) = none from if_neg h] at e; cases e
theorem reps_flat {W : Addr → Prop} {ρ : List Addr} {H : Hp} {vs : List V} {ds : List D} (r : Reps G W ρ H vs ds) : ∀ n, Reps G W ρ H (List.replicate n vs).flatten (List.replicate n ds).flatten
  | 0 => .nil
  | n + 1 => by
    rw [List.replicate_succ, List.replicate_succ, List.flatten_cons, List.flatten_cons]
    exact r.append (reps_flat r n)
def rMulU : R2 := fun x y H Q => (∃ i j, x = .int i ∧ y = .int j ∧ CMul i j ∧ Q (.int (i * j)) H) ∨ rRep x y H Q
theorem op_mulU : OpR X (binaryOp .Mult) rMulU := op_mul.or op_rep
theorem sp_mulU : Sp2 G rMulU mulD := by
  intro W ρ H x y dx dy d Q tk bx bby e q
  cases dx <;> cases dy <;> first | (cases e; done) | skip
  · rename_i i j
    by_cases h : (smallI i || smallI j) = true
    · rw [show mulD (.int i) (.int j) = some (.int (i * j)) from if_pos h] at e
      cases e
      obtain rfl := br_int bx
      obtain rfl := br_int bby
      refine .inl ⟨i, j, rfl, rfl, ?_, q _ _ Ext.refl .int⟩
      rcases Bool.or_eq_true_iff.mp h with h | h
      · exact .inl (smallI_of h)
      · exact .inr (smallI_of h)
    · rw [show mulD (.int i) (.int j) = none from if_neg h] at e; cases e
  · rename_i xs k
    by_cases h : 0 ≤ k ∧ k ≤ 1000 ∧ xs.length ≤ 1000
    · rw [show mulD (.lst xs) (.int k) = some (.lst (List.replicate k.toNat xs).flatten) from if_pos h] at e
      cases e
      obtain ⟨a, vs, rfl, h1, r1⟩ := br_lst bx
      obtain rfl := br_int bby
      obtain ⟨h2, h3, h4⟩ := h
      refine .inr ⟨a, k, vs, rfl, rfl, h1, by omega, by omega, ?_, fun p n => q _ _ (.new n) (new_lst tk n (reps_flat r1 _))⟩
      refine lim_line (Nat.le_trans (Nat.mul_le_mul (show vs.length ≤ 1000 by rw [r1.length]; exact h4) (show k.toNat ≤ 1000 by omega)) (by decide))
    · rw [show mulD (.lst xs) (.int k) = none from if_neg h] at e; cases e

/-! ### length, items, membership -/
def lenD : List D → Option D
  | [.lst ds] => some (.int ds.length)
  | [.lck ds] => some (.int ds.length)
  | [.tup ds] => some (.int ds.length)
  | [.dic ds] => some (.int ds.length)
  | [.str x] => if x.length ≤ lim then some (.int x.length) else none
  | _ => none
def rLenU (K : PySem.W.Frag) : List V → Hp → VK → Prop := fun xs H Q => (∃ x n, xs = [x] ∧ LenV K x H n ∧ Q (.int n) H) ∨ ∃ a kvs, xs = [V.ref a] ∧ Rd H a (.dK kvs) ∧ Q (.int kvs.length) H
theorem call_lenRd : CallR X (.builtin "len") (fun xs H Q => ∃ a kvs, xs = [V.ref a] ∧ Rd H a (.dK kvs) ∧ Q (.int kvs.length) H) := by
  intro pins s σ H xs us Q I r h
  obtain ⟨a, kvs, rfl, ha, q⟩ := h
  obtain ⟨u, rfl, ru⟩ := vals1 r
  cases ru
  exact d_len I ha fun t s' I' => ⟨.int kvs.length, H, I', ⟨t, rfl⟩, q⟩
theorem call_lenU : CallR X (.builtin "len") (rLenU X.K) := call_len.or call_lenRd
theorem brs1 {W : Addr → Prop} {ρ : List Addr} {H : Hp} {xs : List V} {d : D} (h : BRs G W ρ H xs [d]) : ∃ x, xs = [x] ∧ BR G W ρ H x d := by
  cases h with | cons h r => cases r; exact ⟨_, rfl, h⟩
theorem brs2 {W : Addr → Prop} {ρ : List Addr} {H : Hp} {xs : List V} {d e : D} (h : BRs G W ρ H xs [d, e]) : ∃ x y, xs = [x, y] ∧ BR G W ρ H x d ∧ BR G W ρ H y e := by
  cases h with | cons h r => obtain ⟨y, rfl, h2⟩ := brs1 r; exact ⟨_, _, rfl, h, h2⟩
theorem sp_lenU : SpC G (rLenU G.K) lenD := by
  intro W ρ H xs ds d Q tk b e q
  match ds, e with
  | [.lst ds], e =>
    obtain ⟨x, rfl, b1⟩ := brs1 b
    obtain ⟨a, vs, rfl, h, r⟩ := br_lst b1
    cases e
    exact .inl ⟨_, vs.length, rfl, .inl ⟨vs, .inl (.inl h), rfl⟩, by rw [r.length]; exact q _ _ Ext.refl .int⟩
  | [.lck ds], e =>
    obtain ⟨x, rfl, b1⟩ := brs1 b
    obtain ⟨a, vs, rfl, h, r⟩ := br_lck b1
    cases e
    exact .inl ⟨_, vs.length, rfl, .inl ⟨vs, h, rfl⟩, by rw [r.length]; exact q _ _ Ext.refl .int⟩
  | [.tup ds], e =>
    obtain ⟨x, rfl, b1⟩ := brs1 b
    obtain ⟨a, vs, rfl, h, r, _⟩ := br_tup b1
    cases e
    exact .inl ⟨_, vs.length, rfl, .inr ⟨vs, h, rfl⟩, by rw [r.length]; exact q _ _ Ext.refl .int⟩
  | [.dic ds], e =>
    obtain ⟨x, rfl, b1⟩ := brs1 b
    obtain ⟨a, vs, rfl, h, k, r⟩ := br_dic b1
    cases e
    have hl : vs.length = ds.length := by have := congrArg List.length k; simpa using this
    exact .inr ⟨_, vs, rfl, h, by rw [hl]; exact q _ _ Ext.refl .int⟩
  | [.str x], e =>
    obtain ⟨y, rfl, b1⟩ := brs1 b
    obtain rfl := br_str b1
    by_cases h : x.length ≤ lim
    · rw [show lenD [.str x] = some (.int x.length) from if_pos h] at e
      cases e
      exact .inl ⟨_, x.length, rfl, ⟨lim_line h, rfl⟩, q _ _ Ext.refl .int⟩
    · rw [show lenD [.str x] = none from if_neg h] at e; cases e

def atD (ds : List D) (i : Int) : Option D := atI ds i
def ixD : D → D → Option D
  | .lst ds, .int i => atI ds i
  | .lck ds, .int i => atI ds i
  | .tup ds, .int i => atI ds i
  | .str x, .int i => if x.length ≤ lim then (atI x.cps.toList i).map fun c => .str ⟨#[c]⟩ else none
  | _, _ => none
theorem reps_at {W : Addr → Prop} {ρ : List Addr} {H : Hp} {vs : List V} {ds : List D} {i : Int} {d : D} (r : Reps G W ρ H vs ds) (e : atI ds i = some d) : ∃ v, atI vs i = some v ∧ Rep G W ρ H v d := by
  unfold atI at e ⊢
  rw [r.length]
  cases q : ixN ds.length i with
  | none => rw [q] at e; cases e
  | some j =>
    rw [q] at e
    exact r.get e
theorem sp_ix : Sp2 G (rIx G.K) ixD := by
  intro W ρ H x y dx dy d Q tk bx bby e q
  match dx, dy, e with
  | .lst ds, .int i, e =>
    obtain ⟨a, vs, rfl, h, r⟩ := br_lst bx
    obtain rfl := br_int bby
    obtain ⟨v, e1, r1⟩ := reps_at r e
    exact .inl ⟨a, vs, i, v, rfl, rfl, .inl (.inl h), e1, q _ _ Ext.refl r1⟩
  | .lck ds, .int i, e =>
    obtain ⟨a, vs, rfl, h, r⟩ := br_lck bx
    obtain rfl := br_int bby
    obtain ⟨v, e1, r1⟩ := reps_at r e
    exact .inl ⟨a, vs, i, v, rfl, rfl, h, e1, q _ _ Ext.refl r1⟩
  | .tup ds, .int i, e =>
    obtain ⟨a, vs, rfl, h, r, _⟩ := br_tup bx
    obtain rfl := br_int bby
    obtain ⟨v, e1, r1⟩ := reps_at r e
    exact .inr (.inl ⟨a, vs, i, v, rfl, rfl, h, e1, q _ _ Ext.refl r1⟩)
  | .str x, .int i, e =>
    obtain rfl := br_str bx
    obtain rfl := br_int bby
    by_cases h : x.length ≤ lim
    · have e : (atI x.cps.toList i).map (fun c => D.str ⟨#[c]⟩) = some d := (if_pos h).symm.trans e
      cases z : atI x.cps.toList i with
      | none => rw [z] at e; cases e
      | some c => rw [z] at e; cases e; exact .inr (.inr ⟨x, i, c, rfl, rfl, lim_line h, z, q _ _ Ext.refl .str⟩)
    · have e : none = some d := (if_neg h).symm.trans e
      cases e

def toV : D → V
  | .non => .non | .bl b => .bl b | .int i => .int i | .str x => .str x | _ => .ref 0
def flatD : D → Bool
  | .non => true | .bl _ => true | .int _ => true | .str _ => true | _ => false
theorem flat_br {W : Addr → Prop} {ρ : List Addr} {H : Hp} {v : V} {d : D} (h : BR G W ρ H v d) (f : flatD d = true) : v = toV d ∧ flatV v = true := by
  cases d <;> first | (cases f; done) | skip
  · rw [br_non h]; exact ⟨rfl, rfl⟩
  · rw [br_bl h]; exact ⟨rfl, rfl⟩
  · rw [br_int h]; exact ⟨rfl, rfl⟩
  · rw [br_str h]; exact ⟨rfl, rfl⟩
theorem flat_reps {W : Addr → Prop} {ρ : List Addr} {H : Hp} : ∀ {vs : List V} {ds : List D}, Reps G W ρ H vs ds → ds.all flatD = true → vs = ds.map toV ∧ vs.all flatV = true
  | _, _, .nil, _ => ⟨rfl, rfl⟩
  | _, _, .cons r t, f => by
    rw [List.all_cons, Bool.and_eq_true] at f
    obtain ⟨e1, f1⟩ := flat_br (.inl r) f.1
    obtain ⟨e2, f2⟩ := flat_reps t f.2
    rw [List.map_cons, List.all_cons, ← e1, ← e2, f1, f2]
    exact ⟨rfl, rfl⟩
def keyD : D → Option Key
  | .int i => some (.inl i)
  | .str x => some (.inr x)
  | _ => none
theorem key_br {W : Addr → Prop} {ρ : List Addr} {H : Hp} {v : V} {d : D} {k : Key} (h : BR G W ρ H v d) (f : keyD d = some k) : v = kV k := by
  cases d <;> first | (cases f; done) | skip
  · cases f; exact br_int h
  · cases f; exact br_str h
def hasK {κ α : Type} [DecidableEq κ] (kvs : List (κ × α)) (k : κ) : Bool := kvs.any fun p => decide (p.1 = k)
def lookK {κ α : Type} [DecidableEq κ] (kvs : List (κ × α)) (k : κ) : Option α := (kvs.find? fun p => decide (p.1 = k)).map (·.2)
theorem look_reps {κ : Type} [DecidableEq κ] {W : Addr → Prop} {ρ : List Addr} {H : Hp} : ∀ {vs : List (κ × V)} {ds : List (κ × D)} {k : κ}, vs.map (·.1) = ds.map (·.1) → Reps G W ρ H (vs.map (·.2)) (ds.map (·.2)) →
    (valV vs k = none ∧ lookK ds k = none) ∨ ∃ v d, valV vs k = some v ∧ lookK ds k = some d ∧ Rep G W ρ H v d
  | [], [], k, _, _ => .inl ⟨rfl, rfl⟩
  | [], _ :: _, k, e, _ => by cases e
  | _ :: _, [], k, e, _ => by cases e
  | (j, v) :: vs, (j', d) :: ds, k, e, .cons r t => by
    rw [List.map_cons, List.map_cons] at e
    injection e with e1 e2
    have e1 : j = j' := e1
    subst e1
    by_cases h : j = k
    · subst h
      exact .inr ⟨v, d, by simp [valV], by simp [lookK], r⟩
    · have q := look_reps (k := k) e2 t
      have h1 : valV ((j, v) :: vs) k = valV vs k := by simp [valV, List.find?_cons, h]
      have h2 : lookK ((j, d) :: ds) k = lookK ds k := by simp [lookK, List.find?_cons, h]
      rw [h1, h2]
      exact q
theorem has_look {κ α : Type} [DecidableEq κ] (k : κ) : ∀ kvs : List (κ × α), hasK kvs k = (lookK kvs k).isSome
  | [] => rfl
  | (j, v) :: r => by
    by_cases h : j = k
    · subst h; simp [hasK, lookK]
    · have := has_look k r
      simp only [hasK, lookK, List.any_cons, List.find?_cons, h, decide_false, Bool.false_or] at this ⊢
      exact this
def inD (neg : Bool) : D → D → Option D
  | x, .lst ys => if flatD x && ys.all flatD then some (.bl (neg ^^ inV (toV x) (ys.map toV))) else none
  | x, .tup ys => if flatD x && ys.all flatD then some (.bl (neg ^^ inV (toV x) (ys.map toV))) else none
  | .str c, .str z => match c.cps.toList with | [k] => some (.bl (neg ^^ decide (k ∈ z.cps.toList))) | _ => none
  | x, .dic kvs => match keyD x with | some k => some (.bl (neg ^^ hasK kvs k)) | none => none
  | _, _ => none
def rInDic (neg : Bool) : R2 := fun y x H Q => ∃ a o, x = .ref a ∧ DGet H a y o ∧ Q (.bl (neg ^^ o.isSome)) H
theorem op_in_dic (hu : X.A.units + 1 < cLine) : OpR X (compareOp .In) (rInDic false) := by
  intro pins s σ H x y v u Q I rx ry h
  obtain ⟨a, o, rfl, g, q⟩ := h
  cases ry
  exact d_in hu I g rx fun s3 I3 => ⟨.bl o.isSome, H, I3, rfl, by simpa using q⟩
theorem op_notin_dic (hu : X.A.units + 1 < cLine) : OpR X (compareOp .NotIn) (rInDic true) := by
  intro pins s σ H x y v u Q I rx ry h
  obtain ⟨a, o, rfl, g, q⟩ := h
  cases ry
  exact d_notIn hu I g rx fun s3 I3 => ⟨.bl (!o.isSome), H, I3, rfl, by simpa using q⟩
def rSgn (neg : Bool) : R2 := fun x y H Q => ∃ (c : Nat) (z : Str), x = .str ⟨#[c]⟩ ∧ y = .str z ∧ Q (.bl (neg ^^ decide (c ∈ z.cps.toList))) H
theorem op_in_sgn : OpR X (compareOp .In) (rSgn false) := fun pins s σ H x y v u Q I rx ry ⟨c, z, e1, e2, q⟩ => op_in_sign pins s σ H x y v u Q I rx ry ⟨c, z, e1, e2, by simpa using q⟩
theorem op_notin_sgn : OpR X (compareOp .NotIn) (rSgn true) := fun pins s σ H x y v u Q I rx ry ⟨c, z, e1, e2, q⟩ => op_notIn_sign pins s σ H x y v u Q I rx ry ⟨c, z, e1, e2, by simpa using q⟩
def rInU (K : PySem.W.Frag) (neg : Bool) : R2 := fun x y H Q => rIn K neg x y H Q ∨ rSgn neg x y H Q ∨ rInDic neg x y H Q
theorem op_inU (hu : X.A.units + 1 < cLine) : OpR X (compareOp .In) (rInU X.K false) := op_in_seq.or (op_in_sgn.or (op_in_dic hu))
theorem op_notInU (hu : X.A.units + 1 < cLine) : OpR X (compareOp .NotIn) (rInU X.K true) := op_notIn_seq.or (op_notin_sgn.or (op_notin_dic hu))
theorem sp_in_seq {neg : Bool} {W : Addr → Prop} {ρ : List Addr} {H : Hp} {x : V} {dx d : D} {ds : List D} {a : Addr} {vs : List V} {Q : VK} (bx : BR G W ρ H x dx) (hs : SqL G.K H a vs ∨ SqT G.K H a vs) (r : Reps G W ρ H vs ds)
    (e : (if (flatD dx && ds.all flatD) = true then some (D.bl (neg ^^ inV (toV dx) (ds.map toV))) else none) = some d) (q : ∀ v H', Ext H H' → Rep G W ρ H' v d → Q v H') : rIn G.K neg x (.ref a) H Q := by
  by_cases h : (flatD dx && ds.all flatD) = true
  · rw [if_pos h] at e
    cases e
    rw [Bool.and_eq_true] at h
    obtain ⟨e1, f1⟩ := flat_br bx h.1
    obtain ⟨e2, f2⟩ := flat_reps r h.2
    refine ⟨a, vs, rfl, hs, f1, f2, ?_⟩
    rw [e1, e2]
    have z := q (.bl (neg ^^ inV (toV dx) (ds.map toV))) H Ext.refl .bl
    cases neg <;> simpa using z
  · rw [if_neg h] at e; cases e
theorem sp_inU {neg : Bool} : Sp2 G (rInU G.K neg) (inD neg) := by
  intro W ρ H x y dx dy d Q tk bx bby e q
  match dy, e with
  | .lst ds, e =>
    obtain ⟨a, vs, rfl, h, r⟩ := br_lst bby
    exact .inl (sp_in_seq bx (.inl (.inl (.inl h))) r (by cases dx <;> exact e) q)
  | .tup ds, e =>
    obtain ⟨a, vs, rfl, h, r, _⟩ := br_tup bby
    exact .inl (sp_in_seq bx (.inr h) r (by cases dx <;> exact e) q)
  | .str z, e =>
    cases dx with
    | str c =>
      obtain rfl := br_str bby
      obtain rfl := br_str bx
      have e : (match c.cps.toList with | [k] => some (D.bl (neg ^^ decide (k ∈ z.cps.toList))) | _ => none) = some d := e
      cases hc : c.cps.toList with
      | nil => rw [hc] at e; cases e
      | cons k r =>
        cases r with
        | cons _ _ => rw [hc] at e; cases e
        | nil =>
          rw [hc] at e
          cases e
          have hc' : c = ⟨#[k]⟩ := by
            cases c with | mk cps =>
            have : cps.toList = [k] := hc
            congr 1
            rw [← Array.toList_inj]
            exact this
          subst hc'
          exact .inr (.inl ⟨k, z, rfl, rfl, q _ _ Ext.refl .bl⟩)
    | _ => cases e
  | .dic kvs, e =>
    obtain ⟨a, vs, rfl, h, k, r⟩ := br_dic bby
    have e : (match keyD dx with | some k => some (D.bl (neg ^^ hasK kvs k)) | none => none) = some d := by cases dx <;> exact e
    cases z : keyD dx with
    | none => rw [z] at e; cases e
    | some j =>
      rw [z] at e
      cases e
      obtain rfl := key_br bx z
      refine .inr (.inr ⟨a, valV vs j, rfl, .inl ⟨vs, j, h, rfl, rfl⟩, ?_⟩)
      have : (valV vs j).isSome = hasK kvs j := by
        rw [has_look]
        rcases look_reps (k := j) k r with ⟨h1, h2⟩ | ⟨_, _, h1, h2, _⟩ <;> rw [h1, h2] <;> rfl
      rw [this]
      exact q _ _ Ext.refl .bl
  | .non, e => cases dx <;> cases e
  | .bl _, e => cases dx <;> cases e
  | .int _, e => cases dx <;> cases e
  | .lck _, e => cases dx <;> cases e
  | .dit _, e => cases dx <;> cases e
  | .din _, e => cases dx <;> cases e
  | .obj _ _, e => cases dx <;> cases e
  | .ptr _, e => cases dx <;> cases e

/-! ### equality of data -/
mutual
def toPy : D → Option PyData
  | .non => some .none
  | .bl b => some (.bool b)
  | .int i => some (.int i)
  | .str x => some (.str x)
  | .tup ds => (toPys ds).map .tuple
  | .lst ds => (toPys ds).map .list
  | _ => none
def toPys : List D → Option (List PyData)
  | [] => some []
  | d :: ds => match toPy d, toPys ds with | some p, some ps => some (p :: ps) | _, _ => none
end
mutual
theorem dp_of {W : Addr → Prop} {ρ : List Addr} {H : Hp} : ∀ {v : V} {d : D} {p : PyData}, Rep G W ρ H v d → toPy d = some p → Dp G.K H v p
  | _, _, _, .non, e => by cases e; exact .non
  | _, _, _, .bl, e => by cases e; exact .bl _
  | _, _, _, .int, e => by cases e; exact .int _
  | _, _, _, .str, e => by cases e; exact .str _
  | _, .tup ds, p, .tup h n r, e => by
    unfold toPy at e
    cases z : toPys ds with
    | none => rw [z] at e; cases e
    | some ps => rw [z] at e; cases e; exact .tup (.inl (.inl h)) (dps_of r z)
  | _, .tup ds, p, .tupK h _ r, e => by
    unfold toPy at e
    cases z : toPys ds with
    | none => rw [z] at e; cases e
    | some ps => rw [z] at e; cases e; exact .tup (.inr h) (dps_of r z)
  | _, .lst ds, p, .lst h n r, e => by
    unfold toPy at e
    cases z : toPys ds with
    | none => rw [z] at e; cases e
    | some ps => rw [z] at e; cases e; exact .lst (.inl (.inl h)) (dps_of r z)
  | _, _, _, .lck .., e => by cases e
  | _, _, _, .lckK .., e => by cases e
  | _, _, _, .dic .., e => by cases e
  | _, _, _, .dit .., e => by cases e
  | _, _, _, .din .., e => by cases e
  | _, _, _, .obj .., e => by cases e
  | _, _, _, .ptr .., e => by cases e
theorem dps_of {W : Addr → Prop} {ρ : List Addr} {H : Hp} : ∀ {vs : List V} {ds : List D} {ps : List PyData}, Reps G W ρ H vs ds → toPys ds = some ps → DpAll G.K H vs ps
  | _, _, _, .nil, e => by cases e; exact .nil
  | _, d :: ds, ps, .cons r t, e => by
    unfold toPys at e
    cases z : toPy d with
    | none => rw [z] at e; cases e
    | some p =>
      cases z2 : toPys ds with
      | none => rw [z, z2] at e; cases e
      | some ps => rw [z, z2] at e; cases e; exact .cons (dp_of r z) (dps_of t z2)
end
def eqD (neg : Bool) (a b : D) : Option D := match toPy a, toPy b with
  | some p, some q => if SeqAt.shaped p && SeqAt.shaped q then some (.bl (neg ^^ PyData.eqv p q)) else none
  | _, _ => none
theorem dp_br {W : Addr → Prop} {ρ : List Addr} {H : Hp} {v : V} {d : D} {p : PyData} (h : BR G W ρ H v d) (e : toPy d = some p) : Dp G.K H v p := by
  rcases h with h | ⟨a, rfl, h⟩
  · exact dp_of h e
  · cases h with
    | @lst vs ds h r =>
      unfold toPy at e
      cases z : toPys ds with
      | none => rw [z] at e; cases e
      | some ps => rw [z] at e; cases e; exact .lst (.inl (.inl h)) (dps_of r z)
    | _ => cases e
theorem sp_eq : Sp2 G (rEqD G.K) (eqD false) := by
  intro W ρ H x y dx dy d Q tk bx bby e q
  unfold eqD at e
  cases z1 : toPy dx with
  | none => rw [z1] at e; cases e
  | some p =>
    cases z2 : toPy dy with
    | none => rw [z1, z2] at e; cases e
    | some p2 =>
      rw [z1, z2] at e
      by_cases h : (SeqAt.shaped p && SeqAt.shaped p2) = true
      · have e : some (D.bl (false ^^ PyData.eqv p p2)) = some d := (if_pos h).symm.trans e
        cases e
        rw [Bool.and_eq_true] at h
        exact ⟨p, p2, dp_br bx z1, dp_br bby z2, h.1, h.2, by have z := q _ _ Ext.refl (Rep.bl (b := false ^^ PyData.eqv p p2)); simpa using z⟩
      · have e : none = some d := (if_neg h).symm.trans e
        cases e
theorem sp_ne : Sp2 G (rNeD G.K) (eqD true) := by
  intro W ρ H x y dx dy d Q tk bx bby e q
  unfold eqD at e
  cases z1 : toPy dx with
  | none => rw [z1] at e; cases e
  | some p =>
    cases z2 : toPy dy with
    | none => rw [z1, z2] at e; cases e
    | some p2 =>
      rw [z1, z2] at e
      by_cases h : (SeqAt.shaped p && SeqAt.shaped p2) = true
      · have e : some (D.bl (true ^^ PyData.eqv p p2)) = some d := (if_pos h).symm.trans e
        cases e
        rw [Bool.and_eq_true] at h
        exact ⟨p, p2, dp_br bx z1, dp_br bby z2, h.1, h.2, by have z := q _ _ Ext.refl (Rep.bl (b := true ^^ PyData.eqv p p2)); simpa using z⟩
      · have e : none = some d := (if_neg h).symm.trans e
        cases e
end
end Mi

namespace Mi
open PySem PySem.Spec PyProof.Rows L2

/-! ### statements -/
inductive Fl where
  | nx | rt (d : D) | bk | ct
/-- the first slots stay -/
def Fx (nf : Nat) (σ σ' : L2.St) : Prop := ∀ i, i < nf → σ'[i]? = σ[i]?
theorem Fx.refl {nf : Nat} {σ : L2.St} : Fx nf σ σ := fun _ _ => rfl
theorem Fx.trans {nf : Nat} {σ σ1 σ2 : L2.St} (a : Fx nf σ σ1) (b : Fx nf σ1 σ2) : Fx nf σ σ2 := fun i h => (b i h).trans (a i h)
theorem Fx.set {nf i : Nat} {σ : L2.St} {x : Option V} (h : nf ≤ i) : Fx nf σ (σ.set i x) := fun j hj => List.getElem?_set_ne (by omega)
def PostS (G : Gc) (X : WX) (nf : Nat) (S0 : Addr → Prop) (ρ : List Addr) (s : S) (σ : L2.St) (H : Hp) (r : Res Fl) (E : Ends) : Prop := match r with
  | .ok f s' => match f with
    | .nx => ∀ σ' H' ρ', Sat G S0 ρ' s' σ' H' → Nx S0 ρ s.e σ H ρ' s'.e σ' H' → Fx nf σ σ' → E.nx σ' H'
    | .bk => ∀ σ' H' ρ', Sat G S0 ρ' s' σ' H' → Nx S0 ρ s.e σ H ρ' s'.e σ' H' → Fx nf σ σ' → E.bk σ' H'
    | .ct => ∀ σ' H' ρ', Sat G S0 ρ' s' σ' H' → Nx S0 ρ s.e σ H ρ' s'.e σ' H' → Fx nf σ σ' → E.ct σ' H'
    | .rt d => ∀ v σ' H' ρ', Sat G S0 ρ' s' σ' H' → Nx S0 ρ s.e σ H ρ' s'.e σ' H' → Fx nf σ σ' → Rep G (Wa S0 ρ' s'.e σ') ρ' H' v d → E.rt v H'
  | .exc x s' => ∀ c dx σ' H' ρ', Sat G S0 ρ' s' σ' H' → Nx S0 ρ s.e σ H ρ' s'.e σ' H' → Fx nf σ σ' → XRep G (Wa S0 ρ' s'.e σ') ρ' H' c dx x → X c dx σ' H'
  | .stuck => False
def EvS (G : Gc) (X : WX) (nf : Nat) (ts : TS) (g : M Fl) : Prop := ∀ S0 ρ s σ H E, Sat G S0 ρ s σ H → PostS G X nf S0 ρ s σ H (g s) E → ts E σ H
structure JS (X : Cx) (ca : Nat → Addr) (W : WX) (nf : Nat) (st : Stmt) (ts : TS) (g : M Fl) : Prop where
  ps : PS X st ts
  ev : EvS ⟨X.K, ca, X.w⟩ W nf ts g
structure JB (X : Cx) (ca : Nat → Addr) (W : WX) (nf : Nat) (st : List Stmt) (ts : TS) (g : M Fl) : Prop where
  pss : PSs X st ts
  ev : EvS ⟨X.K, ca, X.w⟩ W nf ts g
section
variable {nf : Nat} {G : Gc} {X : WX} {S0 : Addr → Prop} {ρ ρ1 : List Addr} {s s1 : S} {σ σ1 : L2.St} {H H1 : Hp}
theorem PostS.fromS {r : Res Fl} {E : Ends} (h : PostS G X nf S0 ρ s σ H r E) (n : Nx S0 ρ s.e σ H ρ1 s1.e σ1 H1) (f : Fx nf σ σ1) : PostS G X nf S0 ρ1 s1 σ1 H1 r E := by
  cases r with
  | ok fl s' =>
    cases fl with
    | nx => exact fun σ' H' ρ' t n' f' => h σ' H' ρ' t (n.trans n') (f.trans f')
    | bk => exact fun σ' H' ρ' t n' f' => h σ' H' ρ' t (n.trans n') (f.trans f')
    | ct => exact fun σ' H' ρ' t n' f' => h σ' H' ρ' t (n.trans n') (f.trans f')
    | rt d => exact fun v σ' H' ρ' t n' f' q => h v σ' H' ρ' t (n.trans n') (f.trans f') q
  | exc x s' => exact fun c dx σ' H' ρ' t n' f' q => h c dx σ' H' ρ' t (n.trans n') (f.trans f') q
  | stuck => exact h
theorem PostS.from {r : Res Fl} {E : Ends} (h : PostS G X nf S0 ρ s σ H r E) (n : Nx S0 ρ s.e σ H ρ1 s1.e σ H1) : PostS G X nf S0 ρ1 s1 σ H1 r E := h.fromS n .refl
/-- an expression, then the rest of a statement -/
theorem postS_bind {β α : Type} {R1 : RelT β α} {m : Res α} {f : α → M Fl} {Q1 : β → Hp → Prop} {E : Ends} (hp : PostS G X nf S0 ρ s σ H (m.bind f) E)
    (k : ∀ a s1, m = .ok a s1 → ∀ b H1 ρ1, Sat G S0 ρ1 s1 σ H1 → Nx S0 ρ s.e σ H ρ1 s1.e σ H1 → R1 (Wa S0 ρ1 s1.e σ) ρ1 H1 σ b a → PostS G X nf S0 ρ1 s1 σ H1 (f a s1) E → Q1 b H1) : Post G X R1 S0 ρ s σ H m Q1 := by
  cases m with
  | ok a s1 => exact fun b H1 ρ1 t n q => k a s1 rfl b H1 ρ1 t n q (PostS.from hp n)
  | exc x s1 => exact fun c dx H' ρ' t n q => hp c dx σ H' ρ' t n .refl q
  | stuck => exact hp
theorem postS_toVal {l : Loc} {f : D → M Fl} {v : V} {E : Ends} {P : Prop} (t : Sat G S0 ρ s σ H) (r : LRep G (Wa S0 ρ s.e σ) ρ H σ v l) (hp : PostS G X nf S0 ρ s σ H ((toVal l s).bind f) E)
    (k : ∀ d s1, Sat G S0 ρ s1 σ H → Nx S0 ρ s.e σ H ρ s1.e σ H → Rep G (Wa S0 ρ s1.e σ) ρ H v d → PostS G X nf S0 ρ s1 σ H (f d s1) E → P) : P := by
  cases l with
  | val d => exact k d s t .refl r hp
  | own i =>
    have r' : σ[i]? = some (some v) := r
    unfold toVal at hp
    cases e : s.e[i]? with
    | none => simp only [e] at hp; exact hp.elim
    | some sl =>
      cases sl with
      | no => simp only [e] at hp; exact hp.elim
      | val d =>
        simp only [e] at hp
        obtain ⟨v', e1, q⟩ := t.val i d e
        rw [r'] at e1; cases e1
        exact k d s t .refl q hp
      | own d =>
        simp only [e] at hp
        obtain ⟨t1, n1⟩ := t.freeze e
        obtain ⟨v', e1, q⟩ := t1.val i d (by
          have hl : i < s.e.length := (List.getElem?_eq_some_iff.mp e).1
          exact List.getElem?_set_self hl)
        rw [r'] at e1; cases e1
        exact k d _ t1 n1 q (hp.from n1)
theorem PostS.nx {E : Ends} (h : PostS G X nf S0 ρ s σ H (.ok .nx s) E) (t : Sat G S0 ρ s σ H) : E.nx σ H := h σ H ρ t .refl .refl
end
def sNx : M Fl := ret .nx
def sSeq (a b : M Fl) : M Fl := bnd a fun f => match f with | .nx => b | f => ret f
def sExpr (m : M Loc) : M Fl := bnd m fun _ => ret .nx
def sRet (m : M Loc) : M Fl := bnd m fun l => bnd (toVal l) fun d => ret (.rt d)
def sIf (c : M Bool) (a b : M Fl) : M Fl := bnd c fun k => if k = true then a else b
/-- a slot is set -/
def st1 (i : Nat) (d : D) : M Unit := fun s => .ok () ⟨s.e.set i (.val d), s.t⟩
def sSet (i : Nat) (m : M Loc) : M Fl := bnd m fun l => bnd (toVal l) fun d => bnd (st1 i d) fun _ => ret .nx
section
variable {nf : Nat} {X : Cx} {ca : Nat → Addr} {W : WX} {e a b c : Expr} {es : List Expr} {te ta tb tc : TE} {tA : TA} {m ma mb mc : M Loc} {mA : M (List Loc)} {pos p : Pos} {st : Stmt} {rest sa sb : List Stmt} {t u : TS} {g h : M Fl} {tu : TT} {mu : M Bool}
theorem jb_nil : JB X ca W nf [] tNext sNx := ⟨pss_nil, fun S0 ρ s σ H E t hp => PostS.nx hp t⟩
theorem jb_cons (h1 : JS X ca W nf st t g) (h2 : JB X ca W nf rest u h) : JB X ca W nf (st :: rest) (tSeq t u) (sSeq g h) := by
  refine ⟨pss_cons h1.ps h2.pss, fun S0 ρ s σ H E ts hp => ?_⟩
  refine h1.ev _ _ _ _ _ _ ts ?_
  have hp : PostS ⟨X.K, ca, X.w⟩ W nf S0 ρ s σ H ((g s).bind fun f => match f with | .nx => h | f => ret f) E := hp
  cases e : g s with
  | ok f s1 =>
    rw [e] at hp
    cases f with
    | nx => exact fun σ1 H1 ρ1 t1 n1 f1 => h2.ev _ _ _ _ _ _ t1 (PostS.fromS (r := h s1) hp n1 f1)
    | bk => exact hp
    | ct => exact hp
    | rt d => exact hp
  | exc x s1 => rw [e] at hp; exact hp
  | stuck => rw [e] at hp; exact hp
theorem jb_one (h1 : JS X ca W nf st t g) : JB X ca W nf [st] t g := ⟨pss_one h1.ps, h1.ev⟩
theorem js_pass : JS X ca W nf (.Pass pos) tNext sNx := ⟨ps_pass, fun S0 ρ s σ H E t hp => PostS.nx hp t⟩
theorem js_break : JS X ca W nf (.Break pos) tBreak (ret .bk) := ⟨ps_break, fun S0 ρ s σ H E t hp => hp σ H ρ t .refl .refl⟩
theorem js_continue : JS X ca W nf (.Continue pos) tCont (ret .ct) := ⟨ps_continue, fun S0 ρ s σ H E t hp => hp σ H ρ t .refl .refl⟩
theorem js_expr (he : JE X ca W e te m) (hs : swapsWith e none pos.line X.env = pure false := by rfl) : JS X ca W nf (.Expr e pos) (tDrop te) (sExpr m) := by
  refine ⟨ps_expr he.pe hs, fun S0 ρ s σ H E t hp => ?_⟩
  exact he.ev _ _ _ _ _ _ t (postS_bind hp fun x s1 _ v H1 ρ1 t1 n1 r1 hp1 => PostS.nx hp1 t1)
theorem js_ret (he : JE X ca W e te m) : JS X ca W nf (.Return (some e) pos) (tRet te) (sRet m) := by
  refine ⟨ps_ret he.pe, fun S0 ρ s σ H E t hp => ?_⟩
  exact he.ev _ _ _ _ _ _ t (postS_bind hp fun x s1 _ v H1 ρ1 t1 n1 r1 hp1 => postS_toVal t1 r1 hp1 fun d s2 t2 n2 r2 hp2 => hp2 v σ H1 ρ1 t2 .refl .refl r2)
theorem js_retN : JS X ca W nf (.Return none pos) tRetN (ret (.rt .non)) := ⟨ps_retN, fun S0 ρ s σ H E t hp => hp .non σ H ρ t .refl .refl .non⟩
theorem js_if (hc : JT X ca W e tu mu) (ha : JB X ca W nf sa t g) (hb : JB X ca W nf sb u h) : JS X ca W nf (.If e sa sb pos) (tIfS tu t u) (sIf mu g h) := by
  refine ⟨ps_if hc.pt ha.pss hb.pss, fun S0 ρ s σ H E t hp => ?_⟩
  refine hc.ev _ _ _ _ _ _ t (postS_bind hp fun x s1 _ v H1 ρ1 t1 n1 r1 hp1 => ?_)
  obtain rfl : x = v := Eq.symm r1
  cases x with
  | true => rw [if_pos rfl]; exact ha.ev _ _ _ _ _ _ t1 hp1
  | false => rw [if_neg Bool.false_ne_true]; exact hb.ev _ _ _ _ _ _ t1 hp1
/-- storing to a slot -/
theorem Sat.set {G : Gc} {S0 : Addr → Prop} {ρ : List Addr} {s : S} {σ : L2.St} {H : Hp} {v : V} {d : D} {i : Nat} (t : Sat G S0 ρ s σ H) (hi : i < σ.length) (r : Rep G (Wa S0 ρ s.e σ) ρ H v d) :
    Sat G S0 ρ ⟨s.e.set i (.val d), s.t⟩ (σ.set i (some v)) H ∧ Nx S0 ρ s.e σ H ρ (s.e.set i (.val d)) (σ.set i (some v)) H := by
  have sub : ∀ a, Wa S0 ρ (s.e.set i (.val d)) (σ.set i (some v)) a → Wa S0 ρ s.e σ a := fun a w => by
    rcases w with w | w | ⟨j, d', e1, e2⟩
    · exact .inl w
    · exact .inr (.inl w)
    · rcases getset e1 with ⟨rfl, z⟩ | ⟨ne, e1⟩
      · cases z
      · rw [List.getElem?_set_ne (Ne.symm ne)] at e2
        exact .inr (.inr ⟨j, d', e1, e2⟩)
  have kp : Kp S0 (Wa S0 ρ s.e σ) H (Wa S0 ρ (s.e.set i (.val d)) (σ.set i (some v))) H := ⟨fun _ _ _ e => e, fun b _ n _ w => n (sub b w), fun _ _ _ e => e⟩
  refine ⟨⟨by simpa using t.len, fun j d' e => ?_, fun j d' e => ?_, fun j k a d1 d2 e1 e2 e3 e4 => ?_, t.rlen, fun n a d' e1 e2 => ?_, t.nd, t.rs, t.s0⟩, kp, List.prefix_refl _⟩
  · rcases getset e with ⟨rfl, z⟩ | ⟨ne, e⟩
    · cases z
      exact ⟨v, List.getElem?_set_self hi, r.mono kp (List.prefix_refl _)⟩
    · obtain ⟨v', e1, r'⟩ := t.val j d' e
      exact ⟨v', by rw [List.getElem?_set_ne (Ne.symm ne)]; exact e1, r'.mono kp (List.prefix_refl _)⟩
  · rcases getset e with ⟨rfl, z⟩ | ⟨ne, e⟩
    · cases z
    · obtain ⟨a, e1, r', n⟩ := t.own j d' e
      exact ⟨a, by rw [List.getElem?_set_ne (Ne.symm ne)]; exact e1, r'.mono kp (List.prefix_refl _) rfl, n⟩
  · rcases getset e1 with ⟨rfl, z⟩ | ⟨n1, e1⟩
    · cases z
    · rcases getset e2 with ⟨rfl, z⟩ | ⟨n2, e2⟩
      · cases z
      · rw [List.getElem?_set_ne (Ne.symm n1)] at e3
        rw [List.getElem?_set_ne (Ne.symm n2)] at e4
        exact t.inj j k a d1 d2 e1 e2 e3 e4
  · exact (t.sto n a d' e1 e2).mono kp (List.prefix_refl _) rfl
/-- targets -/
abbrev TgF := D → S → Option S
def EvG (G : Gc) (nf : Nat) (g : TG) (a : TgF) : Prop := ∀ S0 ρ s σ H v d s' (Q : L2.St → Hp → Prop), Sat G S0 ρ s σ H → Rep G (Wa S0 ρ s.e σ) ρ H v d → a d s = some s' →
  (∀ σ', Sat G S0 ρ s' σ' H → Nx S0 ρ s.e σ H ρ s'.e σ' H → Fx nf σ σ' → Q σ' H) → g v σ H Q
def EvGs (G : Gc) (nf : Nat) (g : TGs) (a : List D → S → Option S) : Prop := ∀ S0 ρ s σ H vs ds s' (Q : L2.St → Hp → Prop), Sat G S0 ρ s σ H → Reps G (Wa S0 ρ s.e σ) ρ H vs ds → a ds s = some s' →
  (∀ σ', Sat G S0 ρ s' σ' H → Nx S0 ρ s.e σ H ρ s'.e σ' H → Fx nf σ σ' → Q σ' H) → g vs σ H Q
structure JG (X : Cx) (ca : Nat → Addr) (nf : Nat) (e : Expr) (g : TG) (a : TgF) : Prop where
  pg : PG X e g
  ev : EvG ⟨X.K, ca, X.w⟩ nf g a
structure JGs (X : Cx) (ca : Nat → Addr) (nf : Nat) (es : List Expr) (g : TGs) (a : List D → S → Option S) : Prop where
  pgs : PGs X es g
  ev : EvGs ⟨X.K, ca, X.w⟩ nf g a
def gN (i : Nat) : TgF := fun d s => if i < s.e.length then some ⟨s.e.set i (.val d), s.t⟩ else none
theorem ev_name {G : Gc} {i : Nat} (hf : nf ≤ i) : EvG G nf (gName i) (gN i) := by
  intro S0 ρ s σ H v d s' Q t r e hp
  unfold gN at e
  by_cases hi : i < s.e.length
  · rw [if_pos hi] at e
    cases e
    obtain ⟨t1, n1⟩ := t.set (i := i) (by rw [← t.len]; exact hi) r
    exact hp _ t1 n1 (.set hf)
  · rw [if_neg hi] at e; cases e
theorem jg_name {i : Nat} {x : Str} (hN : X.N.Nodup) (hi : X.N[i]? = some x) (hx : L2.Loc X.env.scope x) (hf : X.fn x = true ∨ X.env.scope.names.lookup x = some .local := by first | exact .inl rfl | exact .inr rfl | assumption) (hnf : nf ≤ i := by decide) : JG X ca nf (.Name x pos) (gName i) (gN i) := ⟨pg_name hN hi hx hf, ev_name hnf⟩
def gsN : List D → S → Option S := fun ds s => match ds with | [] => some s | _ => none
def gsC (a : TgF) (b : List D → S → Option S) : List D → S → Option S := fun ds s => match ds with | [] => none | d :: r => (a d s).bind (b r)
def gT (b : List D → S → Option S) (n : Nat) : TgF := fun d s => match d with | .tup ds => if ds.length = n then b ds s else none | _ => none
theorem jgs_nil : JGs X ca nf [] gNil gsN := ⟨pgs_nil, fun S0 ρ s σ H vs ds s' Q t r e hp => by
  cases r with
  | nil => cases e; exact ⟨rfl, hp σ t .refl .refl⟩
  | cons _ _ => cases e⟩
theorem jgs_cons {gg : TG} {gs : TGs} {aa : TgF} {bb : List D → S → Option S} (h1 : JG X ca nf e gg aa) (h2 : JGs X ca nf es gs bb) (hs : (assignEach (e :: es) X.env).map (·.2) = assign e X.env :: (assignEach es X.env).map (·.2) := by rfl) : JGs X ca nf (e :: es) (gCons gg gs) (gsC aa bb) :=
  ⟨pgs_cons h1.pg h2.pgs hs, fun S0 ρ s σ H vs ds s' Q t r e hp => by
    cases r with
    | nil => cases e
    | @cons v d vs ds r rr =>
      have e : (aa d s).bind (bb ds) = some s' := e
      cases z : aa d s with
      | none => rw [z] at e; cases e
      | some s1 =>
        rw [z] at e
        refine ⟨v, vs, rfl, h1.ev _ _ _ _ _ _ _ _ _ t r z fun σ1 t1 n1 f1 => ?_⟩
        exact h2.ev _ _ _ _ _ _ _ _ _ t1 (rr.mono n1.k n1.p) e fun σ2 t2 n2 f2 => hp σ2 t2 (n1.trans n2) (f1.trans f2)⟩
theorem jg_tup {k : Nat} {n : Nat} {gs : TGs} {bb : List D → S → Option S} (hc : X.calm = true) (h : JGs X ca nf es gs bb) (hn : (assignEach es X.env).length = n := by rfl) (hst : (assignEach es X.env).findIdx? (·.1) = none := by rfl) : JG X ca nf (.Tuple es k pos) (gTup X.K n gs) (gT bb n) :=
  ⟨pg_tup hc h.pgs hn hst, fun S0 ρ s σ H v d s' Q t r e hp => by
    cases d with
    | tup ds =>
      have e : (if ds.length = n then bb ds s else none) = some s' := e
      by_cases hl : ds.length = n
      · rw [if_pos hl] at e
        obtain ⟨a, vs, rfl, hs, rr, _⟩ := br_tup (.inl r)
        exact ⟨a, vs, rfl, hs, by rw [rr.length]; exact hl, h.ev _ _ _ _ _ _ _ _ _ t rr e hp⟩
      · rw [if_neg hl] at e; cases e
    | _ => cases e⟩
def sAsg (a : TgF) (m : M Loc) : M Fl := bnd m fun l => bnd (toVal l) fun d => fun s => match a d s with | some s' => .ok .nx s' | none => .stuck
theorem ev_asg {G : Gc} {gg : TG} {aa : TgF} (he : Ev G W (LRep G) te m) (hg : EvG G nf gg aa) : EvS G W nf (tAsg te gg) (sAsg aa m) := by
  intro S0 ρ s σ H E t hp
  refine he _ _ _ _ _ _ t (postS_bind hp fun x s1 _ v H1 ρ1 t1 n1 r1 hp1 => postS_toVal t1 r1 hp1 fun d s2 t2 n2 r2 hp2 => ?_)
  cases e : aa d s2 with
  | none => simp only [e] at hp2; exact hp2.elim
  | some s3 =>
    simp only [e] at hp2
    exact hg S0 ρ1 s2 σ H1 v d s3 _ t2 r2 e fun σ' t3 n3 f3 => hp2 σ' H1 ρ1 t3 n3 f3
theorem js_asg {tg : Expr} {gg : TG} {aa : TgF} (he : JE X ca W e te m) (hg : JG X ca nf tg gg aa) (hs : swapsWithSole [tg] e pos.line X.env = pure false := by rfl) (hw : swappedStores [tg] e X.env = pure none := by rfl)
    (h1 : (assignEach [tg] X.env).map (·.2) = [assign tg X.env] := by rfl) : JS X ca W nf (.Assign [tg] e pos) (tAsg te gg) (sAsg aa m) := ⟨ps_asg he.pe hg.pg hs hw h1, ev_asg he.ev hg.ev⟩
theorem js_set {i : Nat} {x : Str} {pos' : Pos} (hN : X.N.Nodup) (hi : X.N[i]? = some x) (hx : L2.Loc X.env.scope x) (he : JE X ca W e te m) (hs : swapsWith e (some (.Name x pos')) pos.line X.env = pure false := by rfl) (hf : X.fn x = true ∨ X.env.scope.names.lookup x = some .local := by first | exact .inl rfl | exact .inr rfl | assumption)
    (hnf : nf ≤ i := by decide) : JS X ca W nf (.Assign [.Name x pos'] e pos) (tAsg te (gName i)) (sAsg (gN i) m) := ⟨ps_set hN hi hx he.pe hs hf, ev_asg he.ev (ev_name hnf)⟩
end

/-! ### defs -/
section
variable {G : Gc} {S0 : Addr → Prop} {ρ ρ' : List Addr} {s s' : S} {σ σ' : L2.St} {H H' : Hp}
theorem wa_nil {a : Addr} : Wa S0 ρ [] σ a ↔ S0 a ∨ a ∈ ρ := ⟨fun w => by
  rcases w with w | w | ⟨i, d, e, _⟩
  · exact .inl w
  · exact .inr w
  · (cases e), fun w => w.elim .inl fun w => .inr (.inl w)⟩
/-- without the frame -/
theorem Sat.drop (t : Sat G S0 ρ s σ H) : Sat G S0 ρ ⟨[], s.t⟩ [] H ∧ Nx S0 ρ s.e σ H ρ [] [] H := by
  have kp : Kp S0 (Wa S0 ρ s.e σ) H (Wa S0 ρ [] []) H := ⟨fun _ _ _ e => e, fun b _ n _ w => n ((wa_nil.mp w).elim .inl fun w => .inr (.inl w)), fun _ _ _ e => e⟩
  exact ⟨⟨rfl, fun i d e => by (cases e), fun i d e => by (cases e), fun i j a d d' e => by (cases e), t.rlen, fun n a d e1 e2 => (t.sto n a d e1 e2).mono kp (List.prefix_refl _) rfl, t.nd, t.rs, t.s0⟩, kp, List.prefix_refl _⟩
/-- what a callee must not touch -/
def Sc (S0 : Addr → Prop) (e : List Slot) (σ : L2.St) (a : Addr) : Prop := S0 a ∨ ∃ (i : Nat) (d : D), e[i]? = some (.own d) ∧ σ[i]? = some (some (.ref a))
theorem wa_sc {e : List Slot} : Wa (Sc S0 e σ) ρ [] [] = Wa S0 ρ e σ := by
  funext a
  apply propext
  rw [wa_nil]
  constructor
  · rintro ((w | w) | w)
    · exact .inl w
    · exact .inr (.inr w)
    · exact .inr (.inl w)
  · rintro (w | w | w)
    · exact .inl (.inl w)
    · exact .inr w
    · exact .inl (.inr w)
theorem Sat.call (t : Sat G S0 ρ s σ H) : Sat G (Sc S0 s.e σ) ρ ⟨[], s.t⟩ [] H := by
  refine ⟨rfl, fun i d e => by (cases e), fun i d e => by (cases e), fun i j a d d' e => by (cases e), t.rlen, fun n a d e1 e2 => ?_, t.nd, fun a ha w => ?_, fun a w => ?_⟩
  · show ORep G (Wa (Sc S0 s.e σ) ρ [] []) ρ H a d
    rw [wa_sc]; exact t.sto n a d e1 e2
  · rcases w with w | ⟨i, d, e1, e2⟩
    · exact t.rs a ha w
    · obtain ⟨b, e3, _, nb, _⟩ := t.own i d e1
      rw [e2] at e3; cases e3
      exact nb ha
  · rcases w with w | ⟨i, d, e1, e2⟩
    · exact t.s0 a w
    · exact t.thereT (.inr (.inr ⟨i, d, e1, e2⟩))
theorem Sat.back (t : Sat G S0 ρ s σ H) (t' : Sat G (Sc S0 s.e σ) ρ' ⟨[], s'.t⟩ [] H') (n : Nx (Sc S0 s.e σ) ρ [] [] H ρ' [] [] H') : Sat G S0 ρ' ⟨s.e, s'.t⟩ σ H' ∧ Nx S0 ρ s.e σ H ρ' s.e σ H' := by
  have k := n.k
  rw [wa_sc, wa_sc] at k
  have kp : Kp S0 (Wa S0 ρ s.e σ) H (Wa S0 ρ' s.e σ) H' := ⟨k.keep, k.wn, fun b o w e => k.s0 b o (.inl w) e⟩
  refine ⟨⟨t.len, fun i d e => ?_, fun i d e => ?_, t.inj, t'.rlen, fun m a d e1 e2 => ?_, t'.nd, fun a ha w => t'.rs a ha (.inl w), fun a w => ?_⟩, kp, n.p⟩
  · obtain ⟨v, e1, r⟩ := t.val i d e
    exact ⟨v, e1, r.mono kp n.p⟩
  · obtain ⟨a, e1, r, n1, n2⟩ := t.own i d e
    obtain ⟨o, q⟩ := r.some
    refine ⟨a, e1, r.mono kp n.p ((k.s0 a o (.inr ⟨i, d, e, e1⟩) q).trans q.symm), fun ha => t'.rs a ha (.inr ⟨i, d, e, e1⟩), n2⟩
  · have := t'.sto m a d e1 e2
    have this : ORep G (Wa (Sc S0 s.e σ) ρ' [] []) ρ' H' a d := this
    rw [wa_sc] at this; exact this
  · obtain ⟨o, q, z⟩ := t.s0 a w
    exact ⟨o, kp.s0 a o w q, z⟩
end
def PostF (G : Gc) (S0 : Addr → Prop) (ρ : List Addr) (H : Hp) (r : Res D) (Q : VK) (E : XK) : Prop := match r with
  | .ok d s' => ∀ v H' ρ', Sat G S0 ρ' ⟨[], s'.t⟩ [] H' → Nx S0 ρ [] [] H ρ' [] [] H' → Rep G (Wa S0 ρ' [] []) ρ' H' v d → Q v H'
  | .exc x s' => ∀ c dx H' ρ', Sat G S0 ρ' ⟨[], s'.t⟩ [] H' → Nx S0 ρ [] [] H ρ' [] [] H' → XRep G (Wa S0 ρ' [] []) ρ' H' c dx x → E c dx H'
  | .stuck => False
/-- a def that computes g -/
def spM (G : Gc) (n : Nat) (g : List D → M D) : Sp := fun vs H Q E => ∃ S0 ρ t ds, vs.length = n ∧ Sat G S0 ρ ⟨[], t⟩ [] H ∧ Reps G (Wa S0 ρ [] []) ρ H vs ds ∧ PostF G S0 ρ H (g ds ⟨[], t⟩) Q E
def runB (n : Nat) (body : M Fl) (ds : List D) : M D := fun s => match body ⟨ds.map .val ++ List.replicate (n - ds.length) .no, s.t⟩ with
  | .ok (.rt d) s' => .ok d ⟨[], s'.t⟩
  | .ok .nx s' => .ok .non ⟨[], s'.t⟩
  | .exc x s' => .exc x ⟨[], s'.t⟩
  | _ => .stuck
theorem reps_slots {G : Gc} {W : Addr → Prop} {ρ : List Addr} {H : Hp} {vs : List V} {ds : List D} (r : Reps G W ρ H vs ds) (n : Nat) {i : Nat} {d : D} (e : (ds.map Slot.val ++ List.replicate n .no)[i]? = some (.val d)) :
    ∃ v, (vs.map some ++ List.replicate n none)[i]? = some (some v) ∧ Rep G W ρ H v d := by
  by_cases hi : i < ds.length
  · rw [List.getElem?_append_left (by simpa using hi), List.getElem?_map] at e
    cases z : ds[i]? with
    | none => rw [z] at e; cases e
    | some d' =>
      rw [z] at e; cases e
      obtain ⟨v, e1, r1⟩ := r.get z
      exact ⟨v, by rw [List.getElem?_append_left (by rw [List.length_map, r.length]; exact hi), List.getElem?_map, e1]; rfl, r1⟩
  · rw [List.getElem?_append_right (by simpa using hi), List.getElem?_replicate] at e
    split at e <;> cases e
theorem slots_no {ds : List D} {n i : Nat} {d : D} : (ds.map Slot.val ++ List.replicate n .no)[i]? ≠ some (.own d) := fun e => by
  by_cases hi : i < ds.length
  · rw [List.getElem?_append_left (by simpa using hi), List.getElem?_map] at e
    cases z : ds[i]? with
    | none => rw [z] at e; cases e
    | some d' => rw [z] at e; cases e
  · rw [List.getElem?_append_right (by simpa using hi), List.getElem?_replicate] at e
    split at e <;> cases e
section
variable {P : Program} {w : World} {K : PySem.W.Frag} {mg : Str → Option Value} {base : Heap}
theorem fn_mir {ca : Nat → Addr} {x qual : Str} {st : Stmt} {f : Addr} {fd : FuncData} {N ps : List Str} {k : Nat} {body : M Fl} (F : Fun K x qual st f fd) (Sp : FnScope N ps (defScope st))
    (hb : ∀ (cdv : Value) (A : Around) (outer : List PySem.Env) (s : Shared) (H : Hp) (E : XK), Room k (A.deeper (envOfC qual (defScope st) s.heap.objs.size f cdv)) →
      ∃ ts, JB (cxOf (L2.CX P w) P w K mg base N qual (defScope st) f cdv A outer s H E) ca (fun c d _ H => E c d H) 0 (defBody st) ts body) : FnOk P w K mg base (L2.CX P w) (k + 1) f fd ps (spM ⟨K, ca, w⟩ ps.length (runB N.length body)) := by
  refine F.okX Sp (fun vs H Q E h => ?_) (fun cdv A outer s H vs Q E hr h => ?_)
  · obtain ⟨_, _, _, _, hl, _⟩ := h
    exact hl
  · obtain ⟨S0, ρ, t, ds, hl, ts, r, hp⟩ := h
    obtain ⟨tt, hj⟩ := hb cdv A outer s H E hr
    refine ⟨tt, hj.pss, hj.ev S0 ρ ⟨ds.map .val ++ List.replicate (N.length - ds.length) .no, t⟩ _ H _ ?_ ?_⟩
    · have hw : Wa S0 ρ (ds.map Slot.val ++ List.replicate (N.length - ds.length) .no) (L2.start N vs) = Wa S0 ρ [] [] := by
        funext a
        apply propext
        rw [wa_nil]
        constructor
        · rintro (w | w | ⟨i, d, e, _⟩)
          · exact .inl w
          · exact .inr w
          · exact (slots_no e).elim
        · rintro (w | w)
          · exact .inl w
          · exact .inr (.inl w)
      have hvl := r.length
      refine ⟨by simp [L2.start, hvl], fun i d e => ?_, fun i d e => (slots_no e).elim, fun i j a d d' e => (slots_no e).elim, ts.rlen, fun n a d e1 e2 => ?_, ts.nd, ts.rs, ts.s0⟩
      · show ∃ v, (L2.start N vs)[i]? = some (some v) ∧ Rep _ (Wa S0 ρ (ds.map Slot.val ++ List.replicate (N.length - ds.length) .no) (L2.start N vs)) ρ H v d
        rw [hw]
        unfold L2.start
        rw [hvl]
        exact reps_slots r _ e
      · show ORep _ (Wa S0 ρ (ds.map Slot.val ++ List.replicate (N.length - ds.length) .no) (L2.start N vs)) ρ H a d
        rw [hw]
        exact ts.sto n a d e1 e2
    · have hw : ∀ b, Wa S0 ρ (ds.map Slot.val ++ List.replicate (N.length - ds.length) .no) (L2.start N vs) b → Wa S0 ρ [] [] b := fun a w => by
        rcases w with w | w | ⟨i, d, e, _⟩
        · exact .inl w
        · exact .inr (.inl w)
        · exact (slots_no e).elim
      have n0 : Nx S0 ρ [] [] H ρ (ds.map Slot.val ++ List.replicate (N.length - ds.length) .no) (L2.start N vs) H := ⟨⟨fun _ _ _ e => e, fun b _ n _ w => n (hw b w), fun _ _ _ e => e⟩, List.prefix_refl _⟩
      unfold runB at hp
      generalize body ⟨ds.map .val ++ List.replicate (N.length - ds.length) .no, t⟩ = res at hp
      cases res with
      | stuck => exact hp
      | exc x s' =>
        intro c dx σ' H' ρ' t' n' _ xr
        obtain ⟨t2, n2⟩ := t'.drop
        refine hp c dx H' ρ' t2 ((n0.trans n').trans n2) ⟨xr.1, fun fs hf => ?_⟩
        obtain ⟨a, vs, h1, h2, h3, h4, h5⟩ := xr.2 fs hf
        exact ⟨a, vs, h1, h2, n2.k.wn _ _ h3 h2, h4, h5.mono n2.k n2.p⟩
      | ok fl s' =>
        cases fl with
        | nx =>
          intro σ' H' ρ' t' n' _
          obtain ⟨t2, n2⟩ := t'.drop
          exact hp .non H' ρ' t2 ((n0.trans n').trans n2) .non
        | rt d =>
          intro v σ' H' ρ' t' n' _ rr
          obtain ⟨t2, n2⟩ := t'.drop
          exact hp v H' ρ' t2 ((n0.trans n').trans n2) (rr.mono n2.k n2.p)
        | bk => exact hp.elim
        | ct => exact hp.elim
end
/-- a call -/
def callF (g : List D → M D) (ds : List D) : M Loc := fun s => match g ds ⟨[], s.t⟩ with
  | .ok d s' => .ok (.val d) ⟨s.e, s'.t⟩
  | .exc x s' => .exc x ⟨s.e, s'.t⟩
  | .stuck => .stuck
def eCall (g : List D → M D) (ma : M (List Loc)) : M Loc := bnd ma fun ls => bnd (vals ls) fun ds => callF g ds
section
variable {G : Gc} {X : WX} {S0 : Addr → Prop} {ρ ρ1 : List Addr} {s s1 : S} {σ : L2.St} {H H1 : Hp}
theorem post_vals {β α : Type} {R : RelT β α} : ∀ {ls : List Loc} {vs : List V} {f : List D → M α} {Q2 : β → Hp → Prop} {P : Prop} {s : S}, Sat G S0 ρ s σ H → LReps G (Wa S0 ρ s.e σ) ρ H σ vs ls → Post G X R S0 ρ s σ H ((vals ls s).bind f) Q2 →
    (∀ ds s1, Sat G S0 ρ s1 σ H → Nx S0 ρ s.e σ H ρ s1.e σ H → Reps G (Wa S0 ρ s1.e σ) ρ H vs ds → Post G X R S0 ρ s1 σ H (f ds s1) Q2 → P) → P
  | [], _, f, Q2, P, s, t, .nil, hp, k => k [] s t .refl .nil hp
  | l :: ls, v :: vs, f, Q2, P, s, t, .cons r rr, hp, k => by
    have hp' : Post G X R S0 ρ s σ H ((toVal l s).bind fun d => fun s => (vals ls s).bind fun ds => f (d :: ds)) Q2 := by
      have hp : Post G X R S0 ρ s σ H (((toVal l s).bind fun d => bnd (vals ls) fun ds => ret (d :: ds)).bind f) Q2 := hp
      cases e : toVal l s with
      | ok d s1 =>
        rw [e] at hp
        show Post G X R S0 ρ s σ H ((vals ls s1).bind fun ds => f (d :: ds)) Q2
        have hp2 : Post G X R S0 ρ s σ H (((vals ls s1).bind fun ds => ret (d :: ds)).bind f) Q2 := hp
        cases e2 : vals ls s1 with
        | ok ds s2 => rw [e2] at hp2; exact hp2
        | exc x s2 => rw [e2] at hp2; exact hp2
        | stuck => rw [e2] at hp2; exact hp2
      | exc x s1 => rw [e] at hp; exact hp
      | stuck => rw [e] at hp; exact hp
    exact post_toVal t r hp' fun d s1 t1 n1 r1 hp2 => post_vals (f := fun ds => f (d :: ds)) t1 (LReps.mono rr n1.k n1.p) hp2 fun ds s2 t2 n2 bs hp3 => k (d :: ds) s2 t2 (n1.trans n2) (.cons (r1.mono n2.k n2.p) bs) hp3
/-- what a promise gives its caller -/
theorem call_post {g : List D → M D} {n : Nat} {vs : List V} {ds : List D} {Q : VK} (hn : vs.length = n) (t : Sat G S0 ρ s σ H) (r : Reps G (Wa S0 ρ s.e σ) ρ H vs ds) (hp : Post G X (LRep G) S0 ρ s σ H (callF g ds s) Q) :
    spM G n g vs H Q (fun c dx H' => X c dx σ H') := by
  refine ⟨Sc S0 s.e σ, ρ, s.t, ds, hn, t.call, by rw [wa_sc]; exact r, ?_⟩
  unfold callF at hp
  cases e : g ds ⟨[], s.t⟩ with
  | ok d s' =>
    simp only [e] at hp
    intro v H' ρ' t' n' r'
    obtain ⟨t2, n2⟩ := t.back t' n'
    exact hp v H' ρ' t2 n2 (by rw [wa_sc] at r'; exact r')
  | exc x s' =>
    simp only [e] at hp
    intro c dx H' ρ' t' n' xr
    obtain ⟨t2, n2⟩ := t.back t' n'
    exact hp c dx H' ρ' t2 n2 (by rw [wa_sc] at xr; exact xr)
  | stuck => simp only [e] at hp; exact hp
end
section
variable {X : Cx} {ca : Nat → Addr} {W : WX} {e o : Expr} {es : List Expr} {te to : TE} {tA : TA} {m mo : M Loc} {mA : M (List Loc)} {pos p apos : Pos} {k : Nat} {f : Addr} {fd : FuncData} {ps : List Str} {x : Str} {g : List D → M D}
theorem je_call (F : FnOk X.prog X.w X.K X.mg X.base (L2.CX X.prog X.w) k f fd ps (spM ⟨X.K, ca, X.w⟩ ps.length g)) (hr : Room k X.A) (hg : Gl X x) (hm : X.mg x = some (.ref f)) (hk : PySem.W.keepIn X.K (.ref f) = true) (hb : Binds X.K fd ps []) (tk : Takes X W)
    (ha : JA X ca W (e :: es) tA mA) (hn : (e :: es).length = ps.length := by rfl) (hdb : (x == ("__debug__" : Str)) = false := by decide) (he : starEach (e :: es) X.env = (false, eval e X.env) :: starEach es X.env := by rfl) (hpl : (backTo pos (starEach es X.env)).any (·.1) = false := by rfl) :
    JE X ca W (.Call (.Name x p) (e :: es) [] pos) (tCallSD (spM ⟨X.K, ca, X.w⟩ ps.length g) [] (fun σ c dx H' => W c dx σ H') tA) (eCall g mA) := by
  refine ⟨pe_callSD F hr hg hm hk hb .nil (fun σ => passAt tk σ) ha.pa hdb he hpl, fun S0 ρ s σ H Q t hp => ?_⟩
  refine ha.ev _ _ _ _ _ _ t (post_bind hp fun ls s1 e1 vs H1 ρ1 t1 n1 r1 hp1 => post_vals t1 r1 hp1 fun ds s2 t2 n2 r2 hp2 => ?_)
  rw [List.append_nil]
  refine call_post ?_ t2 r2 hp2
  rw [← hn, ← ha.len _ _ _ e1]
  exact Paired.length r1
end
end Mi

namespace Mi
open PySem PySem.Spec PyProof.Rows L2

/-! ### new mutable things -/
def S1 (S0 : Addr → Prop) (a : Addr) : Addr → Prop := fun b => S0 b ∨ b = a
section
variable {G : Gc} {X : WX} {S0 : Addr → Prop} {ρ ρ' : List Addr} {s s' : S} {σ σ' : L2.St} {H H' : Hp} {a p : Addr} {d : D} {i : Nat} {e : List Slot}
theorem wa_s1 : Wa (S1 S0 a) ρ e σ p ↔ Wa S0 ρ e σ p ∨ p = a := by
  constructor
  · rintro ((w | w) | w | w)
    · exact .inl (.inl w)
    · exact .inr w
    · exact .inl (.inr (.inl w))
    · exact .inl (.inr (.inr w))
  · rintro ((w | w | w) | w)
    · exact .inl (.inl w)
    · exact .inr (.inl w)
    · exact .inr (.inr w)
    · exact .inl (.inr w)
theorem Sat.laid {o : HO} (t : Sat G S0 ρ s σ H) (n : H p = none) (nt : noT o := by exact fun _ z => nomatch z) : Sat G (S1 S0 p) ρ s σ (upd H p o) ∧ Kp S0 (Wa S0 ρ s.e σ) H (Wa (S1 S0 p) ρ s.e σ) (upd H p o) ∧ ¬ Wa S0 ρ s.e σ p := by
  have ext : Ext H (upd H p o) := .new n
  have ne : ∀ {b : Addr}, (∃ u, H b = some u) → b ≠ p := fun {b} ⟨u, h⟩ z => by subst z; rw [n] at h; (cases h)
  have kp : Kp S0 (Wa S0 ρ s.e σ) H (Wa (S1 S0 p) ρ s.e σ) (upd H p o) := ⟨fun b u _ h => ext b u h, fun b u nw h w => (wa_s1.mp w).elim nw (ne ⟨u, h⟩), fun b u _ h => ext b u h⟩
  refine ⟨⟨t.len, fun i d e => ?_, fun i d e => ?_, t.inj, t.rlen, fun m a d e1 e2 => ?_, t.nd, fun a ha w => ?_, fun a w => ?_⟩, kp, t.free n⟩
  · obtain ⟨v, e1, r⟩ := t.val i d e
    exact ⟨v, e1, r.mono kp (List.prefix_refl _)⟩
  · obtain ⟨a, e1, r, n1, n2⟩ := t.own i d e
    exact ⟨a, e1, r.mono kp (List.prefix_refl _) (upd_ne (ne r.some)), n1, fun w => w.elim n2 (ne r.some)⟩
  · have r := t.sto m a d e1 e2
    exact r.mono kp (List.prefix_refl _) (upd_ne (ne r.some))
  · rcases w with w | w
    · exact t.rs a ha w
    · exact ne (t.there (.inr (.inl ha))) w
  · rcases w with w | w
    · obtain ⟨u, h, z⟩ := t.s0 a w
      exact ⟨u, ext a u h, z⟩
    · subst w; exact ⟨o, upd_same, nt⟩
theorem Sat.unlock (t : Sat G (S1 S0 a) ρ s σ H) : Sat G S0 ρ s σ H ∧ Kp S0 (Wa (S1 S0 a) ρ s.e σ) H (Wa S0 ρ s.e σ) H := by
  have kp : Kp S0 (Wa (S1 S0 a) ρ s.e σ) H (Wa S0 ρ s.e σ) H := ⟨fun _ _ _ h => h, fun b _ n _ w => n (wa_s1.mpr (.inl w)), fun _ _ _ h => h⟩
  exact ⟨⟨t.len, fun i d e => let ⟨v, e1, r⟩ := t.val i d e; ⟨v, e1, r.mono kp (List.prefix_refl _)⟩, fun i d e => let ⟨b, e1, r, n1, n2⟩ := t.own i d e; ⟨b, e1, r.mono kp (List.prefix_refl _) rfl, n1, fun w => n2 (.inl w)⟩,
    t.inj, t.rlen, fun m b d e1 e2 => (t.sto m b d e1 e2).mono kp (List.prefix_refl _) rfl, t.nd, fun b hb w => t.rs b hb (.inl w), fun b w => t.s0 b (.inl w)⟩, kp⟩
/-- a new thing in a slot -/
theorem Sat.setOwn (t : Sat G (S1 S0 a) ρ s σ H) (nw : ¬ Wa S0 ρ s.e σ a) (r : ORep G (Wa (S1 S0 a) ρ s.e σ) ρ H a d) (hi : i < σ.length) :
    Sat G S0 ρ ⟨s.e.set i (.own d), s.t⟩ (σ.set i (some (.ref a))) H ∧ Kp S0 (Wa (S1 S0 a) ρ s.e σ) H (Wa S0 ρ (s.e.set i (.own d)) (σ.set i (some (.ref a)))) H := by
  have sub : ∀ b, Wa S0 ρ (s.e.set i (.own d)) (σ.set i (some (.ref a))) b → Wa (S1 S0 a) ρ s.e σ b := fun b w => by
    rcases w with w | w | ⟨j, d', e1, e2⟩
    · exact .inl (.inl w)
    · exact .inr (.inl w)
    · rcases getset e1 with ⟨rfl, z⟩ | ⟨ne, e1⟩
      · rw [List.getElem?_set_self hi] at e2
        cases e2
        exact .inl (.inr rfl)
      · rw [List.getElem?_set_ne (Ne.symm ne)] at e2
        exact .inr (.inr ⟨j, d', e1, e2⟩)
  have kp : Kp S0 (Wa (S1 S0 a) ρ s.e σ) H (Wa S0 ρ (s.e.set i (.own d)) (σ.set i (some (.ref a)))) H := ⟨fun _ _ _ h => h, fun b _ n _ w => n (sub b w), fun _ _ _ h => h⟩
  have oth : ∀ {j : Nat} {d' : D} {b : Addr}, s.e[j]? = some (.own d') → σ[j]? = some (some (.ref b)) → b ≠ a := fun {j d' b} e1 e2 z => by
    subst z
    exact nw (.inr (.inr ⟨j, d', e1, e2⟩))
  refine ⟨⟨by simpa using t.len, fun j d' e => ?_, fun j d' e => ?_, fun j k b d1 d2 e1 e2 e3 e4 => ?_, t.rlen, fun m b d' e1 e2 => (t.sto m b d' e1 e2).mono kp (List.prefix_refl _) rfl, t.nd, fun b hb w => t.rs b hb (.inl w), fun b w => t.s0 b (.inl w)⟩, kp⟩
  · rcases getset e with ⟨rfl, z⟩ | ⟨ne, e⟩
    · cases z
    · obtain ⟨v, e1, q⟩ := t.val j d' e
      exact ⟨v, by rw [List.getElem?_set_ne (Ne.symm ne)]; exact e1, q.mono kp (List.prefix_refl _)⟩
  · rcases getset e with ⟨rfl, z⟩ | ⟨ne, e⟩
    · cases z
      exact ⟨a, List.getElem?_set_self hi, r.mono kp (List.prefix_refl _) rfl, fun ha => nw (.inr (.inl ha)), fun w => nw (.inl w)⟩
    · obtain ⟨b, e1, q, n1, n2⟩ := t.own j d' e
      exact ⟨b, by rw [List.getElem?_set_ne (Ne.symm ne)]; exact e1, q.mono kp (List.prefix_refl _) rfl, n1, fun w => n2 (.inl w)⟩
  · rcases getset e1 with ⟨hj, z⟩ | ⟨n1, f1⟩
    · rcases getset e2 with ⟨hk, z2⟩ | ⟨n2, f2⟩
      · rw [hj, hk]
      · rw [hj, List.getElem?_set_self hi] at e3
        cases e3
        rw [List.getElem?_set_ne (Ne.symm n2)] at e4
        exact (oth f2 e4 rfl).elim
    · rw [List.getElem?_set_ne (Ne.symm n1)] at e3
      rcases getset e2 with ⟨hk, z2⟩ | ⟨n2, f2⟩
      · rw [hk, List.getElem?_set_self hi] at e4
        cases e4
        exact (oth f1 e3 rfl).elim
      · rw [List.getElem?_set_ne (Ne.symm n2)] at e4
        exact t.inj j k b d1 d2 f1 f2 e3 e4
/-- a new thing in the store -/
theorem Sat.share (t : Sat G (S1 S0 a) ρ s σ H) (nw : ¬ Wa S0 ρ s.e σ a) (r : ORep G (Wa (S1 S0 a) ρ s.e σ) ρ H a d) :
    Sat G S0 (ρ ++ [a]) ⟨s.e, s.t ++ [d]⟩ σ H ∧ Kp S0 (Wa (S1 S0 a) ρ s.e σ) H (Wa S0 (ρ ++ [a]) s.e σ) H ∧ (ρ ++ [a])[s.t.length]? = some a := by
  have sub : ∀ b, Wa S0 (ρ ++ [a]) s.e σ b → Wa (S1 S0 a) ρ s.e σ b := fun b w => by
    rcases w with w | w | w
    · exact .inl (.inl w)
    · rcases List.mem_append.mp w with w | w
      · exact .inr (.inl w)
      · exact .inl (.inr (by simpa using w))
    · exact .inr (.inr w)
  have kp : Kp S0 (Wa (S1 S0 a) ρ s.e σ) H (Wa S0 (ρ ++ [a]) s.e σ) H := ⟨fun _ _ _ h => h, fun b _ n _ w => n (sub b w), fun _ _ _ h => h⟩
  have pr : ρ <+: ρ ++ [a] := List.prefix_append _ _
  have na : a ∉ ρ := fun ha => nw (.inr (.inl ha))
  refine ⟨⟨t.len, fun i d e => let ⟨v, e1, r⟩ := t.val i d e; ⟨v, e1, r.mono kp pr⟩, fun i d' e => ?_, t.inj, by simp [t.rlen], fun m b d' e1 e2 => ?_, ?_, fun b hb w => ?_, fun b w => t.s0 b (.inl w)⟩, kp, by rw [← t.rlen]; simp⟩
  · obtain ⟨b, e1, q, n1, n2⟩ := t.own i d' e
    refine ⟨b, e1, q.mono kp pr rfl, fun hb => ?_, fun w => n2 (.inl w)⟩
    rcases List.mem_append.mp hb with hb | hb
    · exact n1 hb
    · have : b = a := by simpa using hb
      exact n2 (.inr this)
  · by_cases hm : m < ρ.length
    · rw [List.getElem?_append_left hm] at e1
      have e2 : (s.t ++ [d])[m]? = some d' := e2
      rw [List.getElem?_append_left (by rw [← t.rlen]; exact hm)] at e2
      exact (t.sto m b d' e1 e2).mono kp pr rfl
    · have e2 : (s.t ++ [d])[m]? = some d' := e2
      have hm2 : m = ρ.length := by
        have := (List.getElem?_eq_some_iff.mp e1).1
        rw [List.length_append, List.length_singleton] at this
        omega
      subst hm2
      rw [List.getElem?_append_right (Nat.le_refl _)] at e1
      simp at e1
      subst e1
      rw [t.rlen, List.getElem?_append_right (Nat.le_refl _)] at e2
      simp at e2
      subst e2
      exact r.mono kp pr rfl
  · rw [List.nodup_append]
    refine ⟨t.nd, by simp, fun x hx y hy z => ?_⟩
    have : y = a := by simpa using hy
    subst this; subst z
    exact na hx
  · rcases List.mem_append.mp hb with hb | hb
    · exact t.rs b hb (.inl w)
    · have : b = a := by simpa using hb
      subst this
      exact nw (.inl w)
end
def PostN (G : Gc) (X : WX) (S0 : Addr → Prop) (ρ : List Addr) (s : S) (σ : L2.St) (H : Hp) (r : Res D) (Q : VK) : Prop := match r with
  | .ok d s' => ∀ a H' ρ', Sat G (S1 S0 a) ρ' s' σ H' → Kp S0 (Wa S0 ρ s.e σ) H (Wa (S1 S0 a) ρ' s'.e σ) H' → ρ <+: ρ' → ¬ Wa S0 ρ' s'.e σ a → ORep G (Wa (S1 S0 a) ρ' s'.e σ) ρ' H' a d → Q (.ref a) H'
  | .exc x s' => ∀ c dx H' ρ', Sat G S0 ρ' s' σ H' → Nx S0 ρ s.e σ H ρ' s'.e σ H' → XRep G (Wa S0 ρ' s'.e σ) ρ' H' c dx x → X c dx σ H'
  | .stuck => False
def EvN (G : Gc) (X : WX) (te : TE) (m : M D) : Prop := ∀ S0 ρ s σ H Q, Sat G S0 ρ s σ H → PostN G X S0 ρ s σ H (m s) Q → te σ H Q
structure JN (X : Cx) (ca : Nat → Addr) (W : WX) (e : Expr) (te : TE) (m : M D) : Prop where
  pe : PE X e te
  ev : EvN ⟨X.K, ca, X.w⟩ W te m
section
variable {G : Gc} {X : WX} {S0 : Addr → Prop} {ρ ρ1 : List Addr} {s s1 : S} {σ : L2.St} {H H1 : Hp}
theorem PostN.from {r : Res D} {Q : VK} (h : PostN G X S0 ρ s σ H r Q) (n : Nx S0 ρ s.e σ H ρ1 s1.e σ H1) : PostN G X S0 ρ1 s1 σ H1 r Q := by
  cases r with
  | ok a s' => exact fun a H' ρ' t k p => h a H' ρ' t (n.k.trans k) (n.p.trans p)
  | exc x s' => exact fun c dx H' ρ' t n' q => h c dx H' ρ' t (n.trans n') q
  | stuck => exact h
end
/-- a family of wishes over results, by the state -/
structure Ws (G : Gc) (X : WX) (S0 : Addr → Prop) (σ : L2.St) (γ : Type) where
  pp : List Addr → S → Hp → Res γ → Prop
  fr : ∀ {ρ ρ1 : List Addr} {s s1 : S} {H H1 : Hp} {r : Res γ}, pp ρ s H r → Nx S0 ρ s.e σ H ρ1 s1.e σ H1 → pp ρ1 s1 H1 r
  ex : ∀ {ρ : List Addr} {s s' : S} {H : Hp} {x : Xn}, pp ρ s H (.exc x s') → ∀ c dx H' ρ', Sat G S0 ρ' s' σ H' → Nx S0 ρ s.e σ H ρ' s'.e σ H' → XRep G (Wa S0 ρ' s'.e σ) ρ' H' c dx x → X c dx σ H'
  sk : ∀ {ρ : List Addr} {s : S} {H : Hp}, ¬ pp ρ s H .stuck
def wE {β α : Type} {G : Gc} {X : WX} {S0 : Addr → Prop} {σ : L2.St} (R : RelT β α) (Q : β → Hp → Prop) : Ws G X S0 σ α := ⟨fun ρ s H r => Post G X R S0 ρ s σ H r Q, Post.from, fun h => h, fun h => h⟩
def wS {nf : Nat} {G : Gc} {X : WX} {S0 : Addr → Prop} {σ : L2.St} (E : Ends) : Ws G X S0 σ Fl := ⟨fun ρ s H r => PostS G X nf S0 ρ s σ H r E, PostS.from, fun h c dx H' ρ' t n => h c dx σ H' ρ' t n .refl, fun h => h⟩
def wN {G : Gc} {X : WX} {S0 : Addr → Prop} {σ : L2.St} (Q : VK) : Ws G X S0 σ D := ⟨fun ρ s H r => PostN G X S0 ρ s σ H r Q, PostN.from, fun h => h, fun h => h⟩
section
variable {G : Gc} {X : WX} {S0 : Addr → Prop} {ρ ρ1 : List Addr} {s s1 : S} {σ : L2.St} {H H1 : Hp} {γ : Type} {α : Type} (w : Ws G X S0 σ γ)
theorem Ws.bind {β : Type} {R1 : RelT β α} {m : Res α} {f : α → M γ} {Q1 : β → Hp → Prop} (hp : w.pp ρ s H (m.bind f))
    (k : ∀ a s1, m = .ok a s1 → ∀ b H1 ρ1, Sat G S0 ρ1 s1 σ H1 → Nx S0 ρ s.e σ H ρ1 s1.e σ H1 → R1 (Wa S0 ρ1 s1.e σ) ρ1 H1 σ b a → w.pp ρ1 s1 H1 (f a s1) → Q1 b H1) : Post G X R1 S0 ρ s σ H m Q1 := by
  cases m with
  | ok a s1 => exact fun b H1 ρ1 t n q => k a s1 rfl b H1 ρ1 t n q (w.fr hp n)
  | exc x s1 => exact w.ex hp
  | stuck => exact w.sk hp
theorem Ws.toVal {l : Loc} {f : D → M γ} {v : V} {P : Prop} (t : Sat G S0 ρ s σ H) (r : LRep G (Wa S0 ρ s.e σ) ρ H σ v l) (hp : w.pp ρ s H ((toVal l s).bind f))
    (k : ∀ d s1, Sat G S0 ρ s1 σ H → Nx S0 ρ s.e σ H ρ s1.e σ H → Rep G (Wa S0 ρ s1.e σ) ρ H v d → w.pp ρ s1 H (f d s1) → P) : P := by
  cases l with
  | val d => exact k d s t .refl r hp
  | own i =>
    have r' : σ[i]? = some (some v) := r
    unfold Mi.toVal at hp
    cases e : s.e[i]? with
    | none => simp only [e] at hp; exact (w.sk hp).elim
    | some sl =>
      cases sl with
      | no => simp only [e] at hp; exact (w.sk hp).elim
      | val d =>
        simp only [e] at hp
        obtain ⟨v', e1, q⟩ := t.val i d e
        rw [r'] at e1; cases e1
        exact k d s t .refl q hp
      | own d =>
        simp only [e] at hp
        obtain ⟨t1, n1⟩ := t.freeze e
        obtain ⟨v', e1, q⟩ := t1.val i d (List.getElem?_set_self (List.getElem?_eq_some_iff.mp e).1)
        rw [r'] at e1; cases e1
        exact k d _ t1 n1 q (w.fr hp n1)
theorem Ws.cont {l : Loc} {f : D → M γ} {v : V} {P : Prop} (t : Sat G S0 ρ s σ H) (r : LRep G (Wa S0 ρ s.e σ) ρ H σ v l) (hp : w.pp ρ s H ((cont l s).bind f))
    (k : ∀ d, (Rep G (Wa S0 ρ s.e σ) ρ H v d ∨ ∃ a, v = .ref a ∧ ORep G (Wa S0 ρ s.e σ) ρ H a d) → cont l s = .ok d s → w.pp ρ s H (f d s) → P) : P := by
  cases l with
  | val d =>
    cases d with
    | ptr n =>
      cases e : s.t[n]? with
      | none =>
        have c : Mi.cont (.val (.ptr n)) s = .stuck := by simp only [Mi.cont, e]
        rw [c] at hp; exact (w.sk hp).elim
      | some d =>
        have c : Mi.cont (.val (.ptr n)) s = .ok d s := by simp only [Mi.cont, e]
        rw [c] at hp
        have r' : Rep G (Wa S0 ρ s.e σ) ρ H v (.ptr n) := r
        cases r' with
        | ptr h => exact k d (.inr ⟨_, rfl, t.sto n _ d h e⟩) c hp
    | _ => exact k _ (.inl r) rfl hp
  | own i =>
    have r' : σ[i]? = some (some v) := r
    cases e : s.e[i]? with
    | none =>
      have c : Mi.cont (.own i) s = .stuck := by simp only [Mi.cont, e]
      rw [c] at hp; exact (w.sk hp).elim
    | some sl =>
      cases sl with
      | no =>
        have c : Mi.cont (.own i) s = .stuck := by simp only [Mi.cont, e]
        rw [c] at hp; exact (w.sk hp).elim
      | val d =>
        have c : Mi.cont (.own i) s = .stuck := by simp only [Mi.cont, e]
        rw [c] at hp; exact (w.sk hp).elim
      | own d =>
        have c : Mi.cont (.own i) s = .ok d s := by simp only [Mi.cont, e]
        rw [c] at hp
        obtain ⟨a, e1, q, _⟩ := t.own i d e
        rw [r'] at e1; cases e1
        exact k d (.inr ⟨a, rfl, q⟩) c hp
theorem bind_assoc {β γ : Type} {r : Res α} {f : α → M β} {g : β → M γ} : (r.bind f).bind g = r.bind fun a => bnd (f a) g := by
  cases r <;> rfl
theorem Ws.conts : ∀ {ls : List Loc} {vs : List V} {f : List D → M γ} {P : Prop}, Sat G S0 ρ s σ H → LReps G (Wa S0 ρ s.e σ) ρ H σ vs ls → w.pp ρ s H ((conts ls s).bind f) →
    (∀ ds, BRs G (Wa S0 ρ s.e σ) ρ H vs ds → w.pp ρ s H (f ds s) → P) → P
  | [], _, f, P, t, .nil, hp, k => k [] .nil hp
  | l :: ls, v :: vs, f, P, t, .cons r rr, hp, k => by
    have hp' : w.pp ρ s H ((Mi.cont l s).bind fun d => bnd (bnd (Mi.conts ls) fun ds => ret (d :: ds)) f) := by
      have hp : w.pp ρ s H (((Mi.cont l s).bind fun d => bnd (Mi.conts ls) fun ds => ret (d :: ds)).bind f) := hp
      rw [bind_assoc] at hp; exact hp
    refine w.cont t r hp' fun d b _ hp2 => ?_
    have hp2 : w.pp ρ s H (((Mi.conts ls s).bind fun ds => ret (d :: ds)).bind f) := hp2
    rw [bind_assoc] at hp2
    exact Ws.conts (f := fun ds => bnd (ret (d :: ds)) f) t rr hp2 fun ds bs hp3 => k (d :: ds) (.cons b bs) hp3
theorem Ws.vals : ∀ {ls : List Loc} {vs : List V} {f : List D → M γ} {P : Prop} {s : S}, Sat G S0 ρ s σ H → LReps G (Wa S0 ρ s.e σ) ρ H σ vs ls → w.pp ρ s H ((vals ls s).bind f) →
    (∀ ds s1, Sat G S0 ρ s1 σ H → Nx S0 ρ s.e σ H ρ s1.e σ H → Reps G (Wa S0 ρ s1.e σ) ρ H vs ds → w.pp ρ s1 H (f ds s1) → P) → P
  | [], _, f, P, s, t, .nil, hp, k => k [] s t .refl .nil hp
  | l :: ls, v :: vs, f, P, s, t, .cons r rr, hp, k => by
    have hp' : w.pp ρ s H ((Mi.toVal l s).bind fun d => bnd (bnd (Mi.vals ls) fun ds => ret (d :: ds)) f) := by
      have hp : w.pp ρ s H (((Mi.toVal l s).bind fun d => bnd (Mi.vals ls) fun ds => ret (d :: ds)).bind f) := hp
      rw [bind_assoc] at hp; exact hp
    refine w.toVal t r hp' fun d s1 t1 n1 r1 hp2 => ?_
    have hp2 : w.pp ρ s1 H (((Mi.vals ls s1).bind fun ds => ret (d :: ds)).bind f) := hp2
    rw [bind_assoc] at hp2
    exact Ws.vals (f := fun ds => bnd (ret (d :: ds)) f) t1 (LReps.mono rr n1.k n1.p) hp2 fun ds s2 t2 n2 bs hp3 => k (d :: ds) s2 t2 (n1.trans n2) (.cons (r1.mono n2.k n2.p) bs) hp3
end
/-- frozen at once | kept in a slot | put into the store -/
def eFrz (m : M D) : M Loc := bnd m fun d => ret (.val d)
def ePtr (m : M D) : M Loc := bnd m fun d => fun s => .ok (.val (.ptr s.t.length)) ⟨s.e, s.t ++ [d]⟩
def sOwn (i : Nat) (m : M D) : M Fl := bnd m fun d => fun s => if i < s.e.length then .ok .nx ⟨s.e.set i (.own d), s.t⟩ else .stuck
section
variable {G : Gc} {X : Cx} {ca : Nat → Addr} {W : WX} {e : Expr} {es : List Expr} {te : TE} {tA : TA} {m : M D} {mA : M (List Loc)} {pos p : Pos}
theorem ev_frz (h : EvN G W te m) : Ev G W (LRep G) te (eFrz m) := by
  intro S0 ρ s σ H Q t hp
  refine h _ _ _ _ _ _ t ?_
  have hp : Post G W (LRep G) S0 ρ s σ H ((m s).bind fun d => ret (.val d)) Q := hp
  cases z : m s with
  | stuck => rw [z] at hp; exact hp
  | exc x s1 => rw [z] at hp; exact hp
  | ok d s1 =>
    rw [z] at hp
    intro a H' ρ' t1 k p nw r
    obtain ⟨t2, k2⟩ := t1.unlock
    exact hp _ _ _ t2 ⟨⟨(k.trans ⟨k2.keep, k2.wn, fun b o w e => k2.s0 b o w e⟩).keep, (k.trans ⟨k2.keep, k2.wn, fun b o w e => k2.s0 b o w e⟩).wn, k.s0⟩, p⟩ ((r.mono k2 (List.prefix_refl _) rfl).rep nw)
theorem ev_ptr (h : EvN G W te m) : Ev G W (LRep G) te (ePtr m) := by
  intro S0 ρ s σ H Q t hp
  refine h _ _ _ _ _ _ t ?_
  have hp : Post G W (LRep G) S0 ρ s σ H ((m s).bind fun d => fun s => .ok (.val (.ptr s.t.length)) ⟨s.e, s.t ++ [d]⟩) Q := hp
  cases z : m s with
  | stuck => rw [z] at hp; exact hp
  | exc x s1 => rw [z] at hp; exact hp
  | ok d s1 =>
    rw [z] at hp
    intro a H' ρ' t1 k p nw r
    obtain ⟨t2, k2, e2⟩ := t1.share nw r
    exact hp _ _ _ t2 ⟨k.trans k2, p.trans (List.prefix_append _ _)⟩ (.ptr e2)
theorem ev_own {nf i : Nat} (hf : nf ≤ i) (h : EvN G W te m) : EvS G W nf (tAsg te (gName i)) (sOwn i m) := by
  intro S0 ρ s σ H E t hp
  refine h _ _ _ _ _ _ t ?_
  have hp : PostS G W nf S0 ρ s σ H ((m s).bind fun d => fun s => if i < s.e.length then .ok .nx ⟨s.e.set i (.own d), s.t⟩ else .stuck) E := hp
  cases z : m s with
  | stuck => rw [z] at hp; exact hp
  | exc x s1 => rw [z] at hp; exact fun c dx H' ρ' t n q => hp c dx σ H' ρ' t n .refl q
  | ok d s1 =>
    rw [z] at hp
    intro a H' ρ' t1 k p nw r
    have hp : PostS G W nf S0 ρ s σ H (if i < s1.e.length then .ok .nx ⟨s1.e.set i (.own d), s1.t⟩ else .stuck) E := hp
    by_cases hi : i < s1.e.length
    · rw [if_pos hi] at hp
      obtain ⟨t2, k2⟩ := t1.setOwn (i := i) nw r (by rw [← t1.len]; exact hi)
      exact hp _ _ _ t2 ⟨k.trans k2, p⟩ (.set hf)
    · rw [if_neg hi] at hp; exact hp.elim
theorem JN.frz (h : JN X ca W e te m) : JE X ca W e te (eFrz m) := ⟨h.pe, ev_frz h.ev⟩
theorem JN.ptr (h : JN X ca W e te m) : JE X ca W e te (ePtr m) := ⟨h.pe, ev_ptr h.ev⟩
theorem js_own {nf i : Nat} {x : Str} {pos' : Pos} (hN : X.N.Nodup) (hi : X.N[i]? = some x) (hx : L2.Loc X.env.scope x) (he : JN X ca W e te m) (hs : swapsWith e (some (.Name x pos')) pos.line X.env = pure false := by rfl) (hf : X.fn x = true ∨ X.env.scope.names.lookup x = some .local := by first | exact .inl rfl | exact .inr rfl | assumption)
    (hnf : nf ≤ i := by decide) : JS X ca W nf (.Assign [.Name x pos'] e pos) (tAsg te (gName i)) (sOwn i m) := ⟨ps_set hN hi hx he.pe hs hf, ev_own hnf he.ev⟩

/-! displays -/
def nLst (ma : M (List Loc)) : M D := bnd ma fun ls => bnd (vals ls) fun ds => fun s => if ds.length ≤ lim then .ok (.lst ds) s else .stuck
theorem laid_lst {G : Gc} {X : WX} {S0 : Addr → Prop} {ρ : List Addr} {s : S} {σ : L2.St} {H : Hp} {vs : List V} {ds : List D} {Q : VK} {p : Addr} (t : Sat G S0 ρ s σ H) (r : Reps G (Wa S0 ρ s.e σ) ρ H vs ds) (hp : PostN G X S0 ρ s σ H (.ok (.lst ds) s) Q) (n : H p = none) :
    Q (.ref p) (upd H p (.lst vs)) := by
  obtain ⟨t1, k1, nw⟩ := t.laid (o := .lst vs) n
  exact hp p _ ρ t1 k1 (List.prefix_refl _) nw (.lst upd_same (r.mono k1 (List.prefix_refl _)))
theorem jn_lst (ha : JA X ca W es tA mA) : JN X ca W (.List es pos) (tLst tA) (nLst mA) := by
  refine ⟨pe_lst ha.pa, fun S0 ρ s σ H Q t hp => ?_⟩
  refine ha.ev _ _ _ _ _ _ t ((wN Q).bind hp fun ls s1 _ vs H1 ρ1 t1 n1 r1 hp1 => (wN Q).vals t1 r1 hp1 fun ds s2 t2 n2 r2 hp2 => ?_)
  have hp2 : PostN ⟨X.K, ca, X.w⟩ W S0 ρ1 s2 σ H1 (if ds.length ≤ lim then .ok (.lst ds) s2 else .stuck) Q := hp2
  by_cases hl : ds.length ≤ lim
  · rw [if_pos hl] at hp2
    exact ⟨lim_line (by rw [r2.length]; exact hl), fun p n => laid_lst t2 r2 hp2 n⟩
  · rw [if_neg hl] at hp2; exact hp2.elim
def eTup (ma : M (List Loc)) : M Loc := bnd ma fun ls => bnd (vals ls) fun ds => fun s => if ds.length ≤ lim then .ok (.val (.tup ds)) s else .stuck
theorem je_tup {k : Nat} (ha : JA X ca W es tA mA) : JE X ca W (.Tuple es k pos) (tTup tA) (eTup mA) := by
  refine ⟨pe_tup ha.pa, fun S0 ρ s σ H Q t hp => ?_⟩
  refine ha.ev _ _ _ _ _ _ t (post_bind hp fun ls s1 _ vs H1 ρ1 t1 n1 r1 hp1 => post_vals t1 r1 hp1 fun ds s2 t2 n2 r2 hp2 => ?_)
  have hp2 : Post ⟨X.K, ca, X.w⟩ W (LRep ⟨X.K, ca, X.w⟩) S0 ρ1 s2 σ H1 (if ds.length ≤ lim then .ok (.val (.tup ds)) s2 else .stuck) Q := hp2
  by_cases hl : ds.length ≤ lim
  · rw [if_pos hl] at hp2
    exact ⟨lim_line (by rw [r2.length]; exact hl), fun p n => hp2 _ _ ρ1 (t2.grow (Ext.new n)).1 ⟨(t2.grow (Ext.new n)).2, List.prefix_refl _⟩ (new_tup t2.tk n r2)⟩
  · rw [if_neg hl] at hp2; exact hp2.elim
theorem jn_dicK : JN X ca W (.Dict [] [] pos) tDNewK (ret (.dic [])) := ⟨pe_dnewK, fun S0 ρ s σ H Q t hp p n => by
  obtain ⟨t1, k1, nw⟩ := t.laid (o := .dK []) n
  exact hp p _ ρ t1 k1 (List.prefix_refl _) nw (.dic upd_same rfl .nil)⟩
theorem jn_dicT : JN X ca W (.Dict [] [] pos) tDNewT (ret (.dit [])) := ⟨pe_dnewT, fun S0 ρ s σ H Q t hp p n => by
  obtain ⟨t1, k1, nw⟩ := t.laid (o := .dT []) n
  exact hp p _ ρ t1 k1 (List.prefix_refl _) nw (.dit upd_same rfl .nil)⟩
/-- built-ins that hand back a new list -/
def SpCN (G : Gc) (r : List V → Hp → VK → Prop) (f : List D → Option (List D)) : Prop := ∀ (W : Addr → Prop) (ρ : List Addr) (H : Hp) (xs : List V) (ds es : List D) (Q : VK), Tk W H → BRs G W ρ H xs ds → f ds = some es →
  (∀ p vs, H p = none → Reps G W ρ H vs es → Q (.ref p) (upd H p (.lst vs))) → r xs H Q
def nC (f : List D → Option (List D)) (ma : M (List Loc)) : M D := bnd ma fun ls => bnd (conts ls) fun ds => fun s => match f ds with | some es => .ok (.lst es) s | none => .stuck
theorem ev_nC {r : List V → Hp → VK → Prop} {f : List D → Option (List D)} (sp : SpCN G r f) (ha : Ev G W (LReps G) tA mA) : EvN G W (tCB r tA) (nC f mA) := by
  intro S0 ρ s σ H Q t hp
  refine ha _ _ _ _ _ _ t ((wN Q).bind hp fun ls s1 _ vs H1 ρ1 t1 n1 r1 hp1 => (wN Q).conts t1 r1 hp1 fun ds bs hp2 => ?_)
  cases e : f ds with
  | none => simp only [e] at hp2; exact hp2.elim
  | some es =>
    simp only [e] at hp2
    exact sp _ _ _ _ _ _ _ t1.tk bs e fun p us n r => laid_lst (X := W) t1 r hp2 n
theorem jn_callTy {x : Str} {T : String} {r : List V → Hp → VK → Prop} {f : List D → Option (List D)} (hc : CallR X (.type T) r) (sp : SpCN ⟨X.K, ca, X.w⟩ r f) (hg : Gl X x) (hm : X.mg x = none) (hv : bootBuiltins x = some (.type T)) (ha : JA X ca W (e :: es) tA mA) (hn : x ≠ "__name__" := by decide) (hdb : (x == ("__debug__" : Str)) = false := by decide)
    (he : starEach (e :: es) X.env = (false, eval e X.env) :: starEach es X.env := by rfl) (hpl : (backTo pos (starEach es X.env)).any (·.1) = false := by rfl) : JN X ca W (.Call (.Name x p) (e :: es) [] pos) (tCB r tA) (nC f mA) :=
  ⟨pe_callTy hc hg hm hv ha.pa hn hdb he hpl, ev_nC sp ha.ev⟩
theorem jn_callB {x : Str} {T : String} {r : List V → Hp → VK → Prop} {f : List D → Option (List D)} (hc : CallR X (.builtin T) r) (sp : SpCN ⟨X.K, ca, X.w⟩ r f) (hg : Gl X x) (hm : X.mg x = none) (hv : bootBuiltins x = some (.builtin T)) (ha : JA X ca W (e :: es) tA mA) (hn : x ≠ "__name__" := by decide) (hdb : (x == ("__debug__" : Str)) = false := by decide)
    (he : starEach (e :: es) X.env = (false, eval e X.env) :: starEach es X.env := by rfl) (hpl : (backTo pos (starEach es X.env)).any (·.1) = false := by rfl) : JN X ca W (.Call (.Name x p) (e :: es) [] pos) (tCB r tA) (nC f mA) :=
  ⟨pe_callB hc hg hm hv ha.pa hn hdb he hpl, ev_nC sp ha.ev⟩
def listD : List D → Option (List D)
  | [.lst ds] => some ds
  | [.lck ds] => some ds
  | [.tup ds] => some ds
  | _ => none
theorem sp_list : SpCN G (fun xs H Q => ∃ p ys, xs = [.ref p] ∧ (SqL G.K H p ys ∨ SqT G.K H p ys) ∧ ∀ l, H l = none → Q (.ref l) (upd H l (.lst ys))) listD := by
  intro W ρ H xs ds es Q tk b e q
  match ds, e with
  | [.lst ds], e => obtain ⟨x, rfl, b1⟩ := brs1 b; obtain ⟨a, vs, rfl, h, r⟩ := br_lst b1; cases e; exact ⟨a, vs, rfl, .inl (.inl (.inl h)), fun l n => q l vs n r⟩
  | [.lck ds], e => obtain ⟨x, rfl, b1⟩ := brs1 b; obtain ⟨a, vs, rfl, h, r⟩ := br_lck b1; cases e; exact ⟨a, vs, rfl, .inl h, fun l n => q l vs n r⟩
  | [.tup ds], e => obtain ⟨x, rfl, b1⟩ := brs1 b; obtain ⟨a, vs, rfl, h, r, _⟩ := br_tup b1; cases e; exact ⟨a, vs, rfl, .inr h, fun l n => q l vs n r⟩
def tupleD : List D → Option D
  | [.lst ds] => some (.tup ds)
  | [.lck ds] => some (.tup ds)
  | [.tup ds] => some (.tup ds)
  | _ => none
theorem sp_tuple : SpC G (fun xs H Q => ∃ p ys, xs = [.ref p] ∧ ((SqL G.K H p ys ∧ ∀ l, H l = none → Q (.ref l) (upd H l (.tup ys))) ∨ (SqT G.K H p ys ∧ Q (.ref p) H))) tupleD := by
  intro W ρ H xs ds d Q tk b e q
  match ds, e with
  | [.lst ds], e => obtain ⟨x, rfl, b1⟩ := brs1 b; obtain ⟨a, vs, rfl, h, r⟩ := br_lst b1; cases e; exact ⟨a, vs, rfl, .inl ⟨.inl (.inl h), fun l n => q _ _ (.new n) (new_tup tk n r)⟩⟩
  | [.lck ds], e => obtain ⟨x, rfl, b1⟩ := brs1 b; obtain ⟨a, vs, rfl, h, r⟩ := br_lck b1; cases e; exact ⟨a, vs, rfl, .inl ⟨h, fun l n => q _ _ (.new n) (new_tup tk n r)⟩⟩
  | [.tup ds], e => obtain ⟨x, rfl, b1⟩ := brs1 b; obtain ⟨a, vs, rfl, h, r, z⟩ := br_tup b1; cases e; exact ⟨a, vs, rfl, .inr ⟨h, q _ _ .refl z⟩⟩
/-- int(n), abs(n), sum(ns) -/
def intD : List D → Option D
  | [.int i] => some (.int i)
  | [.bl k] => some (.int (if k then 1 else 0))
  | _ => none
theorem sp_int : SpC G (fun xs H Q => (∃ i, xs = [.int i] ∧ Q (.int i) H) ∨ ∃ k, xs = [.bl k] ∧ Q (.int (if k then 1 else 0)) H) intD := by
  intro W ρ H xs ds d Q tk b e q
  match ds, e with
  | [.int i], e => obtain ⟨x, rfl, b1⟩ := brs1 b; obtain rfl := br_int b1; cases e; exact .inl ⟨i, rfl, q _ _ .refl .int⟩
  | [.bl i], e => obtain ⟨x, rfl, b1⟩ := brs1 b; obtain rfl := br_bl b1; cases e; exact .inr ⟨i, rfl, q _ _ .refl .int⟩
def absD : List D → Option D
  | [.int i] => some (.int (if i < 0 then -i else i))
  | _ => none
theorem sp_abs : SpC G (fun xs H Q => ∃ i, xs = [.int i] ∧ Q (.int (if i < 0 then -i else i)) H) absD := by
  intro W ρ H xs ds d Q tk b e q
  match ds, e with
  | [.int i], e => obtain ⟨x, rfl, b1⟩ := brs1 b; obtain rfl := br_int b1; cases e; exact ⟨i, rfl, q _ _ .refl .int⟩
def intsD : List D → Option (List Int)
  | [] => some []
  | .int i :: r => (intsD r).map (i :: ·)
  | _ => none
theorem reps_ints {W : Addr → Prop} {ρ : List Addr} {H : Hp} : ∀ {vs : List V} {ds : List D} {ns : List Int}, Reps G W ρ H vs ds → intsD ds = some ns → vs = ns.map V.int
  | _, _, _, .nil, e => by cases e; rfl
  | _, d :: ds, ns, .cons r t, e => by
    cases d <;> first | (cases e; done) | skip
    rename_i i
    have e : (intsD ds).map (i :: ·) = some ns := e
    cases z : intsD ds with
    | none => rw [z] at e; cases e
    | some ms =>
      rw [z] at e
      cases e
      obtain rfl := br_int (.inl r)
      rw [reps_ints t z]
      rfl
def sumD : List D → Option D
  | [.lst ds] => (intsD ds).map fun ns => .int ns.sum
  | [.lck ds] => (intsD ds).map fun ns => .int ns.sum
  | _ => none
theorem sp_sum : SpC G (rSum G.K) sumD := by
  intro W ρ H xs ds d Q tk b e q
  match ds, e with
  | [.lst ds], e =>
    obtain ⟨x, rfl, b1⟩ := brs1 b; obtain ⟨a, vs, rfl, h, r⟩ := br_lst b1
    have e : (intsD ds).map (fun ns => D.int ns.sum) = some d := e
    cases z : intsD ds with
    | none => rw [z] at e; cases e
    | some ns => rw [z] at e; cases e; exact ⟨a, ns, rfl, .inl (.inl (by rw [← reps_ints r z]; exact h)), q _ _ .refl .int⟩
  | [.lck ds], e =>
    obtain ⟨x, rfl, b1⟩ := brs1 b; obtain ⟨a, vs, rfl, h, r⟩ := br_lck b1
    have e : (intsD ds).map (fun ns => D.int ns.sum) = some d := e
    cases z : intsD ds with
    | none => rw [z] at e; cases e
    | some ns => rw [z] at e; cases e; exact ⟨a, ns, rfl, by rw [← reps_ints r z]; exact h, q _ _ .refl .int⟩
end
end Mi

namespace Mi
open PySem PySem.Spec PyProof.Rows L2

/-! ### changes -/
def setc : Loc → D → M Unit
  | .own i, d, s => match s.e[i]? with | some (.own _) => .ok () ⟨s.e.set i (.own d), s.t⟩ | _ => .stuck
  | .val (.ptr n), d, s => if n < s.t.length then .ok () ⟨s.e, s.t.set n d⟩ else .stuck
  | _, _, _ => .stuck
section
variable {G : Gc} {X : WX} {S0 : Addr → Prop} {ρ ρ' : List Addr} {s s' : S} {σ σ' : L2.St} {H H' : Hp} {a p : Addr} {d d' : D} {i n : Nat} {o : HO}
theorem wa_put {e : List Slot} (h : e[i]? = some (.own d)) : Wa S0 ρ (e.set i (.own d')) σ = Wa S0 ρ e σ := by
  funext b
  apply propext
  have hl : i < e.length := (List.getElem?_eq_some_iff.mp h).1
  constructor
  · rintro (w | w | ⟨j, d2, e1, e2⟩)
    · exact .inl w
    · exact .inr (.inl w)
    · rcases getset e1 with ⟨rfl, z⟩ | ⟨_, f1⟩
      · exact .inr (.inr ⟨j, d, h, e2⟩)
      · exact .inr (.inr ⟨j, d2, f1, e2⟩)
  · rintro (w | w | ⟨j, d2, e1, e2⟩)
    · exact .inl w
    · exact .inr (.inl w)
    · by_cases hj : j = i
      · subst hj
        exact .inr (.inr ⟨j, d', List.getElem?_set_self hl, e2⟩)
      · exact .inr (.inr ⟨j, d2, by rw [List.getElem?_set_ne (Ne.symm hj)]; exact e1, e2⟩)
theorem Sat.putOwn (t : Sat G S0 ρ s σ H) (h : s.e[i]? = some (.own d)) (ha : σ[i]? = some (some (.ref a))) (r : ORep G (Wa S0 ρ s.e σ) ρ (upd H a o) a d') :
    Sat G S0 ρ ⟨s.e.set i (.own d'), s.t⟩ σ (upd H a o) ∧ Nx S0 ρ s.e σ H ρ (s.e.set i (.own d')) σ (upd H a o) := by
  have hw : Wa S0 ρ (s.e.set i (.own d')) σ = Wa S0 ρ s.e σ := wa_put h
  have wa : Wa S0 ρ s.e σ a := .inr (.inr ⟨i, d, h, ha⟩)
  obtain ⟨a', e1, _, nρ, nS⟩ := t.own i d h
  rw [ha] at e1; cases e1
  have kp : Kp S0 (Wa S0 ρ s.e σ) H (Wa S0 ρ s.e σ) (upd H a o) := ⟨fun b u nb e => by rw [upd_ne (fun z => nb (by rw [z]; exact wa))]; exact e, fun _ _ nb _ => nb, fun b u sb e => by rw [upd_ne (fun z => nS (by rw [← z]; exact sb))]; exact e⟩
  refine ⟨⟨by simpa using t.len, fun j d2 e => ?_, fun j d2 e => ?_, fun j k b d1 d2 e1 e2 e3 e4 => ?_, t.rlen, fun m b d2 e1 e2 => ?_, t.nd, t.rs, fun b w => ?_⟩, by rw [hw]; exact kp, List.prefix_refl _⟩
  · show ∃ v, σ[j]? = some (some v) ∧ Rep G (Wa S0 ρ (s.e.set i (.own d')) σ) ρ (upd H a o) v d2
    rw [hw]
    rcases getset e with ⟨_, z⟩ | ⟨_, f⟩
    · cases z
    · obtain ⟨v, e1, q⟩ := t.val j d2 f
      exact ⟨v, e1, q.mono kp (List.prefix_refl _)⟩
  · show ∃ b, σ[j]? = some (some (.ref b)) ∧ ORep G (Wa S0 ρ (s.e.set i (.own d')) σ) ρ (upd H a o) b d2 ∧ b ∉ ρ ∧ ¬ S0 b
    rw [hw]
    rcases getset e with ⟨hj, z⟩ | ⟨ne, f⟩
    · cases z
      rw [hj]
      exact ⟨a, ha, r, nρ, nS⟩
    · obtain ⟨b, e1, q, n1, n2⟩ := t.own j d2 f
      exact ⟨b, e1, q.mono kp (List.prefix_refl _) (upd_ne fun z => ne (t.inj j i a _ _ f h (by rw [← z]; exact e1) ha)), n1, n2⟩
  · have f1 : ∃ d, s.e[j]? = some (.own d) := by
      rcases getset e1 with ⟨hj, z⟩ | ⟨_, f⟩
      · exact ⟨d, by rw [hj]; exact h⟩
      · exact ⟨_, f⟩
    have f2 : ∃ d, s.e[k]? = some (.own d) := by
      rcases getset e2 with ⟨hj, z⟩ | ⟨_, f⟩
      · exact ⟨d, by rw [hj]; exact h⟩
      · exact ⟨_, f⟩
    obtain ⟨_, f1⟩ := f1
    obtain ⟨_, f2⟩ := f2
    exact t.inj j k b _ _ f1 f2 e3 e4
  · show ORep G (Wa S0 ρ (s.e.set i (.own d')) σ) ρ (upd H a o) b d2
    rw [hw]
    exact (t.sto m b d2 e1 e2).mono kp (List.prefix_refl _) (upd_ne fun z => nρ (by rw [← z]; exact List.mem_of_getElem? e1))
  · by_cases z : b = a
    · exact ⟨o, by rw [z]; exact upd_same, orep_not r⟩
    · obtain ⟨u, e, nt⟩ := t.s0 b w
      exact ⟨u, by rw [upd_ne z]; exact e, nt⟩
theorem Sat.putSto (t : Sat G S0 ρ s σ H) (ha : ρ[n]? = some a) (hn : n < s.t.length) (r : ORep G (Wa S0 ρ s.e σ) ρ (upd H a o) a d') :
    Sat G S0 ρ ⟨s.e, s.t.set n d'⟩ σ (upd H a o) ∧ Nx S0 ρ s.e σ H ρ s.e σ (upd H a o) := by
  have mem : a ∈ ρ := List.mem_of_getElem? ha
  have wa : Wa S0 ρ s.e σ a := .inr (.inl mem)
  have nS : ¬ S0 a := t.rs a mem
  have kp : Kp S0 (Wa S0 ρ s.e σ) H (Wa S0 ρ s.e σ) (upd H a o) := ⟨fun b u nb e => by rw [upd_ne (fun z => nb (by rw [z]; exact wa))]; exact e, fun _ _ nb _ => nb, fun b u sb e => by rw [upd_ne (fun z => nS (by rw [← z]; exact sb))]; exact e⟩
  refine ⟨⟨t.len, fun j d2 e => let ⟨v, e1, q⟩ := t.val j d2 e; ⟨v, e1, q.mono kp (List.prefix_refl _)⟩, fun j d2 e => ?_, t.inj, by simpa using t.rlen, fun m b d2 e1 e2 => ?_, t.nd, t.rs, fun b w => ?_⟩, kp, List.prefix_refl _⟩
  · obtain ⟨b, e1, q, n1, n2⟩ := t.own j d2 e
    exact ⟨b, e1, q.mono kp (List.prefix_refl _) (upd_ne fun z => n1 (by rw [z]; exact mem)), n1, n2⟩
  · rcases getset e2 with ⟨hm, z⟩ | ⟨ne, f⟩
    · rw [hm, ha] at e1; cases e1
      subst z
      exact r
    · refine (t.sto m b d2 e1 f).mono kp (List.prefix_refl _) (upd_ne fun z => ne ?_)
      obtain ⟨h1, q1⟩ := List.getElem?_eq_some_iff.mp e1
      obtain ⟨h2, q2⟩ := List.getElem?_eq_some_iff.mp ha
      exact (List.getElem_inj t.nd).mp (q1.trans (z.trans q2.symm))
  · by_cases z : b = a
    · exact ⟨o, by rw [z]; exact upd_same, orep_not r⟩
    · obtain ⟨u, e, nt⟩ := t.s0 b w
      exact ⟨u, by rw [upd_ne z]; exact e, nt⟩
/-- a change of what stands at a place -/
theorem post_mut {γ : Type} {w : Ws G X S0 σ γ} {l : Loc} {v : V} {f : D → M γ} {P : Prop} (t : Sat G S0 ρ s σ H) (r : LRep G (Wa S0 ρ s.e σ) ρ H σ v l) (hp : w.pp ρ s H ((cont l s).bind f))
    (fr : ∀ d, (∀ d' s', setc l d' s ≠ .ok () s') → w.pp ρ s H (f d s) → False)
    (k : ∀ a d, v = .ref a → Wa S0 ρ s.e σ a → ORep G (Wa S0 ρ s.e σ) ρ H a d → w.pp ρ s H (f d s) → (∀ o d', ORep G (Wa S0 ρ s.e σ) ρ (upd H a o) a d' → ∃ s', setc l d' s = .ok () s' ∧ Sat G S0 ρ s' σ (upd H a o) ∧ Nx S0 ρ s.e σ H ρ s'.e σ (upd H a o) ∧ Wa S0 ρ s'.e σ = Wa S0 ρ s.e σ) → P) : P := by
  refine w.cont t r hp fun d b hc hp2 => ?_
  cases l with
  | own i =>
    have r' : σ[i]? = some (some v) := r
    cases e : s.e[i]? with
    | none => exact (fr d (fun d' s' z => by simp only [setc, e] at z; cases z) hp2).elim
    | some sl =>
      cases sl with
      | no => exact (fr d (fun d' s' z => by simp only [setc, e] at z; cases z) hp2).elim
      | val _ => exact (fr d (fun d' s' z => by simp only [setc, e] at z; cases z) hp2).elim
      | own d0 =>
        have : d0 = d := by simp only [cont, e] at hc; cases hc; rfl
        subst this
        obtain ⟨a, e1, q, _⟩ := t.own i d0 e
        rw [r'] at e1; cases e1
        refine k a d0 rfl (.inr (.inr ⟨i, d0, e, r'⟩)) q hp2 fun o d' ro => ?_
        obtain ⟨t2, n2⟩ := t.putOwn e r' ro
        exact ⟨_, by simp only [setc, e], t2, n2, wa_put e⟩
  | val d0 =>
    cases d0 with
    | ptr n =>
      have r' : Rep G (Wa S0 ρ s.e σ) ρ H v (.ptr n) := r
      cases r' with
      | @ptr a _ h =>
        have hn : n < s.t.length := by rw [← t.rlen]; exact (List.getElem?_eq_some_iff.mp h).1
        have : s.t[n]? = some d := by
          cases e : s.t[n]? with
          | none => simp only [cont, e] at hc; cases hc
          | some d0 => simp only [cont, e] at hc; cases hc; rfl
        refine k a d rfl (.inr (.inl (List.mem_of_getElem? h))) (t.sto n a d h this) hp2 fun o d' ro => ?_
        obtain ⟨t2, n2⟩ := t.putSto h hn ro
        exact ⟨_, by simp only [setc, hn, if_true], t2, n2, rfl⟩
    | _ => exact (fr d (fun d' s' z => by cases z) hp2).elim
end
/-- a built-in's method that changes its object: the new content, the answer -/
def SpMu (G : Gc) (r : V → List V → Hp → VK → Prop) (f : D → List D → Option (D × D)) : Prop := ∀ (W : Addr → Prop) (ρ : List Addr) (H : Hp) (a : Addr) (xs : List V) (c : D) (ds : List D) (c' d : D) (Q : VK), W a → ORep G W ρ H a c → Reps G W ρ H xs ds → f c ds = some (c', d) →
  (∀ v o, (∀ S0, Kp S0 W H W (upd H a o) → ORep G W ρ (upd H a o) a c' ∧ Rep G W ρ (upd H a o) v d) → Q v (upd H a o)) → r (.ref a) xs H Q
def eMu (kd : D → Bool) (f : D → List D → Option (D × D)) (mo : M Loc) (ma : M (List Loc)) : M Loc := bnd mo fun l => bnd (cont l) fun c0 => if kd c0 = true then bnd ma fun ls => bnd (vals ls) fun ds => bnd (cont l) fun c => match f c ds with
  | some cd => bnd (setc l cd.1) fun _ => ret (Loc.val cd.2)
  | none => stk
  else stk
section
variable {G : Gc} {X : Cx} {ca : Nat → Addr} {W : WX} {e o : Expr} {es : List Expr} {te to : TE} {tA : TA} {m mo : M Loc} {mA : M (List Loc)} {pos p apos cpos : Pos} {T id : String} {name : Str} {r : V → List V → Hp → VK → Prop} {f : D → List D → Option (D × D)} {kd : D → Bool}
theorem kp_mut {S0 W : Addr → Prop} {H : Hp} {a : Addr} {o : HO} (wa : W a) (n : ¬ S0 a) : Kp S0 W H W (upd H a o) :=
  ⟨fun b u nb e => by rw [upd_ne (fun z => nb (by rw [z]; exact wa))]; exact e, fun _ _ nb _ => nb, fun b u sb e => by rw [upd_ne (fun z => n (by rw [← z]; exact sb))]; exact e⟩
theorem setc_exc {l : Loc} {d : D} {s s' : S} {x : Xn} : setc l d s ≠ .exc x s' := fun z2 => by
  unfold setc at z2
  split at z2
  · split at z2 <;> cases z2
  · split at z2 <;> cases z2
  · cases z2
theorem post_upd {γ : Type} {G : Gc} {X : WX} {S0 : Addr → Prop} {σ : L2.St} {ρ : List Addr} {s : S} {H : Hp} (w : Ws G X S0 σ γ) {l : Loc} {v : V} {us : List V} {ds : List D} {k : D × D → M γ} {P : Prop} (f : D → Option (D × D))
    (t : Sat G S0 ρ s σ H) (r : LRep G (Wa S0 ρ s.e σ) ρ H σ v l) (rs : Reps G (Wa S0 ρ s.e σ) ρ H us ds)
    (hp : w.pp ρ s H ((cont l s).bind fun c => match f c with | some cd => bnd (setc l cd.1) fun _ => k cd | none => stk))
    (fin : ∀ a c c' d, v = .ref a → Wa S0 ρ s.e σ a → ORep G (Wa S0 ρ s.e σ) ρ H a c → f c = some (c', d) → Reps G (Wa S0 ρ s.e σ) ρ H us ds →
      (∀ o, ((∀ S1, Kp S1 (Wa S0 ρ s.e σ) H (Wa S0 ρ s.e σ) (upd H a o) → ORep G (Wa S0 ρ s.e σ) ρ (upd H a o) a c')) → ∃ s', Sat G S0 ρ s' σ (upd H a o) ∧ Nx S0 ρ s.e σ H ρ s'.e σ (upd H a o) ∧ Wa S0 ρ s'.e σ = Wa S0 ρ s.e σ ∧ w.pp ρ s' (upd H a o) (k (c', d) s')) → P) : P := by
  refine post_mut (w := w) t r hp (fun d no hp4 => ?_) fun a c ev wa oc hp4 up => ?_
  · have hp4 : w.pp ρ s H ((match f d with | some cd => bnd (setc l cd.1) fun _ => k cd | none => stk) s) := hp4
    cases z : f d with
    | none => rw [z] at hp4; exact w.sk hp4
    | some cd =>
      rw [z] at hp4
      have hp4 : w.pp ρ s H ((setc l cd.1 s).bind fun _ => k cd) := hp4
      cases z2 : setc l cd.1 s with
      | ok u s4 => exact no cd.1 s4 z2
      | exc x s4 => exact setc_exc z2
      | stuck => rw [z2] at hp4; exact w.sk hp4
  · have hp4 : w.pp ρ s H ((match f c with | some cd => bnd (setc l cd.1) fun _ => k cd | none => stk) s) := hp4
    cases z : f c with
    | none => rw [z] at hp4; exact (w.sk hp4).elim
    | some cd =>
      obtain ⟨c', d'⟩ := cd
      rw [z] at hp4
      refine fin a c c' d' ev wa oc z rs fun o h => ?_
      obtain ⟨s4, e4, t4, n4, hw⟩ := up o c' (h (fun b => Wa S0 ρ s.e σ b ∧ b ≠ a) (kp_mut wa fun h => h.2 rfl))
      have hp4 : w.pp ρ s H ((setc l c' s).bind fun _ => k (c', d')) := hp4
      rw [e4] at hp4
      exact ⟨s4, t4, n4, hw, w.fr hp4 n4⟩
theorem ev_mu (sp : SpMu G r f) (hty : ∀ W ρ H v c, BR G W ρ H v c → kd c = true → tyV G.K T v H) (ho : Ev G W (LRep G) to mo) (ha : Ev G W (LReps G) tA mA) : Ev G W (LRep G) (tBM G.K T r to tA) (eMu kd f mo mA) := by
  intro S0 ρ s σ H Q t hp
  refine ho _ _ _ _ _ _ t (post_bind hp fun l s1 _ v H1 ρ1 t1 n1 r1 hp1 => ?_)
  refine post_cont t1 r1 hp1 fun c0 b0 hp1 => ?_
  by_cases hk : kd c0 = true
  · refine ⟨hty _ _ _ _ _ b0 hk, ?_⟩
    have hp1 : Post G W (LRep G) S0 ρ1 s1 σ H1 ((if kd c0 = true then bnd mA fun ls => bnd (vals ls) fun ds => bnd (cont l) fun c => match f c ds with
      | some cd => bnd (setc l cd.1) fun _ => ret (Loc.val cd.2)
      | none => stk
      else stk) s1) Q := hp1
    rw [if_pos hk] at hp1
    refine ha _ _ _ _ _ _ t1 (post_bind hp1 fun ls s2 _ us H2 ρ2 t2 n2 r2 hp2 => post_vals t2 r2 hp2 fun ds s3 t3 n3 r3 hp3 => ?_)
    have rl := stab_L (stab_L r1 n2.k n2.p) n3.k n3.p
    have hp3 : (wE (LRep G) Q).pp ρ2 s3 H2 ((cont l s3).bind fun c => match f c ds with | some cd => bnd (setc l cd.1) fun _ => ret (Loc.val cd.2) | none => stk) := hp3
    refine post_upd (wE (X := W) (LRep G) Q) (fun c => f c ds) (k := fun cd => ret (Loc.val cd.2)) t3 rl r3 hp3 fun a c c' d ev wa oc z rs up => ?_
    subst ev
    refine sp _ _ _ _ _ _ _ _ _ _ wa oc rs z fun v o h => ?_
    obtain ⟨s4, t4, n4, hw, hp4⟩ := up o fun S1 k => (h S1 k).1
    refine Post.ret (X := W) (R := LRep G) hp4 t4 ?_
    show Rep G (Wa S0 ρ2 s4.e σ) ρ2 (upd H2 a o) v d
    rw [hw]
    exact (h (fun b => Wa S0 ρ2 s3.e σ b ∧ b ≠ a) (kp_mut wa fun h => h.2 rfl)).2
  · have hp1 : Post G W (LRep G) S0 ρ1 s1 σ H1 ((if kd c0 = true then bnd mA fun ls => bnd (vals ls) fun ds => bnd (cont l) fun c => match f c ds with
      | some cd => bnd (setc l cd.1) fun _ => ret (Loc.val cd.2)
      | none => stk
      else stk) s1) Q := hp1
    rw [if_neg hk] at hp1
    exact hp1.elim
theorem je_mu (pa : PlainAttrs T) (slot : PySem.Slot T name id) (hty : typeOf (.builtin id) = pure (.type "method_descriptor")) (hm : MtR X id r) (sp : SpMu ⟨X.K, ca, X.w⟩ r f) (hk : ∀ W ρ H v c, BR ⟨X.K, ca, X.w⟩ W ρ H v c → kd c = true → tyV X.K T v H) (ho : JE X ca W o to mo) (ha : JA X ca W (e :: es) tA mA) (hbase : attributeBase o name X.env (eval o X.env) = eval o X.env := by rfl)
    (hfew : ((backTo cpos (starEach (e :: es) X.env)).all (fun x => !x.1) && (backToKw cpos (keywordEach [] X.env)).all (fun x => x.1.isSome) && decide ((e :: es).length + ([] : List Keyword).length + (if ([] : List Keyword).isEmpty then 0 else 1) < 30)) = true := by rfl) (hline : (apos.endLine == cpos.line) = true := by rfl)
    (hs : starEach (e :: es) X.env = (false, eval e X.env) :: starEach es X.env := by rfl) (hplain : (backTo cpos (starEach es X.env)).any (·.1) = false := by rfl) : JE X ca W (.Call (.Attribute o name apos) (e :: es) [] cpos) (tBM X.K T r to tA) (eMu kd f mo mA) :=
  ⟨pe_bm pa slot hty hm ho.pe ha.pa hbase hfew hline hs hplain, ev_mu sp hk ho.ev ha.ev⟩
theorem je_mu0 (pa : PlainAttrs T) (slot : PySem.Slot T name id) (hty : typeOf (.builtin id) = pure (.type "method_descriptor")) (hm : MtR X id r) (sp : SpMu ⟨X.K, ca, X.w⟩ r f) (hk : ∀ W ρ H v c, BR ⟨X.K, ca, X.w⟩ W ρ H v c → kd c = true → tyV X.K T v H) (ho : JE X ca W o to mo) (hbase : attributeBase o name X.env (eval o X.env) = eval o X.env := by rfl) (hline : (apos.endLine == cpos.line) = true := by rfl) :
    JE X ca W (.Call (.Attribute o name apos) [] [] cpos) (tBM0 X.K T r to) (eMu kd f mo aNil) :=
  ⟨pe_bm0 pa slot hty hm ho.pe hbase hline, fun S0 ρ s σ H Q t hp => ev_mu (T := T) (tA := tNil) sp hk ho.ev (ja_nil (X := X)).ev S0 ρ s σ H Q t hp⟩
end
section
variable {G : Gc}
def isLst : D → Bool | .lst _ => true | _ => false
theorem ty_lst : ∀ W ρ H v c, BR G W ρ H v c → isLst c = true → tyV G.K "list" v H := fun W ρ H v c b k => by
  cases c <;> first | (cases k; done) | skip
  obtain ⟨a, vs, rfl, h, r⟩ := br_lst b
  exact .inl ⟨rfl, vs, .inl (.inl h)⟩
theorem or_lst {W : Addr → Prop} {ρ : List Addr} {H : Hp} {a : Addr} {ds : List D} (h : ORep G W ρ H a (.lst ds)) : ∃ vs, H a = some (.lst vs) ∧ Reps G W ρ H vs ds := by
  cases h with | lst h r => exact ⟨_, h, r⟩
theorem or_dic {W : Addr → Prop} {ρ : List Addr} {H : Hp} {a : Addr} {ds : List (Key × D)} (h : ORep G W ρ H a (.dic ds)) : ∃ vs, H a = some (.dK vs) ∧ vs.map (·.1) = ds.map (·.1) ∧ Reps G W ρ H (vs.map (·.2)) (ds.map (·.2)) := by
  cases h with | dic h e r => exact ⟨_, h, e, r⟩
def appD : D → List D → Option (D × D)
  | .lst ds, [d] => if ds.length < lim then some (.lst (ds ++ [d]), .non) else none
  | _, _ => none
theorem sp_append : SpMu G rAppend appD := by
  intro W ρ H a xs c ds c' d Q wa oc rs e q
  match c, ds, e with
  | .lst es, [y], e =>
    by_cases hl : es.length < lim
    · rw [show appD (.lst es) [y] = some (.lst (es ++ [y]), .non) from if_pos hl] at e
      cases e
      obtain ⟨vs, h, r⟩ := or_lst oc
      cases rs with | cons r1 r2 => cases r2; exact ⟨a, vs, _, rfl, rfl, h, lim_lt (by rw [r.length]; exact hl), q _ _ fun S0 k => ⟨.lst upd_same ((r.append (.cons r1 .nil)).mono k (List.prefix_refl _)), .non⟩⟩
    · rw [show appD (.lst es) [y] = none from if_neg hl] at e; cases e
def popD : D → List D → Option (D × D)
  | .lst ds, [] => match ds[ds.length - 1]? with | some d => some (.lst ds.dropLast, d) | none => none
  | _, _ => none
theorem Reps.dropLast {W : Addr → Prop} {ρ : List Addr} {H : Hp} {vs : List V} {ds : List D} (r : Reps G W ρ H vs ds) : Reps G W ρ H vs.dropLast ds.dropLast := by
  rw [List.dropLast_eq_take, List.dropLast_eq_take, r.length]
  exact r.take _
theorem sp_pop : SpMu G rPop popD := by
  intro W ρ H a xs c ds c' d Q wa oc rs e q
  match c, ds, e with
  | .lst es, [], e =>
    have e : (match es[es.length - 1]? with | some d => some (D.lst es.dropLast, d) | none => none) = some (c', d) := e
    cases z : es[es.length - 1]? with
    | none => rw [z] at e; cases e
    | some y =>
      rw [z] at e
      cases e
      obtain ⟨vs, h, r⟩ := or_lst oc
      obtain ⟨v, e1, r1⟩ := r.get z
      cases rs
      exact ⟨a, vs, v, rfl, rfl, h, by rw [r.length]; exact e1, q _ _ fun S0 k => ⟨.lst upd_same (r.dropLast.mono k (List.prefix_refl _)), r1.mono k (List.prefix_refl _)⟩⟩
def popAtD : D → List D → Option (D × D)
  | .lst ds, [.int i] => if 0 ≤ i ∧ i < ds.length ∧ ds.length ≤ lim then match ds[i.toNat]? with | some d => some (.lst (ds.eraseIdx i.toNat), d) | none => none else none
  | _, _ => none
theorem sp_popAt : SpMu G rPopAt popAtD := by
  intro W ρ H a xs c ds c' d Q wa oc rs e q
  match c, ds, e with
  | .lst es, [.int i], e =>
    by_cases hi : 0 ≤ i ∧ i < es.length ∧ es.length ≤ lim
    · have e : (match es[i.toNat]? with | some d => some (D.lst (es.eraseIdx i.toNat), d) | none => none) = some (c', d) := (if_pos hi).symm.trans e
      obtain ⟨h1, h2, h3⟩ := hi
      have h3 : es.length ≤ 1000000 := h3
      cases z : es[i.toNat]? with
      | none => rw [z] at e; cases e
      | some y =>
        rw [z] at e
        cases e
        obtain ⟨vs, h, r⟩ := or_lst oc
        obtain ⟨v, e1, r1⟩ := r.get z
        cases rs with
        | cons ri rr =>
          cases rr
          obtain rfl := br_int (.inl ri)
          refine ⟨a, vs, i, i.toNat, v, rfl, rfl, h, by omega, by omega, seqIndex_of h1 (by rw [r.length]; exact h2), e1, q _ _ fun S0 k => ⟨.lst upd_same ((r.erase _).mono k (List.prefix_refl _)), r1.mono k (List.prefix_refl _)⟩⟩
    · have e : none = some (c', d) := (if_neg hi).symm.trans e
      cases e
end
/-! ### o[i] = v -/
def SpSet (G : Gc) (r : TSet) (f : D → D → D → Option D) : Prop := ∀ (W : Addr → Prop) (ρ : List Addr) (H : Hp) (a : Addr) (i v : V) (c di dv c' : D) (Q : Hp → Prop), W a → ORep G W ρ H a c → BR G W ρ H i di → Rep G W ρ H v dv → f c di dv = some c' →
  (∀ o, (∀ S0, Kp S0 W H W (upd H a o) → ORep G W ρ (upd H a o) a c') → Q (upd H a o)) → r (.ref a) i v H Q
def sSub (f : D → D → D → Option D) (mv mo mi : M Loc) : M Fl := bnd mv fun lv => bnd (toVal lv) fun dv => bnd mo fun l => bnd mi fun li => bnd (cont li) fun di => bnd (cont l) fun c => match f c di dv with
  | some c' => bnd (setc l c') fun _ => ret Fl.nx
  | none => stk
section
variable {G : Gc} {X : Cx} {ca : Nat → Addr} {W : WX} {e o i : Expr} {tv to ti : TE} {mv mo mi : M Loc} {pos p : Pos} {r : TSet} {f : D → D → D → Option D}
theorem ev_sub {nf : Nat} (sp : SpSet G r f) (hv : Ev G W (LRep G) tv mv) (ho : Ev G W (LRep G) to mo) (hi : Ev G W (LRep G) ti mi) : EvS G W nf (tAsg tv (gSub to ti r)) (sSub f mv mo mi) := by
  intro S0 ρ s σ H E t hp
  refine hv _ _ _ _ _ _ t ((wS (nf := nf) E).bind hp fun lv s0 _ v H0 ρ0 t0 n0 r0 hp0 => (wS (nf := nf) E).toVal t0 r0 hp0 fun dv s1 t1 n1 r1 hp1 => ?_)
  refine ho _ _ _ _ _ _ t1 ((wS (nf := nf) E).bind hp1 fun l s2 _ ov H2 ρ2 t2 n2 r2 hp2 => ?_)
  refine hi _ _ _ _ _ _ t2 ((wS (nf := nf) E).bind hp2 fun li s3 _ iv H3 ρ3 t3 n3 r3 hp3 => (wS (nf := nf) E).cont t3 r3 hp3 fun di bi _ hp4 => ?_)
  have hp4 : (wS (nf := nf) (G := G) (X := W) (S0 := S0) (σ := σ) E).pp ρ3 s3 H3 ((cont l s3).bind fun c => match (f c di dv).map fun c' => (c', D.non) with | some cd => bnd (setc l cd.1) fun _ => ret Fl.nx | none => stk) := by
    have : (fun c => match f c di dv with | some c' => bnd (setc l c') fun _ => ret Fl.nx | none => stk) = fun c => (match (f c di dv).map fun c' => (c', D.non) with | some cd => bnd (setc l cd.1) fun _ => ret Fl.nx | none => (stk : M Fl)) := by
      funext c
      cases f c di dv <;> rfl
    rw [← this]; exact hp4
  refine post_upd (wS (nf := nf) E) (fun c => (f c di dv).map fun c' => (c', D.non)) (k := fun _ => ret Fl.nx) (us := [v]) (ds := [dv]) t3 (stab_L r2 n3.k n3.p) (.cons ((r1.mono n2.k n2.p).mono n3.k n3.p) .nil) hp4 fun a c c' d ev wa oc z rs up => ?_
  subst ev
  cases z2 : f c di dv with
  | none => simp only [z2] at z; cases z
  | some c2 =>
    simp only [z2] at z
    cases z
    cases rs with
    | cons rv _ =>
      refine sp _ _ _ _ _ _ _ _ _ _ _ wa oc bi rv z2 fun o h => ?_
      obtain ⟨s4, t4, n4, hw, hp5⟩ := up o h
      exact PostS.nx (X := W) (E := E) hp5 t4
theorem js_sub {nf : Nat} (hs : PSet X r) (sp : SpSet ⟨X.K, ca, X.w⟩ r f) (hv : JE X ca W e tv mv) (ho : JE X ca W o to mo) (hi : JE X ca W i ti mi)
    (ha : ∀ v, assign (.Subscript o i pos) X.env v = (do
      let ov ← holding [v] (eval o X.env)
      let iv ← holding [v, ov] (eval i X.env)
      standAt pos
      holding [v, ov, iv] (setItem ov iv v)
      release [v, ov, iv] []) := by intro _; rfl) (hs1 : swapsWithSole [.Subscript o i pos] e p.line X.env = pure false := by rfl) (hw : swappedStores [.Subscript o i pos] e X.env = pure none := by rfl)
    (h1 : (assignEach [.Subscript o i pos] X.env).map (·.2) = [assign (.Subscript o i pos) X.env] := by rfl) : JS X ca W nf (.Assign [.Subscript o i pos] e p) (tAsg tv (gSub to ti r)) (sSub f mv mo mi) :=
  ⟨ps_asg hv.pe (pg_sub ho.pe hi.pe hs ha) hs1 hw h1, ev_sub sp hv.ev ho.ev hi.ev⟩
def putD {κ : Type} [DecidableEq κ] (kvs : List (κ × D)) (k : κ) (v : D) : List (κ × D) :=
  if (kvs.any fun kv => decide (kv.1 = k)) = true then kvs.map (fun kv => if kv.1 = k then (kv.1, v) else kv) else kvs ++ [(k, v)]
theorem put_reps {κ : Type} [DecidableEq κ] {Wd : Addr → Prop} {ρ : List Addr} {H : Hp} {k : κ} {v : V} {d : D} (r : Rep G Wd ρ H v d) {vs : List (κ × V)} {ds : List (κ × D)} (e : vs.map (·.1) = ds.map (·.1)) (rs : Reps G Wd ρ H (vs.map (·.2)) (ds.map (·.2))) :
    (putK vs k v).map (·.1) = (putD ds k d).map (·.1) ∧ Reps G Wd ρ H ((putK vs k v).map (·.2)) ((putD ds k d).map (·.2)) := by
  have hany : (vs.any fun kv => decide (kv.1 = k)) = (ds.any fun kv => decide (kv.1 = k)) := by
    have h1 : (vs.any fun kv => decide (kv.1 = k)) = (vs.map (·.1)).any fun x => decide (x = k) := by rw [List.any_map]; rfl
    have h2 : (ds.any fun kv => decide (kv.1 = k)) = (ds.map (·.1)).any fun x => decide (x = k) := by rw [List.any_map]; rfl
    rw [h1, h2, e]
  unfold putK putD
  rw [hany]
  by_cases h : (ds.any fun kv => decide (kv.1 = k)) = true
  · rw [if_pos h, if_pos h]
    clear h hany
    induction vs generalizing ds with
    | nil =>
      cases ds with
      | nil => exact ⟨rfl, .nil⟩
      | cons _ _ => cases e
    | cons p vs ih =>
      cases ds with
      | nil => cases e
      | cons q ds =>
        rw [List.map_cons, List.map_cons] at e
        injection e with e1 e2
        cases rs with
        | cons r1 r2 =>
          obtain ⟨i1, i2⟩ := ih e2 r2
          simp only [List.map_cons]
          rw [i1]
          constructor
          · by_cases hk : p.1 = k
            · rw [if_pos hk, if_pos (e1 ▸ hk), e1]
            · rw [if_neg hk, if_neg (e1 ▸ hk), e1]
          · refine .cons ?_ i2
            by_cases hk : p.1 = k
            · rw [if_pos hk, if_pos (e1 ▸ hk)]; exact r
            · rw [if_neg hk, if_neg (e1 ▸ hk)]; exact r1
  · rw [if_neg h, if_neg h]
    constructor
    · rw [List.map_append, List.map_append, e]; rfl
    · rw [List.map_append, List.map_append]; exact rs.append (.cons r .nil)
def setD : D → D → D → Option D
  | .lst ds, .int i, d => match ixN ds.length i with | some j => some (.lst (ds.set j d)) | none => none
  | .dic kvs, k, d => match keyD k with | some j => if kvs.length < lim then some (.dic (putD kvs j d)) else none | none => none
  | _, _, _ => none
def rSetU : TSet := fun o i v H Q => rSetL o i v H Q ∨ ∃ a H4, o = .ref a ∧ DPut H a i v H4 ∧ Q H4
theorem set_U (hu : X.A.units + 1 < cLine) : PSet X rSetU := by
  intro pins s σ H o i v ov iv u Q I ro ri rv h
  rcases h with h | ⟨a, H4, rfl, g, q⟩
  · exact set_list pins s σ H o i v ov iv u Q I ro ri rv h
  · cases ro
    exact d_setItem hu I g ri rv fun s' I' => ⟨H4, I', q⟩
theorem sp_setU : SpSet G rSetU setD := by
  intro Wd ρ H a i v c di dv c' Q wa oc bi rv e q
  cases c with
  | lst ds =>
    cases di with
    | int j =>
      have e : (match ixN ds.length j with | some j => some (D.lst (ds.set j dv)) | none => none) = some c' := e
      cases z : ixN ds.length j with
      | none => rw [z] at e; cases e
      | some k =>
        rw [z] at e
        cases e
        obtain ⟨vs, h, r⟩ := or_lst oc
        obtain rfl := br_int bi
        exact .inl ⟨a, vs, j, k, rfl, rfl, h, by rw [r.length]; exact z, q _ fun S0 kp => .lst upd_same ((Reps.set rv k r).mono kp (List.prefix_refl _))⟩
    | _ => cases e
  | dic kvs =>
    have e : (match keyD di with | some j => if kvs.length < lim then some (D.dic (putD kvs j dv)) else none | none => none) = some c' := by cases di <;> exact e
    cases z : keyD di with
    | none => rw [z] at e; cases e
    | some j =>
      rw [z] at e
      have e : (if kvs.length < lim then some (D.dic (putD kvs j dv)) else none) = some c' := e
      by_cases hl : kvs.length < lim
      · rw [if_pos hl] at e
        cases e
        obtain ⟨vs, h, k, r⟩ := or_dic oc
        obtain rfl := key_br bi z
        have hlen : vs.length = kvs.length := by have := congrArg List.length k; simpa using this
        obtain ⟨k2, r2⟩ := put_reps (k := j) rv k r
        exact .inr ⟨a, _, rfl, DPut.k h (lim_lt (by rw [hlen]; exact hl)), q _ fun S0 kp => .dic upd_same k2 (r2.mono kp (List.prefix_refl _))⟩
      · rw [if_neg hl] at e; cases e
  | _ => cases e
end
end Mi

namespace Mi
open PySem PySem.Spec PyProof.Rows L2

/-! ### what is walked -/
inductive Itd where
  | seq (d : D) | rng (lo : Int) (n : Nat) | enu (d : D) | zip (d e : D)
def seqOf : D → Option (List D)
  | .lst ds => some ds
  | .lck ds => some ds
  | .tup ds => some ds
  | .str x => some (x.cps.toList.map fun c => .str ⟨#[c]⟩)
  | _ => none
def itN (I : Itd) (i : Nat) : M (Option D) := fun s => match I with
  | .rng lo n => .ok (if i < n then some (.int (lo + i)) else none) s
  | .enu d => match d with | .lst ds => .ok (ds[i]?.map fun x => .tup [.int (i : Nat), x]) s | _ => .stuck
  | .zip d e => match d, e with | .tup ds, .tup es => .ok (match ds[i]?, es[i]? with | some x, some y => some (.tup [x, y]) | _, _ => none) s | _, _ => .stuck
  | .seq d => match d with
    | .ptr n => match s.t[n]? with | some (.lst ds) => .ok ds[i]? s | _ => .stuck
    | _ => match seqOf d with | some ds => .ok ds[i]? s | none => .stuck
inductive ItOk (G : Gc) (W : Addr → Prop) (ρ : List Addr) (H : Hp) : It → Itd → Prop
  | lst {a : Addr} {ds : List D} : Rep G W ρ H (.ref a) (.lst ds) → ItOk G W ρ H (Itl G.K a) (.seq (.lst ds))
  | lck {a : Addr} {ds : List D} : Rep G W ρ H (.ref a) (.lck ds) → ItOk G W ρ H (Itl G.K a) (.seq (.lck ds))
  | ptr {a : Addr} {n : Nat} : Rep G W ρ H (.ref a) (.ptr n) → ItOk G W ρ H (Itl G.K a) (.seq (.ptr n))
  | tup {a : Addr} {ds : List D} : Rep G W ρ H (.ref a) (.tup ds) → ItOk G W ρ H (Itt G.K a) (.seq (.tup ds))
  | str {x : Str} : ItOk G W ρ H (Its x) (.seq (.str x))
  | rng {lo : Int} {n : Nat} : ItOk G W ρ H (Itr lo n) (.rng lo n)
  | enu {a : Addr} {ds : List D} : Rep G W ρ H (.ref a) (.lst ds) → ItOk G W ρ H (Ite G.K a) (.enu (.lst ds))
  | zip {a b : Addr} {ds es : List D} : Rep G W ρ H (.ref a) (.tup ds) → Rep G W ρ H (.ref b) (.tup es) → ItOk G W ρ H (RZ.ItzT G.K a b) (.zip (.tup ds) (.tup es))
def IRel (G : Gc) : RelT It Itd := fun W ρ H _ J I => ItOk G W ρ H J I
section
variable {G : Gc} {S0 W W' : Addr → Prop} {ρ ρ' : List Addr} {s s' : S} {σ : L2.St} {H H' : Hp} {J : It} {I : Itd}
theorem ItOk.mono (h : ItOk G W ρ H J I) (k : Kp S0 W H W' H') (p : ρ <+: ρ') : ItOk G W' ρ' H' J I := by
  cases h with
  | lst r => exact .lst (r.mono k p)
  | lck r => exact .lck (r.mono k p)
  | ptr r => exact .ptr (r.mono k p)
  | tup r => exact .tup (r.mono k p)
  | str => exact .str
  | rng => exact .rng
  | enu r => exact .enu (r.mono k p)
  | zip r r' => exact .zip (r.mono k p) (r'.mono k p)
theorem itN_same (t : Sat G S0 ρ s σ H) (h : ItOk G (Wa S0 ρ s.e σ) ρ H J I) (i : Nat) (hI : (∀ d, I ≠ .enu d) ∧ ∀ d e, I ≠ .zip d e) : itN I i s = .stuck ∨ (itN I i s = .ok none s ∧ J.stop i H) ∨
    ∃ d, itN I i s = .ok (some d) s ∧ J.go i H ∧ ∀ x H', J.yld i H x H' → H' = H ∧ Rep G (Wa S0 ρ s.e σ) ρ H x d := by
  have fin : ∀ {ds : List D} {a : Addr} {vs : List V}, SqL G.K H a vs → Reps G (Wa S0 ρ s.e σ) ρ H vs ds →
      (ds[i]? = none ∧ (Itl G.K a).stop i H) ∨ ∃ d, ds[i]? = some d ∧ (Itl G.K a).go i H ∧ ∀ x H', (Itl G.K a).yld i H x H' → H' = H ∧ Rep G (Wa S0 ρ s.e σ) ρ H x d := fun {ds a vs} hs r => by
    cases e : ds[i]? with
    | none => exact .inl ⟨rfl, vs, hs, by rw [r.length]; exact List.getElem?_eq_none_iff.mp e⟩
    | some d =>
      obtain ⟨v, e1, r1⟩ := r.get e
      refine .inr ⟨d, rfl, ⟨vs, v, hs, e1⟩, fun x H' y => ⟨y.1, ?_⟩⟩
      have := y.2 vs hs
      rw [e1] at this; cases this
      exact r1
  cases h with
  | @lst a ds r =>
    obtain ⟨a', vs, ea, hs, rr⟩ := br_lst (.inl r)
    cases ea
    rcases fin (.inl (.inl hs)) rr with ⟨e, st⟩ | ⟨d, e, go, y⟩
    · exact .inr (.inl ⟨by simp only [itN, seqOf, e], st⟩)
    · exact .inr (.inr ⟨d, by simp only [itN, seqOf, e], go, y⟩)
  | @lck a ds r =>
    obtain ⟨a', vs, ea, hs, rr⟩ := br_lck (.inl r)
    cases ea
    rcases fin hs rr with ⟨e, st⟩ | ⟨d, e, go, y⟩
    · exact .inr (.inl ⟨by simp only [itN, seqOf, e], st⟩)
    · exact .inr (.inr ⟨d, by simp only [itN, seqOf, e], go, y⟩)
  | @ptr a n r =>
    cases r with
    | ptr ha =>
      cases e0 : s.t[n]? with
      | none => exact .inl (by simp only [itN, e0])
      | some c =>
        cases c with
        | lst ds =>
          obtain ⟨vs, hs, rr⟩ := (show ∃ vs, H a = some (.lst vs) ∧ Reps G (Wa S0 ρ s.e σ) ρ H vs ds from by
            have := t.sto n a _ ha e0
            cases this with | lst h r => exact ⟨_, h, r⟩)
          rcases fin (.inl (.inl hs)) rr with ⟨e, st⟩ | ⟨d, e, go, y⟩
          · exact .inr (.inl ⟨by simp only [itN, e0, e], st⟩)
          · exact .inr (.inr ⟨d, by simp only [itN, e0, e], go, y⟩)
        | _ => exact .inl (by simp only [itN, e0])
  | @tup a ds r =>
    obtain ⟨a', vs, ea, hs, rr, _⟩ := br_tup (.inl r)
    cases ea
    cases e : ds[i]? with
    | none => exact .inr (.inl ⟨by simp only [itN, seqOf, e], vs, hs, by rw [rr.length]; exact List.getElem?_eq_none_iff.mp e⟩)
    | some d =>
      obtain ⟨v, e1, r1⟩ := rr.get e
      refine .inr (.inr ⟨d, by simp only [itN, seqOf, e], ⟨vs, v, hs, e1⟩, fun x H' y => ⟨y.1, ?_⟩⟩)
      have := y.2 vs hs
      rw [e1] at this; cases this
      exact r1
  | @str x =>
    have hz : x.cps.toList[i]? = x.cps[i]? := by simp
    cases e : x.cps[i]? with
    | none =>
      refine .inr (.inl ⟨by simp only [itN, seqOf, List.getElem?_map, hz, e]; rfl, ?_⟩)
      exact Array.getElem?_eq_none_iff.mp e
    | some c =>
      refine .inr (.inr ⟨.str ⟨#[c]⟩, by simp only [itN, seqOf, List.getElem?_map, hz, e]; rfl, ?_, fun v H' y => ⟨y.1, ?_⟩⟩)
      · exact (Array.getElem?_eq_some_iff.mp e).1
      · obtain ⟨c', e1, ev⟩ := y.2
        rw [e] at e1; cases e1
        subst ev
        exact .str
  | @rng lo n =>
    by_cases hi : i < n
    · exact .inr (.inr ⟨.int (lo + i), by simp only [itN, hi, if_true], hi, fun x H' y => ⟨y.1, by rw [y.2]; exact .int⟩⟩)
    · exact .inr (.inl ⟨by simp only [itN, hi, if_false], Nat.le_of_not_lt hi⟩)
  | enu _ => exact absurd rfl (hI.1 _)
  | zip _ _ => exact absurd rfl (hI.2 _ _)
theorem itN_seq (t : Sat G S0 ρ s σ H) (h : ItOk G (Wa S0 ρ s.e σ) ρ H J I) (i : Nat) : itN I i s = .stuck ∨ (itN I i s = .ok none s ∧ J.stop i H) ∨
    ∃ d, itN I i s = .ok (some d) s ∧ J.go i H ∧ ∀ x H', J.yld i H x H' → Ext H H' ∧ Rep G (Wa S0 ρ s.e σ) ρ H' x d := by
  have same : ((∀ d, I ≠ .enu d) ∧ ∀ d e, I ≠ .zip d e) → itN I i s = .stuck ∨ (itN I i s = .ok none s ∧ J.stop i H) ∨ ∃ d, itN I i s = .ok (some d) s ∧ J.go i H ∧ ∀ x H', J.yld i H x H' → Ext H H' ∧ Rep G (Wa S0 ρ s.e σ) ρ H' x d := fun hI => by
    rcases itN_same t h i hI with z | z | ⟨d, z, go, y⟩
    · exact .inl z
    · exact .inr (.inl z)
    · refine .inr (.inr ⟨d, z, go, fun x H' hy => ?_⟩)
      obtain ⟨rfl, r⟩ := y x H' hy
      exact ⟨.refl, r⟩
  cases h with
  | lst _ => exact same ⟨(fun _ z => nomatch z), (fun _ _ z => nomatch z)⟩
  | lck _ => exact same ⟨(fun _ z => nomatch z), (fun _ _ z => nomatch z)⟩
  | ptr _ => exact same ⟨(fun _ z => nomatch z), (fun _ _ z => nomatch z)⟩
  | tup _ => exact same ⟨(fun _ z => nomatch z), (fun _ _ z => nomatch z)⟩
  | str => exact same ⟨(fun _ z => nomatch z), (fun _ _ z => nomatch z)⟩
  | rng => exact same ⟨(fun _ z => nomatch z), (fun _ _ z => nomatch z)⟩
  | @enu a ds r =>
    obtain ⟨a', vs, ea, hs, rr⟩ := br_lst (.inl r)
    cases ea
    cases e : ds[i]? with
    | none => exact .inr (.inl ⟨by simp only [itN, e]; rfl, vs, .inl (.inl hs), by rw [rr.length]; exact List.getElem?_eq_none_iff.mp e⟩)
    | some d =>
      obtain ⟨v, e1, r1⟩ := rr.get e
      refine .inr (.inr ⟨.tup [.int (i : Nat), d], by simp only [itN, e]; rfl, ⟨vs, v, .inl (.inl hs), e1⟩, fun x H' y => ?_⟩)
      obtain ⟨T, x', rfl, n, rfl, hx⟩ := y
      have := hx vs (.inl (.inl hs))
      rw [e1] at this; cases this
      exact ⟨.new n, new_tup t.tk n (.cons .int (.cons r1 .nil))⟩
  | @zip a b ds es r r' =>
    obtain ⟨a', vs, ea, hs, rr, _⟩ := br_tup (.inl r)
    cases ea
    obtain ⟨b', us, eb, hs', rr', _⟩ := br_tup (.inl r')
    cases eb
    cases e : ds[i]? with
    | none => exact .inr (.inl ⟨by simp only [itN, e], vs, us, hs, hs', .inl (by rw [rr.length]; exact List.getElem?_eq_none_iff.mp e)⟩)
    | some d =>
      cases e' : es[i]? with
      | none => exact .inr (.inl ⟨by simp only [itN, e, e'], vs, us, hs, hs', .inr (by rw [rr'.length]; exact List.getElem?_eq_none_iff.mp e')⟩)
      | some d' =>
        obtain ⟨v, e1, r1⟩ := rr.get e
        obtain ⟨v', e2, r2⟩ := rr'.get e'
        refine .inr (.inr ⟨.tup [d, d'], by simp only [itN, e, e'], ⟨vs, us, v, v', hs, hs', e1, e2⟩, fun x H' y => ?_⟩)
        obtain ⟨T, x', y', rfl, n, rfl, hx, hy⟩ := y
        have := hx vs hs
        rw [e1] at this; cases this
        have := hy us hs'
        rw [e2] at this; cases this
        exact ⟨.new n, new_tup t.tk n (.cons r1 (.cons r2 .nil))⟩
end
structure JI (X : Cx) (ca : Nat → Addr) (W : WX) (tg iter : Expr) (wi : TI) (m : M Itd) : Prop where
  pi : PI X tg iter wi
  ev : Ev ⟨X.K, ca, X.w⟩ W (IRel ⟨X.K, ca, X.w⟩) wi m
/-- a list, a tuple or a text, walked -/
def wSeq (K : PySem.W.Frag) (x : V) (H : Hp) (R : It → Hp → Prop) : Prop :=
  (∃ a, x = .ref a ∧ (∃ xs, SqL K H a xs) ∧ R (Itl K a) H) ∨ (∃ a, x = .ref a ∧ (∃ xs, SqT K H a xs) ∧ R (Itt K a) H) ∨ ∃ y, x = .str y ∧ R (Its y) H
def tSeqI (K : PySem.W.Frag) (te : TE) : TI := fun σ H R => te σ H fun x H1 => wSeq K x H1 R
section
variable {X : Cx} {ca : Nat → Addr} {W : WX} {e a b tg : Expr} {es : List Expr} {te : TE} {tA : TA} {m : M Loc} {mA : M (List Loc)} {pos p : Pos}
theorem pi_seq {l : Expr} {tl : TE} (hl : PE X l tl) : PI X tg l (tSeqI X.K tl) := by
  refine ⟨fun pins s σ H R I h => ?_⟩
  refine thn (hl.run pins s σ H _ I h) fun v s1 ⟨x, H1, I1, r1, q1⟩ => ?_
  rcases q1 with ⟨a, e, ⟨xs, hq⟩, q⟩ | ⟨a, e, ⟨xs, hq⟩, q⟩ | ⟨x, ex, q⟩
  · subst e
    cases r1
    obtain ⟨its, rv, p, hz⟩ := I1.list hq
    refine wpAny_pyIter_list p.isList ?_
    exact ⟨s1.heap.objs.size, [s1.heap.objs.size], _, _, H1, rfl, I1.kept (t' := s1.toks) fun b o e => Heap.get?_push_of_some _ e, turn_list a _, ⟨_, Heap.get?_push_size _ rfl, rfl, rfl⟩, fun b hb => by
      have e : b = s1.heap.objs.size := by simpa using hb
      subst e
      exact I1.fpOk (Nat.le_refl _) (I1.hok.fresh (Nat.le_refl _)), q⟩
  · subst e
    cases r1
    obtain ⟨its, rv, p, hz⟩ := I1.tuple hq
    refine wpAny_pyIter_tuple (show s1.heap.IsTuple a its.toArray from p) ?_
    exact ⟨s1.heap.objs.size, [s1.heap.objs.size], _, _, H1, rfl, I1.kept (t' := s1.toks) fun b o e => Heap.get?_push_of_some _ e, turn_tuple a _, ⟨_, Heap.get?_push_size _ rfl, rfl, rfl⟩, fun b hb => by
      have e : b = s1.heap.objs.size := by simpa using hb
      subst e
      exact I1.fpOk (Nat.le_refl _) (I1.hok.fresh (Nat.le_refl _)), q⟩
  · subst ex
    obtain ⟨t, rfl⟩ := r1
    cases ha : x.cps.all (· < 128)
    · exact wpAny_pyIter_wide ha (pi_one (tk := s1.toks) I1 _ (turn_str _ x t "str_iterator" (.inr rfl)) ⟨_, Heap.get?_push_size _ rfl, rfl, rfl⟩ q)
    · exact wpAny_pyIter_ascii ha (pi_one (tk := s1.toks) I1 _ (turn_str _ x t "str_ascii_iterator" (.inl rfl)) ⟨_, Heap.get?_push_size _ rfl, rfl, rfl⟩ q)
def iSeq (m : M Loc) : M Itd := bnd m fun l => bnd (toVal l) fun d => fun s => match d with
  | .ptr n => match s.t[n]? with | some (.lst _) => .ok (.seq d) s | _ => .stuck
  | _ => match seqOf d with | some _ => .ok (.seq d) s | none => .stuck
theorem ji_seq (he : JE X ca W e te m) : JI X ca W tg e (tSeqI X.K te) (iSeq m) := by
  refine ⟨pi_seq he.pe, fun S0 ρ s σ H R t hp => ?_⟩
  refine he.ev _ _ _ _ _ _ t (post_bind hp fun l s1 _ v H1 ρ1 t1 n1 r1 hp1 => post_toVal t1 r1 hp1 fun d s2 t2 n2 r2 hp2 => ?_)
  cases d with
  | lst ds =>
    obtain ⟨a, vs, ea, hs, rr⟩ := br_lst (.inl r2)
    subst ea
    exact .inl ⟨a, rfl, ⟨vs, .inl (.inl hs)⟩, Post.ret (R := IRel ⟨X.K, ca, X.w⟩) hp2 t2 (.lst r2)⟩
  | lck ds =>
    obtain ⟨a, vs, ea, hs, rr⟩ := br_lck (.inl r2)
    subst ea
    exact .inl ⟨a, rfl, ⟨vs, hs⟩, Post.ret (R := IRel ⟨X.K, ca, X.w⟩) hp2 t2 (.lck r2)⟩
  | tup ds =>
    obtain ⟨a, vs, ea, hs, rr, _⟩ := br_tup (.inl r2)
    subst ea
    exact .inr (.inl ⟨a, rfl, ⟨vs, hs⟩, Post.ret (R := IRel ⟨X.K, ca, X.w⟩) hp2 t2 (.tup r2)⟩)
  | str x =>
    obtain rfl := br_str (.inl r2)
    exact .inr (.inr ⟨x, rfl, Post.ret (R := IRel ⟨X.K, ca, X.w⟩) hp2 t2 .str⟩)
  | ptr n =>
    cases e0 : s2.t[n]? with
    | none => simp only [e0] at hp2; exact hp2.elim
    | some c =>
      cases c with
      | lst ds =>
        simp only [e0] at hp2
        cases r2 with
        | @ptr a _ ha =>
          have := t2.sto n a _ ha e0
          cases this with
          | @lst vs _ h r => exact .inl ⟨a, rfl, ⟨vs, .inl (.inl h)⟩, Post.ret (R := IRel ⟨X.K, ca, X.w⟩) hp2 t2 (.ptr (.ptr ha))⟩
      | _ => simp only [e0] at hp2; exact hp2.elim
  | _ => exact hp2.elim
def iRng1 (ma : M (List Loc)) : M Itd := bnd ma fun ls => fun s => match ls with
  | [.val (.int j)] => if -(2 ^ 62) ≤ j ∧ j < 2 ^ 62 then .ok (.rng 0 j.toNat) s else .stuck
  | _ => .stuck
def iRng2 (ma : M (List Loc)) : M Itd := bnd ma fun ls => fun s => match ls with
  | [.val (.int i), .val (.int j)] => if (-(2 ^ 62) ≤ i ∧ i < 2 ^ 62) ∧ (-(2 ^ 62) ≤ j ∧ j < 2 ^ 62) then .ok (.rng i (j - i).toNat) s else .stuck
  | _ => .stuck
theorem ji_range1 (hg : Gl X "range") (hm : X.mg "range" = none) (ha : JA X ca W [a] tA mA) (hs : starEach [a] X.env = [(false, eval a X.env)] := by rfl) : JI X ca W tg (.Call (.Name "range" p) [a] [] pos) (L2.iRng1 tA) (iRng1 mA) := by
  refine ⟨pi_range1 hg hm ha.pa hs, fun S0 ρ s σ H R t hp => ?_⟩
  refine ha.ev _ _ _ _ _ _ t (post_bind hp fun ls s1 _ vs H1 ρ1 t1 n1 r1 hp1 => ?_)
  match ls, hp1 with
  | [.val (.int j)], hp1 =>
    cases r1 with
    | cons r rr =>
      cases rr
      obtain rfl := br_int (.inl r)
      have hp1 : Post ⟨X.K, ca, X.w⟩ W (IRel ⟨X.K, ca, X.w⟩) S0 ρ1 s1 σ H1 (if -(2 ^ 62) ≤ j ∧ j < 2 ^ 62 then .ok (.rng 0 j.toNat) s1 else .stuck) R := hp1
      by_cases h : -(2 ^ 62) ≤ j ∧ j < 2 ^ 62
      · rw [if_pos h] at hp1
        exact ⟨j, rfl, h.1, h.2, Post.ret (R := IRel ⟨X.K, ca, X.w⟩) hp1 t1 .rng⟩
      · rw [if_neg h] at hp1; exact hp1.elim
theorem ji_range2 (hg : Gl X "range") (hm : X.mg "range" = none) (ha : JA X ca W [a, b] tA mA) (hs : starEach [a, b] X.env = [(false, eval a X.env), (false, eval b X.env)] := by rfl) (hs2 : starEach [b] X.env = [(false, eval b X.env)] := by rfl) : JI X ca W tg (.Call (.Name "range" p) [a, b] [] pos) (L2.iRng2 tA) (iRng2 mA) := by
  refine ⟨pi_range2 hg hm ha.pa hs hs2, fun S0 ρ s σ H R t hp => ?_⟩
  refine ha.ev _ _ _ _ _ _ t (post_bind hp fun ls s1 _ vs H1 ρ1 t1 n1 r1 hp1 => ?_)
  match ls, hp1 with
  | [.val (.int i), .val (.int j)], hp1 =>
    cases r1 with
    | cons r rr =>
      cases rr with
      | cons r' rr =>
        cases rr
        obtain rfl := br_int (.inl r)
        obtain rfl := br_int (.inl r')
        have hp1 : Post ⟨X.K, ca, X.w⟩ W (IRel ⟨X.K, ca, X.w⟩) S0 ρ1 s1 σ H1 (if (-(2 ^ 62) ≤ i ∧ i < 2 ^ 62) ∧ (-(2 ^ 62) ≤ j ∧ j < 2 ^ 62) then .ok (.rng i (j - i).toNat) s1 else .stuck) R := hp1
        by_cases h : (-(2 ^ 62) ≤ i ∧ i < 2 ^ 62) ∧ (-(2 ^ 62) ≤ j ∧ j < 2 ^ 62)
        · rw [if_pos h] at hp1
          exact ⟨i, j, rfl, ⟨h.1.1, h.1.2, h.2.1, h.2.2⟩, Post.ret (R := IRel ⟨X.K, ca, X.w⟩) hp1 t1 .rng⟩
        · rw [if_neg h] at hp1; exact hp1.elim
end
/-! ### for, while -/
def aft (k : M Fl) : Fl → M Fl
  | .nx => k
  | .ct => k
  | .bk => ret .nx
  | .rt d => ret (.rt d)
def forF (I : Itd) (tg : TgF) (body : M Fl) : Nat → Nat → M Fl
  | 0, _ => stk
  | n + 1, i => bnd (itN I i) fun o => match o with
    | none => ret .nx
    | some d => fun s => match tg d s with
      | none => .stuck
      | some s' => (body s').bind (aft (forF I tg body n (i + 1)))
def sFor (mi : M Itd) (tg : TgF) (body : M Fl) : M Fl := bnd mi fun I => forF I tg body lim 0
def whF (c : M Bool) (body : M Fl) : Nat → M Fl
  | 0 => stk
  | n + 1 => bnd c fun k => if k = true then bnd body (aft (whF c body n)) else ret .nx
def sWhile (c : M Bool) (body : M Fl) : M Fl := whF c body lim
section
variable {nf : Nat} {G : Gc} {X : Cx} {ca : Nat → Addr} {W : WX} {tg iter e : Expr} {body : List Stmt} {wi : TI} {mi : M Itd} {g : TG} {a : TgF} {tb : TS} {mb : M Fl} {pos : Pos} {tu : TT} {mu : M Bool}
theorem postS_aft {G : Gc} {S0 : Addr → Prop} {ρ : List Addr} {s : S} {σ : L2.St} {H : Hp} {r : Res Fl} {k : M Fl} {E : Ends} {N : L2.St → Hp → Prop} (hp : PostS G W nf S0 ρ s σ H (r.bind (aft k)) E)
    (h : ∀ s' σ' H' ρ', Sat G S0 ρ' s' σ' H' → Nx S0 ρ s.e σ H ρ' s'.e σ' H' → Fx nf σ σ' → PostS G W nf S0 ρ' s' σ' H' (k s') E → N σ' H') : PostS G W nf S0 ρ s σ H r { E with nx := N, ct := N, bk := E.nx } := by
  cases r with
  | stuck => exact hp
  | exc x s' => exact hp
  | ok f s' =>
    cases f with
    | nx => exact fun σ' H' ρ' t n f => h s' σ' H' ρ' t n f (PostS.fromS (r := k s') hp n f)
    | ct => exact fun σ' H' ρ' t n f => h s' σ' H' ρ' t n f (PostS.fromS (r := k s') hp n f)
    | bk => exact hp
    | rt d => exact hp
theorem js_for (hpo : PassesOwn (model X.prog X.w) X.A X.env X.xe) (hc : X.calm = true) (hi : JI X ca W tg iter wi mi) (hg : JG X ca nf tg g a) (hb : JB X ca W nf body tb mb) (hs : ∀ x, foldedSetIterable iter X.env x = pure x := by intro _; rfl) :
    JS X ca W nf (.For tg iter body [] pos) (tFor wi g tb) (sFor mi a mb) := by
  refine ⟨ps_for hpo hc hi.pi hg.pg hb.pss hs, fun S0 ρ s σ H E t hp => ?_⟩
  refine hi.ev _ _ _ _ _ _ t ((wS (nf := nf) E).bind hp fun I s1 _ J H1 ρ1 t1 n1 r1 hp1 => ?_)
  refine ⟨fun i m σ' H' => ∃ ρ' s', Sat ⟨X.K, ca, X.w⟩ S0 ρ' s' σ' H' ∧ ItOk ⟨X.K, ca, X.w⟩ (Wa S0 ρ' s'.e σ') ρ' H' J I ∧ PostS ⟨X.K, ca, X.w⟩ W nf S0 ρ' s' σ' H' (forF I a mb m i s') E, ⟨lim, ρ1, s1, t1, r1, hp1⟩, ?_⟩
  rintro i m σ2 H2 ⟨ρ2, s2, t2, ok2, hp2⟩
  cases m with
  | zero => exact hp2.elim
  | succ m =>
    have hp2 : PostS ⟨X.K, ca, X.w⟩ W nf S0 ρ2 s2 σ2 H2 ((itN I i s2).bind fun o => match o with
      | none => ret .nx
      | some d => fun s => match a d s with
        | none => .stuck
        | some s' => (mb s').bind (aft (forF I a mb m (i + 1)))) E := hp2
    rcases itN_seq t2 ok2 i with z | ⟨z, st⟩ | ⟨d, z, go, y⟩
    · rw [z] at hp2; exact hp2.elim
    · rw [z] at hp2
      exact .inl ⟨st, PostS.nx (X := W) hp2 t2⟩
    · rw [z] at hp2
      refine .inr ⟨go, fun σ' H' => ∃ ρ' s', Sat ⟨X.K, ca, X.w⟩ S0 ρ' s' σ' H' ∧ ItOk ⟨X.K, ca, X.w⟩ (Wa S0 ρ' s'.e σ') ρ' H' J I ∧ PostS ⟨X.K, ca, X.w⟩ W nf S0 ρ' s' σ' H' (forF I a mb m (i + 1) s') E, fun σ' H' n => ⟨m, Nat.lt_succ_self _, n⟩, fun x H' hy => ?_⟩
      obtain ⟨ex, rx⟩ := y x H' hy
      obtain ⟨t2', kp⟩ := t2.grow ex
      have n0 : Nx S0 ρ2 s2.e σ2 H2 ρ2 s2.e σ2 H' := ⟨kp, List.prefix_refl _⟩
      have hp2 : PostS ⟨X.K, ca, X.w⟩ W nf S0 ρ2 s2 σ2 H2 (match a d s2 with
        | none => .stuck
        | some s' => (mb s').bind (aft (forF I a mb m (i + 1)))) E := hp2
      cases ea : a d s2 with
      | none => rw [ea] at hp2; exact hp2.elim
      | some s3 =>
        rw [ea] at hp2
        refine hg.ev _ _ _ _ _ _ _ _ _ t2' rx ea fun σ3 t3 n3 f3 => ?_
        exact hb.ev _ _ _ _ _ _ t3 (postS_aft (PostS.fromS hp2 (n0.trans n3) f3) fun s4 σ4 H4 ρ4 t4 n4 _ hp4 => ⟨ρ4, s4, t4, ok2.mono ((n0.trans n3).trans n4).k ((n0.trans n3).trans n4).p, hp4⟩)
theorem js_while (hpo : PassesOwn (model X.prog X.w) X.A X.env X.xe) (hc : JT X ca W e tu mu) (hb : JB X ca W nf body tb mb) : JS X ca W nf (.While e body [] pos) (tWhile tu tb) (sWhile mu mb) := by
  refine ⟨ps_while hpo hc.pt hb.pss, fun S0 ρ s σ H E t hp => ?_⟩
  refine ⟨fun m σ' H' => ∃ ρ' s', Sat ⟨X.K, ca, X.w⟩ S0 ρ' s' σ' H' ∧ PostS ⟨X.K, ca, X.w⟩ W nf S0 ρ' s' σ' H' (whF mu mb m s') E, ⟨lim, ρ, s, t, hp⟩, ?_⟩
  rintro m σ2 H2 ⟨ρ2, s2, t2, hp2⟩
  cases m with
  | zero => exact hp2.elim
  | succ m =>
    have hp2 : PostS ⟨X.K, ca, X.w⟩ W nf S0 ρ2 s2 σ2 H2 ((mu s2).bind fun k => if k = true then bnd mb (aft (whF mu mb m)) else ret .nx) E := hp2
    refine hc.ev _ _ _ _ _ _ t2 ((wS (nf := nf) E).bind hp2 fun x s3 _ v H3 ρ3 t3 n3 r3 hp3 => ?_)
    obtain rfl : x = v := Eq.symm r3
    have hp3 : PostS ⟨X.K, ca, X.w⟩ W nf S0 ρ3 s3 σ2 H3 ((if x = true then bnd mb (aft (whF mu mb m)) else ret .nx) s3) E := hp3
    cases x with
    | true =>
      rw [if_pos rfl] at hp3 ⊢
      refine ⟨fun σ' H' => ∃ ρ' s', Sat ⟨X.K, ca, X.w⟩ S0 ρ' s' σ' H' ∧ PostS ⟨X.K, ca, X.w⟩ W nf S0 ρ' s' σ' H' (whF mu mb m s') E, fun σ' H' n => ⟨m, Nat.lt_succ_self _, n⟩, ?_⟩
      have hp3 : PostS ⟨X.K, ca, X.w⟩ W nf S0 ρ3 s3 σ2 H3 ((mb s3).bind (aft (whF mu mb m))) E := hp3
      exact hb.ev _ _ _ _ _ _ t3 (postS_aft hp3 fun s4 σ4 H4 ρ4 t4 n4 _ hp4 => ⟨ρ4, s4, t4, hp4⟩)
    | false =>
      rw [if_neg Bool.false_ne_true] at hp3 ⊢
      exact PostS.nx (X := W) hp3 t3
end
end Mi

namespace Mi
open PySem PySem.Spec PyProof.Rows L2

/-! ### comprehensions -/
def wipeE (e : List Slot) : List Nat → List Slot
  | [] => e
  | v :: vs => (wipeE e vs).set v .no
def backE (e0 e : List Slot) : List Nat → List Slot
  | [] => e
  | v :: vs => (backE e0 e vs).set v (e0.getD v .no)
def notOwn : Slot → Bool | .own _ => false | _ => true
def freeOf (e : List Slot) (vs : List Nat) : Bool := vs.all fun v => notOwn (e.getD v .no)
theorem wipeE_len {e : List Slot} : ∀ vs, (wipeE e vs).length = e.length
  | [] => rfl
  | v :: vs => by unfold wipeE; rw [List.length_set, wipeE_len vs]
theorem backE_len {e0 e : List Slot} : ∀ vs, (backE e0 e vs).length = e.length
  | [] => rfl
  | v :: vs => by unfold backE; rw [List.length_set, backE_len vs]
theorem wipeE_out {e : List Slot} {i : Nat} : ∀ {vs : List Nat}, i ∉ vs → (wipeE e vs)[i]? = e[i]?
  | [], _ => rfl
  | v :: vs, h => by
    unfold wipeE
    rw [List.getElem?_set_ne (fun z => h (by rw [z]; exact List.mem_cons_self)), wipeE_out fun z => h (List.mem_cons_of_mem _ z)]
theorem wipeE_in {e : List Slot} {i : Nat} : ∀ {vs : List Nat}, i ∈ vs → ∀ x, (wipeE e vs)[i]? = some x → x = .no
  | v :: vs, h, x, q => by
    unfold wipeE at q
    rcases getset q with ⟨_, z⟩ | ⟨ne, q⟩
    · exact z.symm
    · rcases List.mem_cons.mp h with z | z
      · exact (ne z).elim
      · exact wipeE_in z x q
theorem backE_out {e0 e : List Slot} {i : Nat} : ∀ {vs : List Nat}, i ∉ vs → (backE e0 e vs)[i]? = e[i]?
  | [], _ => rfl
  | v :: vs, h => by
    unfold backE
    rw [List.getElem?_set_ne (fun z => h (by rw [z]; exact List.mem_cons_self)), backE_out fun z => h (List.mem_cons_of_mem _ z)]
theorem backE_in {e0 e : List Slot} {i : Nat} : ∀ {vs : List Nat}, i ∈ vs → ∀ x, (backE e0 e vs)[i]? = some x → x = e0.getD i .no
  | v :: vs, h, x, q => by
    unfold backE at q
    rcases getset q with ⟨z1, z⟩ | ⟨ne, q⟩
    · rw [z1]; exact z.symm
    · rcases List.mem_cons.mp h with z | z
      · exact (ne z).elim
      · exact backE_in z x q
theorem free_own {e : List Slot} {vs : List Nat} {i : Nat} {d : D} (f : freeOf e vs = true) (h : i ∈ vs) : e[i]? ≠ some (.own d) := fun z => by
  have := List.all_eq_true.mp f i h
  rw [List.getD_eq_getElem?_getD, z] at this
  cases this
/-- a target that stores to vs alone -/
def GW (g : TG) (vs : List Nat) : Prop := ∀ v σ H Q, g v σ H (fun σ2 H2 => wipe σ2 vs = wipe σ vs → Q σ2 H2) → g v σ H Q
theorem wipe_set {σ : L2.St} {i : Nat} {x : Option V} : ∀ {vs : List Nat}, i ∈ vs → wipe (σ.set i x) vs = wipe σ vs
  | v :: vs, h => by
    unfold wipe
    by_cases hi : i ∈ vs
    · rw [wipe_set hi]
    · have hv : i = v := (List.mem_cons.mp h).resolve_right hi
      subst hv
      have key : ∀ (ws : List Nat), i ∉ ws → wipe (σ.set i x) ws = (wipe σ ws).set i x := by
        intro ws
        induction ws with
        | nil => intro _; rfl
        | cons w ws ih =>
          intro hw
          unfold wipe
          rw [ih fun z => hw (List.mem_cons_of_mem _ z)]
          exact List.set_comm _ _ (fun z => hw (by rw [z]; exact List.mem_cons_self))
      rw [key vs hi, List.set_set]
theorem gw_name {i : Nat} {vs : List Nat} (h : i ∈ vs) : GW (gName i) vs := fun v σ H Q q => q (wipe_set h)
def GWs (g : TGs) (vs : List Nat) : Prop := ∀ xs σ H Q, g xs σ H (fun σ2 H2 => wipe σ2 vs = wipe σ vs → Q σ2 H2) → g xs σ H Q
theorem gws_nil {vs : List Nat} : GWs gNil vs := fun xs σ H Q q => ⟨q.1, q.2 rfl⟩
/-- what it leads to may be weakened -/
def GMono (g : TG) : Prop := ∀ v σ H Q Q', (∀ σ2 H2, Q σ2 H2 → Q' σ2 H2) → g v σ H Q → g v σ H Q'
theorem gm_name {i : Nat} : GMono (gName i) := fun v σ H Q Q' h q => h _ _ q
theorem gws_cons {g : TG} {gs : TGs} {vs : List Nat} (h1 : GW g vs) (m1 : GMono g) (h2 : GWs gs vs) : GWs (gCons g gs) vs := fun xs σ H Q q => by
  obtain ⟨v, r, e, q⟩ := q
  refine ⟨v, r, e, h1 v σ H _ (m1 v σ H _ _ (fun σ2 H2 z hw => ?_) q)⟩
  refine h2 r σ2 H2 Q ?_
  rw [hw]
  exact z
theorem gw_tup {K : PySem.W.Frag} {n : Nat} {gs : TGs} {vs : List Nat} (h : GWs gs vs) : GW (gTup K n gs) vs := fun v σ H Q q => by
  obtain ⟨a, xs, e, hs, hl, q⟩ := q
  exact ⟨a, xs, e, hs, hl, h xs σ H Q q⟩
def lcF (I : Itd) (tg : TgF) (tt : M Bool) (te : M Loc) (vs : List Nat) : Nat → List D → Nat → M D
  | 0, _, _ => stk
  | n + 1, acc, i => bnd (itN I i) fun o => match o with
    | none => ret (.lst acc)
    | some d => fun s => if freeOf s.e vs = true then match tg d ⟨wipeE s.e vs, s.t⟩ with
      | none => .stuck
      | some s1 => match tt s1 with
        | .ok true s2 => match (te s2).bind toVal with
          | .ok d s3 => if freeOf s3.e vs = true ∧ acc.length < lim then lcF I tg tt te vs n (acc ++ [d]) (i + 1) ⟨backE s.e s3.e vs, s3.t⟩ else .stuck
          | _ => .stuck
        | .ok false s2 => if freeOf s2.e vs = true then lcF I tg tt te vs n acc (i + 1) ⟨backE s.e s2.e vs, s2.t⟩ else .stuck
        | _ => .stuck
      else .stuck
def nLc (mi : M Itd) (tg : TgF) (tt : M Bool) (te : M Loc) (vs : List Nat) : M D := bnd mi fun I => lcF I tg tt te vs lim [] 0
section
variable {G : Gc} {S0 : Addr → Prop} {ρ ρ' : List Addr} {s s' : S} {σ σ' : L2.St} {H H' : Hp} {vs : List Nat} {o : HO} {a : Addr}
theorem wa_wipe (f : freeOf s.e vs = true) : Wa S0 ρ (wipeE s.e vs) (wipe σ vs) = Wa S0 ρ s.e σ := by
  funext b
  apply propext
  constructor
  · rintro (w | w | ⟨i, d, e1, e2⟩)
    · exact .inl w
    · exact .inr (.inl w)
    · by_cases hi : i ∈ vs
      · cases wipeE_in hi _ e1
      · rw [wipeE_out hi] at e1
        rw [wipe_out hi] at e2
        exact .inr (.inr ⟨i, d, e1, e2⟩)
  · rintro (w | w | ⟨i, d, e1, e2⟩)
    · exact .inl w
    · exact .inr (.inl w)
    · have hi : i ∉ vs := fun h => free_own f h e1
      exact .inr (.inr ⟨i, d, by rw [wipeE_out hi]; exact e1, by rw [wipe_out hi]; exact e2⟩)
theorem Sat.wipe (t : Sat G S0 ρ s σ H) (f : freeOf s.e vs = true) : Sat G S0 ρ ⟨wipeE s.e vs, s.t⟩ (L2.wipe σ vs) H := by
  have hw := wa_wipe (S0 := S0) (ρ := ρ) (σ := σ) f
  refine ⟨by rw [wipe_length]; exact (wipeE_len vs).trans t.len, fun i d e => ?_, fun i d e => ?_, fun i j b d d' e1 e2 e3 e4 => ?_, t.rlen, fun n b d e1 e2 => ?_, t.nd, t.rs, t.s0⟩
  · show ∃ v, (L2.wipe σ vs)[i]? = some (some v) ∧ Rep G (Wa S0 ρ (wipeE s.e vs) (L2.wipe σ vs)) ρ H v d
    rw [hw]
    by_cases hi : i ∈ vs
    · cases wipeE_in hi _ e
    · have e : (wipeE s.e vs)[i]? = some (.val d) := e
      rw [wipeE_out hi] at e
      rw [wipe_out hi]
      exact t.val i d e
  · show ∃ b, (L2.wipe σ vs)[i]? = some (some (.ref b)) ∧ ORep G (Wa S0 ρ (wipeE s.e vs) (L2.wipe σ vs)) ρ H b d ∧ b ∉ ρ ∧ ¬ S0 b
    rw [hw]
    by_cases hi : i ∈ vs
    · cases wipeE_in hi _ e
    · have e : (wipeE s.e vs)[i]? = some (.own d) := e
      rw [wipeE_out hi] at e
      rw [wipe_out hi]
      exact t.own i d e
  · have f1 : i ∉ vs := fun h => by cases wipeE_in h _ e1
    have f2 : j ∉ vs := fun h => by cases wipeE_in h _ e2
    have e1 : (wipeE s.e vs)[i]? = some (.own d) := e1
    have e2 : (wipeE s.e vs)[j]? = some (.own d') := e2
    rw [wipeE_out f1] at e1
    rw [wipeE_out f2] at e2
    rw [wipe_out f1] at e3
    rw [wipe_out f2] at e4
    exact t.inj i j b d d' e1 e2 e3 e4
  · show ORep G (Wa S0 ρ (wipeE s.e vs) (L2.wipe σ vs)) ρ H b d
    rw [hw]; exact t.sto n b d e1 e2
theorem same_out (hw : L2.wipe σ' vs = L2.wipe σ vs) {i : Nat} (h : i ∉ vs) : σ'[i]? = σ[i]? := by
  rw [← wipe_out h, hw, wipe_out h]
theorem wa_back {e0 : List Slot} (f0 : freeOf e0 vs = true) (f : freeOf s.e vs = true) (hw : L2.wipe σ' vs = L2.wipe σ vs) : Wa S0 ρ (backE e0 s.e vs) σ = Wa S0 ρ s.e σ' := by
  funext b
  apply propext
  constructor
  · rintro (w | w | ⟨i, d, e1, e2⟩)
    · exact .inl w
    · exact .inr (.inl w)
    · by_cases hi : i ∈ vs
      · have z := backE_in hi _ e1
        have := List.all_eq_true.mp f0 i hi
        rw [← z] at this
        cases this
      · rw [backE_out hi] at e1
        exact .inr (.inr ⟨i, d, e1, by rw [same_out hw hi]; exact e2⟩)
  · rintro (w | w | ⟨i, d, e1, e2⟩)
    · exact .inl w
    · exact .inr (.inl w)
    · have hi : i ∉ vs := fun h => free_own f h e1
      exact .inr (.inr ⟨i, d, by rw [backE_out hi]; exact e1, by rw [← same_out hw hi]; exact e2⟩)
/-- behind an element: the frame as it was -/
theorem Sat.back2 (t0 : Sat G S0 ρ s σ H) (f0 : freeOf s.e vs = true) (t : Sat G S0 ρ' s' σ' H') (f : freeOf s'.e vs = true) (hw : L2.wipe σ' vs = L2.wipe σ vs) (hl : s'.e.length = s.e.length) (k : Kp S0 (Wa S0 ρ s.e σ) H (Wa S0 ρ' s'.e σ') H') (p : ρ <+: ρ') :
    Sat G S0 ρ' ⟨backE s.e s'.e vs, s'.t⟩ σ H' := by
  have hW := wa_back (S0 := S0) (ρ := ρ') f0 f hw
  refine ⟨(backE_len vs).trans (hl.trans t0.len), fun i d e => ?_, fun i d e => ?_, fun i j b d d' e1 e2 e3 e4 => ?_, t.rlen, fun n b d e1 e2 => ?_, t.nd, t.rs, t.s0⟩
  · show ∃ v, σ[i]? = some (some v) ∧ Rep G (Wa S0 ρ' (backE s.e s'.e vs) σ) ρ' H' v d
    rw [hW]
    have e : (backE s.e s'.e vs)[i]? = some (.val d) := e
    by_cases hi : i ∈ vs
    · have z := backE_in hi _ e
      have z : s.e[i]? = some (.val d) := by
        rw [List.getD_eq_getElem?_getD] at z
        cases q : s.e[i]? with
        | none => rw [q] at z; cases z
        | some y => rw [q] at z; cases z; rfl
      obtain ⟨v, e1, r⟩ := t0.val i d z
      exact ⟨v, e1, r.mono k p⟩
    · rw [backE_out hi] at e
      rw [← same_out hw hi]
      exact t.val i d e
  · show ∃ b, σ[i]? = some (some (.ref b)) ∧ ORep G (Wa S0 ρ' (backE s.e s'.e vs) σ) ρ' H' b d ∧ b ∉ ρ' ∧ ¬ S0 b
    rw [hW]
    have e : (backE s.e s'.e vs)[i]? = some (.own d) := e
    by_cases hi : i ∈ vs
    · have z := backE_in hi _ e
      have := List.all_eq_true.mp f0 i hi
      rw [← z] at this
      cases this
    · rw [backE_out hi] at e
      rw [← same_out hw hi]
      exact t.own i d e
  · have g : ∀ {i : Nat} {d : D}, (backE s.e s'.e vs)[i]? = some (.own d) → i ∉ vs := fun {i d} e hi => by
      have z := backE_in hi _ e
      have := List.all_eq_true.mp f0 i hi
      rw [← z] at this
      cases this
    have f1 := g e1
    have f2 := g e2
    have e1 : (backE s.e s'.e vs)[i]? = some (.own d) := e1
    have e2 : (backE s.e s'.e vs)[j]? = some (.own d') := e2
    rw [backE_out f1] at e1
    rw [backE_out f2] at e2
    rw [← same_out hw f1] at e3
    rw [← same_out hw f2] at e4
    exact t.inj i j b d d' e1 e2 e3 e4
  · show ORep G (Wa S0 ρ' (backE s.e s'.e vs) σ) ρ' H' b d
    rw [hW]; exact t.sto n b d e1 e2
/-- the thing that no one else knows changes -/
theorem Sat.updS1 (t : Sat G (S1 S0 a) ρ s σ H) (nw : ¬ Wa S0 ρ s.e σ a) (nt : noT o := by exact fun _ z => nomatch z) : Sat G (S1 S0 a) ρ s σ (upd H a o) ∧ Kp S0 (Wa (S1 S0 a) ρ s.e σ) H (Wa (S1 S0 a) ρ s.e σ) (upd H a o) := by
  have wa : Wa (S1 S0 a) ρ s.e σ a := .inl (.inr rfl)
  have kp : Kp S0 (Wa (S1 S0 a) ρ s.e σ) H (Wa (S1 S0 a) ρ s.e σ) (upd H a o) := kp_mut wa fun h => nw (.inl h)
  have pf := List.prefix_refl ρ
  refine ⟨⟨t.len, fun i d e => let ⟨v, e1, r⟩ := t.val i d e; ⟨v, e1, r.mono kp pf⟩, fun i d e => ?_, t.inj, t.rlen, fun n b d e1 e2 => ?_, t.nd, t.rs, fun b w => ?_⟩, kp⟩
  · obtain ⟨b, e1, r, n1, n2⟩ := t.own i d e
    exact ⟨b, e1, r.mono kp pf (upd_ne fun z => n2 (.inr z)), n1, n2⟩
  · exact (t.sto n b d e1 e2).mono kp pf (upd_ne fun z => t.rs b (List.mem_of_getElem? e1) (.inr z))
  · by_cases z : b = a
    · exact ⟨o, by rw [z]; exact upd_same, nt⟩
    · obtain ⟨u, e, nz⟩ := t.s0 b w
      exact ⟨u, by rw [upd_ne z]; exact e, nz⟩
theorem toVal_ok {l : Loc} {v : V} (t : Sat G S0 ρ s σ H) (r : LRep G (Wa S0 ρ s.e σ) ρ H σ v l) : toVal l s = .stuck ∨ ∃ d s1, toVal l s = .ok d s1 ∧ Sat G S0 ρ s1 σ H ∧ Nx S0 ρ s.e σ H ρ s1.e σ H ∧ Rep G (Wa S0 ρ s1.e σ) ρ H v d := by
  cases l with
  | val d => exact .inr ⟨d, s, rfl, t, .refl, r⟩
  | own i =>
    have r' : σ[i]? = some (some v) := r
    cases e : s.e[i]? with
    | none => exact .inl (by simp only [toVal, e])
    | some sl =>
      cases sl with
      | no => exact .inl (by simp only [toVal, e])
      | val d =>
        obtain ⟨v', e1, q⟩ := t.val i d e
        rw [r'] at e1; cases e1
        exact .inr ⟨d, s, by simp only [toVal, e], t, .refl, q⟩
      | own d =>
        obtain ⟨t1, n1⟩ := t.freeze e
        obtain ⟨v', e1, q⟩ := t1.val i d (List.getElem?_set_self (List.getElem?_eq_some_iff.mp e).1)
        rw [r'] at e1; cases e1
        exact .inr ⟨d, _, by simp only [toVal, e], t1, n1, q⟩
end
abbrev W0 : WX := fun _ _ _ _ => False
section
variable {X : Cx} {ca : Nat → Addr} {W : WX} {elt tg iter : Expr} {ifs : List Expr} {scope : Scope} {own : List (Str × Nat)} {pos : Pos} {wi : TI} {mi : M Itd} {g : TG} {a : TgF} {tt : TT} {mt : M Bool} {te : TE} {me : M Loc}
/-- one of the block's frames -/
abbrev Blk (X : Cx) (scope : Scope) (s : Shared) (H : Hp) (C : Addr) (cl : List (Str × Addr)) (fp : List Addr) : Cx := X.blk s H scope (compEnvC scope cl C X.env) fp
structure JTs (X : Cx) (ca : Nat → Addr) (W : WX) (ifs : List Expr) (tt : TT) (m : M Bool) : Prop where
  pts : PTs X ifs tt
  ev : Ev ⟨X.K, ca, X.w⟩ W BRel tt m
theorem jts_nil : JTs X ca W [] tYes (ret true) := ⟨pts_nil, fun S0 ρ s σ H Q t hp => Post.ret (R := BRel) hp t rfl⟩
theorem jts_one {c : Expr} {tu : TT} {mu : M Bool} (h : JT X ca W c tu mu) : JTs X ca W [c] tu mu := ⟨pts_one h.pt, h.ev⟩
theorem ev_lc {G : Gc} {vs : List Nat} (hi : Ev G W (IRel G) wi mi) (hg : EvG G 0 g a) (gw : GW g vs) (ht : Ev G W0 BRel tt mt) (he : Ev G W0 (LRep G) te me) (hlen : ∀ d s s', a d s = some s' → s'.e.length = s.e.length) : EvN G W (tLc wi g tt te vs) (nLc mi a mt me vs) := by
  intro S0 ρ0 s0 σ H0 Q t0 hp
  refine hi _ _ _ _ _ _ t0 ((wN Q).bind hp fun I s1 _ J H1 ρ1 t1 n1 r1 hp1 D nD => ?_)
  obtain ⟨tD, kD, nwD⟩ := t1.laid (o := .lst []) nD
  refine ⟨fun i m H => ∃ ρ s acc us, Sat G (S1 S0 D) ρ s σ H ∧ ItOk G (Wa (S1 S0 D) ρ s.e σ) ρ H J I ∧ H D = some (.lst us) ∧ Reps G (Wa (S1 S0 D) ρ s.e σ) ρ H us acc ∧ ¬ Wa S0 ρ s.e σ D ∧
      Kp S0 (Wa S0 ρ1 s1.e σ) H1 (Wa (S1 S0 D) ρ s.e σ) H ∧ ρ1 <+: ρ ∧ PostN G W S0 ρ1 s1 σ H1 (lcF I a mt me vs m acc i s) Q,
    ⟨lim, ρ1, s1, [], [], tD, r1.mono kD (List.prefix_refl _), upd_same, .nil, nwD, kD, List.prefix_refl _, hp1⟩, ?_⟩
  rintro i m H ⟨ρ, s, acc, us, t, ok, hD, rs, nw, k, p, hp⟩
  cases m with
  | zero => exact hp.elim
  | succ m =>
    have hp : PostN G W S0 ρ1 s1 σ H1 ((itN I i s).bind fun o => match o with
      | none => ret (.lst acc)
      | some d => fun s => if freeOf s.e vs = true then match a d ⟨wipeE s.e vs, s.t⟩ with
        | none => .stuck
        | some s1 => match mt s1 with
          | .ok true s2 => match (me s2).bind toVal with
            | .ok d s3 => if freeOf s3.e vs = true ∧ acc.length < lim then lcF I a mt me vs m (acc ++ [d]) (i + 1) ⟨backE s.e s3.e vs, s3.t⟩ else .stuck
            | _ => .stuck
          | .ok false s2 => if freeOf s2.e vs = true then lcF I a mt me vs m acc (i + 1) ⟨backE s.e s2.e vs, s2.t⟩ else .stuck
          | _ => .stuck
        else .stuck) Q := hp
    rcases itN_seq t ok i with z | ⟨z, st⟩ | ⟨d, z, go, y⟩
    · rw [z] at hp; exact hp.elim
    · rw [z] at hp
      exact .inl ⟨st, hp D H ρ t k p nw (.lst hD rs)⟩
    · rw [z] at hp
      refine .inr ⟨go, fun H' => ∃ m', m' < m + 1 ∧ ∃ ρ s acc us, Sat G (S1 S0 D) ρ s σ H' ∧ ItOk G (Wa (S1 S0 D) ρ s.e σ) ρ H' J I ∧ H' D = some (.lst us) ∧ Reps G (Wa (S1 S0 D) ρ s.e σ) ρ H' us acc ∧ ¬ Wa S0 ρ s.e σ D ∧
        Kp S0 (Wa S0 ρ1 s1.e σ) H1 (Wa (S1 S0 D) ρ s.e σ) H' ∧ ρ1 <+: ρ ∧ PostN G W S0 ρ1 s1 σ H1 (lcF I a mt me vs m' acc (i + 1) s) Q, fun H' n => n, fun x H' hy => ?_⟩
      obtain ⟨ex, rx⟩ := y x H' hy
      obtain ⟨t, kpg⟩ := t.grow ex
      have ok := ok.mono kpg (List.prefix_refl _)
      have hD := ex D _ hD
      have rs := rs.mono kpg (List.prefix_refl _)
      have k : Kp S0 (Wa S0 ρ1 s1.e σ) H1 (Wa (S1 S0 D) ρ s.e σ) H' := k.trans ⟨kpg.keep, kpg.wn, fun b o w e => kpg.s0 b o (.inl w) e⟩
      have hp : PostN G W S0 ρ1 s1 σ H1 (if freeOf s.e vs = true then match a d ⟨wipeE s.e vs, s.t⟩ with
        | none => .stuck
        | some s1 => match mt s1 with
          | .ok true s2 => match (me s2).bind toVal with
            | .ok d s3 => if freeOf s3.e vs = true ∧ acc.length < lim then lcF I a mt me vs m (acc ++ [d]) (i + 1) ⟨backE s.e s3.e vs, s3.t⟩ else .stuck
            | _ => .stuck
          | .ok false s2 => if freeOf s2.e vs = true then lcF I a mt me vs m acc (i + 1) ⟨backE s.e s2.e vs, s2.t⟩ else .stuck
          | _ => .stuck
        else .stuck) Q := hp
      by_cases f0 : freeOf s.e vs = true
      · rw [if_pos f0] at hp
        have tw := t.wipe (vs := vs) f0
        have hww := wa_wipe (S0 := S1 S0 D) (ρ := ρ) (σ := σ) f0
        cases ea : a d ⟨wipeE s.e vs, s.t⟩ with
        | none => rw [ea] at hp; exact hp.elim
        | some s2 =>
          rw [ea] at hp
          refine gw x _ _ _ (hg _ _ ⟨wipeE s.e vs, s.t⟩ _ _ _ _ _ _ tw (by rw [hww]; exact rx) ea fun σ2 t2 n2 _ hw2 => ?_)
          have hw2 : wipe σ2 vs = wipe (wipe σ vs) vs := hw2
          have ww : wipe (wipe σ vs) vs = wipe σ vs := by
            apply List.ext_getElem?
            intro j
            by_cases hj : j ∈ vs
            · have l1 : (wipe (wipe σ vs) vs).length = (wipe σ vs).length := by rw [wipe_length]
              have all : ∀ (τ : L2.St), ∀ (ws : List Nat), j ∈ ws → ∀ (x : Option V), (wipe τ ws)[j]? = some x → x = none := fun τ ws => by
                induction ws with
                | nil => intro h; cases h
                | cons w ws ih =>
                  intro h x q
                  unfold wipe at q
                  rcases getset q with ⟨_, z⟩ | ⟨ne, q⟩
                  · exact z.symm
                  · exact ih ((List.mem_cons.mp h).resolve_left ne) x q
              cases q1 : (wipe (wipe σ vs) vs)[j]? with
              | none =>
                rw [List.getElem?_eq_none_iff] at q1
                rw [l1] at q1
                exact (List.getElem?_eq_none_iff.mpr q1).symm
              | some x1 =>
                have h1 := all _ vs hj x1 q1
                have hl : j < (wipe σ vs).length := by rw [← l1]; exact (List.getElem?_eq_some_iff.mp q1).1
                rw [List.getElem?_eq_getElem hl]
                have h2 := all _ vs hj _ (List.getElem?_eq_getElem hl)
                rw [h1, h2]
            · rw [wipe_out hj]
          rw [ww] at hw2
          refine ⟨hw2, ?_⟩
          have n2' : Kp (S1 S0 D) (Wa (S1 S0 D) ρ s.e σ) H' (Wa (S1 S0 D) ρ s2.e σ2) H' := by have := n2.k; rw [hww] at this; exact this
          have len2 : s2.e.length = s.e.length := (hlen _ _ _ ea).trans (wipeE_len vs)
          refine ht _ _ _ _ _ _ t2 ?_
          cases em : mt s2 with
          | stuck => simp only [em] at hp; exact hp.elim
          | exc x s3 => simp only [em] at hp; exact hp.elim
          | ok b s3 =>
            intro b' H3 ρ3 t3 n3 r3
            obtain rfl : b' = b := r3
            have hs : H3 D = some (.lst us) := n3.k.s0 D _ (.inr rfl) hD
            cases b' with
            | false =>
              simp only [em] at hp
              rw [if_neg Bool.false_ne_true]
              by_cases f3 : freeOf s3.e vs = true
              · rw [if_pos f3] at hp
                have kk : Kp (S1 S0 D) (Wa (S1 S0 D) ρ s.e σ) H' (Wa (S1 S0 D) ρ3 s3.e σ2) H3 := n2'.trans n3.k
                have hl3 : s3.e.length = s.e.length := by rw [t3.len, ← t2.len]; exact len2
                have tb := t.back2 f0 t3 f3 hw2 hl3 kk n3.p
                have hWb := wa_back (S0 := S1 S0 D) (ρ := ρ3) (s := s3) (e0 := s.e) f0 f3 hw2
                refine ⟨m, Nat.lt_succ_self _, ρ3, ⟨backE s.e s3.e vs, s3.t⟩, acc, us, tb, ?_, hs, ?_, ?_, ?_, p.trans n3.p, hp⟩
                · show ItOk G (Wa (S1 S0 D) ρ3 (backE s.e s3.e vs) σ) ρ3 H3 J I
                  rw [hWb]; exact ok.mono kk n3.p
                · show Reps G (Wa (S1 S0 D) ρ3 (backE s.e s3.e vs) σ) ρ3 H3 us acc
                  rw [hWb]; exact rs.mono kk n3.p
                · have hn := tb.rs
                  intro w
                  rcases w with w | w | ⟨j, d', e1, e2⟩
                  · exact nw (.inl w)
                  · exact tb.rs D w (.inr rfl)
                  · obtain ⟨b, e3, _, _, nb⟩ := tb.own j d' e1
                    rw [e2] at e3; cases e3
                    exact nb (.inr rfl)
                · show Kp S0 (Wa S0 ρ1 s1.e σ) H1 (Wa (S1 S0 D) ρ3 (backE s.e s3.e vs) σ) H3
                  rw [hWb]
                  exact k.trans ⟨kk.keep, kk.wn, fun b o w e => kk.s0 b o (.inl w) e⟩
              · rw [if_neg f3] at hp; exact hp.elim
            | true =>
              simp only [em] at hp
              rw [if_pos rfl]
              refine he _ _ _ _ _ _ t3 ?_
              cases ev : me s3 with
              | stuck => simp only [ev, Res.bind] at hp; exact hp.elim
              | exc x s4 => simp only [ev, Res.bind] at hp; exact hp.elim
              | ok l s4 =>
                intro v H4 ρ4 t4 n4 r4
                simp only [ev, Res.bind] at hp
                rcases toVal_ok t4 r4 with z5 | ⟨d5, s5, z5, t5, n5, r5⟩
                · rw [z5] at hp; exact hp.elim
                · rw [z5] at hp
                  have hp : PostN G W S0 ρ1 s1 σ H1 (if freeOf s5.e vs = true ∧ acc.length < lim then lcF I a mt me vs m (acc ++ [d5]) (i + 1) ⟨backE s.e s5.e vs, s5.t⟩ else .stuck) Q := hp
                  by_cases f5 : freeOf s5.e vs = true ∧ acc.length < lim
                  · rw [if_pos f5] at hp
                    have kk : Kp (S1 S0 D) (Wa (S1 S0 D) ρ s.e σ) H' (Wa (S1 S0 D) ρ4 s5.e σ2) H4 := ((n2'.trans n3.k).trans n4.k).trans n5.k
                    have pp : ρ <+: ρ4 := n3.p.trans n4.p
                    have hl5 : s5.e.length = s.e.length := by rw [t5.len, ← t2.len]; exact len2
                    have tb := t.back2 f0 t5 f5.1 hw2 hl5 kk pp
                    have hWb := wa_back (S0 := S1 S0 D) (ρ := ρ4) (s := s5) (e0 := s.e) f0 f5.1 hw2
                    have nw5 : ¬ Wa S0 ρ4 (backE s.e s5.e vs) σ D := by
                      intro w
                      rcases w with w | w | ⟨j, d', e1, e2⟩
                      · exact nw (.inl w)
                      · exact tb.rs D w (.inr rfl)
                      · obtain ⟨b, e3, _, _, nb⟩ := tb.own j d' e1
                        rw [e2] at e3; cases e3
                        exact nb (.inr rfl)
                    have hs4 : H4 D = some (.lst us) := n4.k.s0 D _ (.inr rfl) hs
                    obtain ⟨tu, ku⟩ := Sat.updS1 (o := .lst (us ++ [v])) tb nw5
                    have ku : Kp S0 (Wa (S1 S0 D) ρ4 (backE s.e s5.e vs) σ) H4 (Wa (S1 S0 D) ρ4 (backE s.e s5.e vs) σ) (upd H4 D (.lst (us ++ [v]))) := ku
                    refine ⟨us, hs4, lim_lt (by rw [rs.length]; exact f5.2), m, Nat.lt_succ_self _, ρ4, ⟨backE s.e s5.e vs, s5.t⟩, acc ++ [d5], us ++ [v], tu, ?_, upd_same, ?_, nw5, ?_, p.trans pp, hp⟩
                    · show ItOk G (Wa (S1 S0 D) ρ4 (backE s.e s5.e vs) σ) ρ4 _ J I
                      rw [hWb] at ku ⊢; exact (ok.mono kk pp).mono ku (List.prefix_refl _)
                    · show Reps G (Wa (S1 S0 D) ρ4 (backE s.e s5.e vs) σ) ρ4 _ (us ++ [v]) (acc ++ [d5])
                      rw [hWb] at ku ⊢; exact ((rs.mono kk pp).append (.cons r5 .nil)).mono ku (List.prefix_refl _)
                    · show Kp S0 (Wa S0 ρ1 s1.e σ) H1 (Wa (S1 S0 D) ρ4 (backE s.e s5.e vs) σ) _
                      have k1 : Kp S0 (Wa (S1 S0 D) ρ s.e σ) H' (Wa (S1 S0 D) ρ4 (backE s.e s5.e vs) σ) H4 := by rw [hWb]; exact ⟨kk.keep, kk.wn, fun b o w e => kk.s0 b o (.inl w) e⟩
                      exact (k.trans k1).trans ku
                  · rw [if_neg f5] at hp; exact hp.elim
      · rw [if_neg f0] at hp; exact hp.elim
theorem gN_len {i : Nat} : ∀ d s s', gN i d s = some s' → s'.e.length = s.e.length := fun d s s' h => by
  unfold gN at h
  split at h
  · cases h; simp
  · cases h
theorem jn_lc (hc : X.calm = true) (hN : X.N.Nodup) (hi : JI X ca W tg iter wi mi) (ok : BlkOk X.N X.env.scope scope own) (hg : ∀ s H C cl fp, JG (Blk X scope s H C cl fp) ca 0 tg g a) (gw : GW g (own.map (·.2))) (hlen : ∀ d s s', a d s = some s' → s'.e.length = s.e.length)
    (ht : ∀ s H C cl fp, JTs (Blk X scope s H C cl fp) ca W0 ifs tt mt) (he : ∀ s H C cl fp, JE (Blk X scope s H C cl fp) ca W0 elt te me) (hs : ∀ x, foldedSetIterable iter X.env x = pure x := by intro _; rfl) :
    JN X ca W (.ListComp elt [⟨tg, iter, ifs, 0⟩] scope pos) (tLc wi g tt te (own.map (·.2))) (nLc mi a mt me (own.map (·.2))) :=
  ⟨pe_lc hc hN hi.pi ok (fun s H C cl fp => (hg s H C cl fp).pg) (fun s H C cl fp => (ht s H C cl fp).pts) (fun s H C cl fp => (he s H C cl fp).pe) hs, fun S0 ρ s σ H Q t hp => by
    -- one block stands for all
    exact ev_lc hi.ev ((hg X.s_0 H 0 [] []).ev) gw ((ht X.s_0 H 0 [] []).ev) ((he X.s_0 H 0 [] []).ev) hlen S0 ρ s σ H Q t hp⟩
end
end Mi

namespace Mi
open PySem PySem.Spec PyProof.Rows L2

/-! ### slices -/
def ORel : RelT (Option Int) (Option Int) := fun _ _ _ _ a b => a = b
theorem stab_O : Stab ORel := fun r _ _ => r
structure JO (X : Cx) (ca : Nat → Addr) (W : WX) (e : Option Expr) (to : TO) (m : M (Option Int)) : Prop where
  po : PO X e to
  ev : Ev ⟨X.K, ca, X.w⟩ W ORel to m
def pNo : M (Option Int) := ret none
def pSo (m : M Loc) : M (Option Int) := bnd m fun l => fun s => match l with | .val (.int i) => .ok (some i) s | _ => .stuck
def cutD (xs : List D) (lo hi : Option Int) : List D := (xs.drop (HT.sIx xs.length 0 lo)).take (HT.sIx xs.length xs.length hi - HT.sIx xs.length 0 lo)
theorem cut_reps {G : Gc} {W : Addr → Prop} {ρ : List Addr} {H : Hp} {vs : List V} {ds : List D} {lo hi : Option Int} (r : Reps G W ρ H vs ds) : Reps G W ρ H (cutV vs lo hi) (cutD ds lo hi) := by
  unfold cutV cutD
  rw [r.length]
  exact (r.drop _).take _
def rSlU (K : PySem.W.Frag) : V → Option Int → Option Int → Hp → VK → Prop := fun x lo hi H Q => rSlL K x lo hi H Q ∨ rSlA K x lo hi H Q ∨ rSlS x lo hi H Q
theorem sl_U {X : Cx} : SlR X (rSlU X.K) := sl_list.or (sl_tupA.or sl_str)
def slD (lo hi : Option Int) : D → Option D
  | .tup ds => some (.tup (cutD ds lo hi))
  | .str x => if x.length ≤ lim then some (.str (cutS x lo hi)) else none
  | .lst ds => some (.lst (cutD ds lo hi))
  | .lck ds => some (.lst (cutD ds lo hi))
  | _ => none
def eSl (m : M Loc) (ml mh : M (Option Int)) : M Loc := bnd m fun l => bnd ml fun lo => bnd mh fun hi => bnd (cont l) fun c => opt (slD lo hi c)
def nSl (m : M Loc) (ml mh : M (Option Int)) : M D := bnd m fun l => bnd ml fun lo => bnd mh fun hi => bnd (cont l) fun c => fun s => match c with
  | .lst ds => .ok (.lst (cutD ds lo hi)) s
  | .lck ds => .ok (.lst (cutD ds lo hi)) s
  | _ => .stuck
section
variable {G : Gc} {X : Cx} {ca : Nat → Addr} {W : WX} {e a b c : Expr} {es : List Expr} {te ta tb tc : TE} {tA : TA} {m ma mb mc : M Loc} {mA : M (List Loc)} {pos p : Pos} {tl th : TO} {ml mh : M (Option Int)} {lo hi : Option Expr}
theorem jo_none : JO X ca W none tNoPart pNo := ⟨po_none, fun S0 ρ s σ H Q t hp => Post.ret (R := ORel) hp t rfl⟩
theorem jo_some (h : JE X ca W e te m) : JO X ca W (some e) (tPart te) (pSo m) := ⟨po_some h.pe, fun S0 ρ s σ H Q t hp => by
  refine h.ev _ _ _ _ _ _ t (post_bind hp fun l s1 _ v H1 ρ1 t1 n1 r1 hp1 => ?_)
  cases l with
  | own i => exact hp1.elim
  | val d =>
    cases d with
    | int i =>
      obtain rfl := br_int (.inl (show Rep ⟨X.K, ca, X.w⟩ _ _ _ v (.int i) from r1))
      exact ⟨i, rfl, Post.ret (R := ORel) hp1 t1 rfl⟩
    | _ => exact hp1.elim⟩
theorem je_sl {p2 : Pos} (he : JE X ca W e te m) (hl : JO X ca W lo tl ml) (hh : JO X ca W hi th mh) : JE X ca W (.Subscript e (.Slice lo hi none p2) pos) (tSl (rSlU X.K) te tl th) (eSl m ml mh) := by
  refine ⟨pe_slice sl_U he.pe hl.po hh.po, fun S0 ρ s σ H Q t hp => ?_⟩
  refine he.ev _ _ _ _ _ _ t (post_bind hp fun l s1 _ v H1 ρ1 t1 n1 r1 hp1 => ?_)
  refine hl.ev _ _ _ _ _ _ t1 (post_bind hp1 fun o1 s2 _ o1' H2 ρ2 t2 n2 r2 hp2 => ?_)
  refine hh.ev _ _ _ _ _ _ t2 (post_bind hp2 fun o2 s3 _ o2' H3 ρ3 t3 n3 r3 hp3 => ?_)
  obtain rfl : o1' = o1 := r2
  obtain rfl : o2' = o2 := r3
  have r1 := stab_L (stab_L r1 n2.k n2.p) n3.k n3.p
  refine post_cont t3 r1 hp3 fun d bd hp4 => post_opt t3 hp4 fun d' e' q => ?_
  cases d with
  | tup ds =>
    cases e'
    obtain ⟨a, vs, rfl, hs, rr, z⟩ := br_tup bd
    refine .inr (.inl ⟨a, vs, hs |> fun _ => rfl, hs, fun w => ?_, fun w p n => q _ _ (.new n) (new_tup t3.tk n (cut_reps rr))⟩)
    have : cutD ds o1' o2' = ds := by
      unfold cutD
      rw [← rr.length, w.1, w.2, List.drop_zero, Nat.sub_zero, rr.length, List.take_length]
    rw [this] at q
    exact q _ _ .refl z
  | str x =>
    obtain rfl := br_str bd
    by_cases hx : x.length ≤ lim
    · have e' : some (D.str (cutS x o1' o2')) = some d' := (if_pos hx).symm.trans e'
      cases e'
      exact .inr (.inr ⟨x, rfl, lim_line hx, q _ _ .refl .str⟩)
    · have e' : none = some d' := (if_neg hx).symm.trans e'
      cases e'
  | lst ds => cases e'; obtain ⟨a, vs, rfl, hs, rr⟩ := br_lst bd; exact .inl ⟨a, vs, rfl, .inl (.inl hs), fun p n => q _ _ (.new n) (new_lst t3.tk n (cut_reps rr))⟩
  | lck ds => cases e'; obtain ⟨a, vs, rfl, hs, rr⟩ := br_lck bd; exact .inl ⟨a, vs, rfl, hs, fun p n => q _ _ (.new n) (new_lst t3.tk n (cut_reps rr))⟩
  | _ => cases e'
theorem jn_sl {p2 : Pos} (he : JE X ca W e te m) (hl : JO X ca W lo tl ml) (hh : JO X ca W hi th mh) : JN X ca W (.Subscript e (.Slice lo hi none p2) pos) (tSl (rSlL X.K) te tl th) (nSl m ml mh) := by
  refine ⟨pe_slice sl_list he.pe hl.po hh.po, fun S0 ρ s σ H Q t hp => ?_⟩
  refine he.ev _ _ _ _ _ _ t ((wN Q).bind hp fun l s1 _ v H1 ρ1 t1 n1 r1 hp1 => ?_)
  refine hl.ev _ _ _ _ _ _ t1 ((wN Q).bind hp1 fun o1 s2 _ o1' H2 ρ2 t2 n2 r2 hp2 => ?_)
  refine hh.ev _ _ _ _ _ _ t2 ((wN Q).bind hp2 fun o2 s3 _ o2' H3 ρ3 t3 n3 r3 hp3 => ?_)
  obtain rfl : o1' = o1 := r2
  obtain rfl : o2' = o2 := r3
  have r1 := stab_L (stab_L r1 n2.k n2.p) n3.k n3.p
  refine (wN Q).cont t3 r1 hp3 fun d bd _ hp4 => ?_
  cases d with
  | lst ds => obtain ⟨a, vs, rfl, hs, rr⟩ := br_lst bd; exact ⟨a, vs, rfl, .inl (.inl hs), fun p n => laid_lst (X := W) t3 (cut_reps rr) hp4 n⟩
  | lck ds => obtain ⟨a, vs, rfl, hs, rr⟩ := br_lck bd; exact ⟨a, vs, rfl, hs, fun p n => laid_lst (X := W) t3 (cut_reps rr) hp4 n⟩
  | _ => exact hp4.elim

/-! ### y = [..] as a statement of its own -/
variable {nf : Nat} {elt tg iter : Expr} {ifs : List Expr} {scope : Scope} {own : List (Str × Nat)} {wi : TI} {mi : M Itd} {g : TG} {aa : TgF} {tt : TT} {mt : M Bool} {me : M Loc} {te' : TE} {i : Nat} {y : Str} {py spos : Pos}
theorem ps_lcAt (hc : X.calm = true) (hN : X.N.Nodup) (hy : X.N[i]? = some y) (hyl : X.env.scope.names.lookup y = some .local) (hsw : swapsWith (.ListComp elt [⟨tg, iter, ifs, 0⟩] scope pos) (some (.Name y py)) spos.line X.env = pure true)
    (hi : JI X ca W tg iter wi mi) (ok : BlkOk X.N X.env.scope scope own) (hg : ∀ s H C cl fp, JG (Blk X scope s H C cl fp) ca 0 tg g aa) (gw : GW g (own.map (·.2))) (hlen : ∀ d s s', aa d s = some s' → s'.e.length = s.e.length)
    (ht : ∀ s H C cl fp, JTs (Blk X scope s H C cl fp) ca W0 ifs tt mt) (he : ∀ s H C cl fp, JE (Blk X scope s H C cl fp) ca W0 elt te' me) (hs : ∀ x, foldedSetIterable iter X.env x = pure x) :
    PS X (.Assign [.Name y py] (.ListComp elt [⟨tg, iter, ifs, 0⟩] scope pos) spos) (tAsg (tLc wi g tt te' (own.map (·.2))) (gName i)) ∧ EvN ⟨X.K, ca, X.w⟩ W (tLc wi g tt te' (own.map (·.2))) (nLc mi aa mt me (own.map (·.2))) :=
  ⟨ps_setLc hc hN hy hyl hsw hi.pi ok (fun s H C cl fp => (hg s H C cl fp).pg) (fun s H C cl fp => (ht s H C cl fp).pts) (fun s H C cl fp => (he s H C cl fp).pe) hs, (jn_lc hc hN hi ok hg gw hlen ht he hs (pos := pos)).ev⟩
/-- kept by its name alone | frozen -/
theorem js_ownLc (hc : X.calm = true) (hN : X.N.Nodup) (hy : X.N[i]? = some y) (hyl : X.env.scope.names.lookup y = some .local) (hsw : swapsWith (.ListComp elt [⟨tg, iter, ifs, 0⟩] scope pos) (some (.Name y py)) spos.line X.env = pure true)
    (hi : JI X ca W tg iter wi mi) (ok : BlkOk X.N X.env.scope scope own) (hg : ∀ s H C cl fp, JG (Blk X scope s H C cl fp) ca 0 tg g aa) (gw : GW g (own.map (·.2))) (hlen : ∀ d s s', aa d s = some s' → s'.e.length = s.e.length)
    (ht : ∀ s H C cl fp, JTs (Blk X scope s H C cl fp) ca W0 ifs tt mt) (he : ∀ s H C cl fp, JE (Blk X scope s H C cl fp) ca W0 elt te' me) (hs : ∀ x, foldedSetIterable iter X.env x = pure x := by intro _; rfl) (hnf : nf ≤ i := by decide) :
    JS X ca W nf (.Assign [.Name y py] (.ListComp elt [⟨tg, iter, ifs, 0⟩] scope pos) spos) (tAsg (tLc wi g tt te' (own.map (·.2))) (gName i)) (sOwn i (nLc mi aa mt me (own.map (·.2)))) :=
  have h := ps_lcAt hc hN hy hyl hsw hi ok hg gw hlen ht he hs
  ⟨h.1, ev_own hnf h.2⟩
theorem js_frzLc (hc : X.calm = true) (hN : X.N.Nodup) (hy : X.N[i]? = some y) (hyl : X.env.scope.names.lookup y = some .local) (hsw : swapsWith (.ListComp elt [⟨tg, iter, ifs, 0⟩] scope pos) (some (.Name y py)) spos.line X.env = pure true)
    (hi : JI X ca W tg iter wi mi) (ok : BlkOk X.N X.env.scope scope own) (hg : ∀ s H C cl fp, JG (Blk X scope s H C cl fp) ca 0 tg g aa) (gw : GW g (own.map (·.2))) (hlen : ∀ d s s', aa d s = some s' → s'.e.length = s.e.length)
    (ht : ∀ s H C cl fp, JTs (Blk X scope s H C cl fp) ca W0 ifs tt mt) (he : ∀ s H C cl fp, JE (Blk X scope s H C cl fp) ca W0 elt te' me) (hs : ∀ x, foldedSetIterable iter X.env x = pure x := by intro _; rfl) (hnf : nf ≤ i := by decide) :
    JS X ca W nf (.Assign [.Name y py] (.ListComp elt [⟨tg, iter, ifs, 0⟩] scope pos) spos) (tAsg (tLc wi g tt te' (own.map (·.2))) (gName i)) (sAsg (gN i) (eFrz (nLc mi aa mt me (own.map (·.2))))) :=
  have h := ps_lcAt hc hN hy hyl hsw hi ok hg gw hlen ht he hs
  ⟨h.1, ev_asg (ev_frz h.2) (ev_name hnf)⟩

/-! ### x op= e at a name -/
def sAug (i : Nat) (f : D → D → Option D) (m : M Loc) : M Fl := bnd (vr i) fun l0 => bnd (toVal l0) fun d0 => bnd m fun l => bnd (cont l) fun d => bnd (opt (f d0 d)) fun l2 => bnd (toVal l2) fun d2 => fun s => match gN i d2 s with | some s' => .ok .nx s' | none => .stuck
/-- .. of an int or a text, by values -/
theorem js_aug {x : Str} {op : Operator} {r : R2} {f : D → D → Option D} {pos' : Pos} (hN : X.N.Nodup) (hi : X.N[i]? = some x) (hx : L2.Loc X.env.scope x) (ho : OpR X (inplaceOp op) r) (sp : Sp2 ⟨X.K, ca, X.w⟩ r f) (he : JE X ca W e te m) (hf : X.fn x = true ∨ X.env.scope.names.lookup x = some .local := by first | exact .inl rfl | exact .inr rfl | assumption)
    (hnf : nf ≤ i := by decide) : JS X ca W nf (.AugAssign (.Name x pos') op e pos) (tAug i te r) (sAug i f m) := by
  refine ⟨ps_aug hN hi hx he.pe ho hf, fun S0 ρ s σ H E t hp => ?_⟩
  have hp : PostS ⟨X.K, ca, X.w⟩ W nf S0 ρ s σ H ((vr i s).bind fun l0 => bnd (toVal l0) fun d0 => bnd m fun l => bnd (cont l) fun d => bnd (opt (f d0 d)) fun l2 => bnd (toVal l2) fun d2 => fun s => match gN i d2 s with | some s' => .ok .nx s' | none => .stuck) E := hp
  have key := ev_vr (W := W) (G := ⟨X.K, ca, X.w⟩) (i := i) S0 ρ s σ H (fun v H1 => te σ H1 fun y H2 => r v y H2 fun z H3 => E.nx (σ.set i (some z)) H3) t
    ((wS (nf := nf) E).bind (R1 := LRep ⟨X.K, ca, X.w⟩) hp fun l0 s1 _ v H1 ρ1 t1 n1 r1 hp1 => (wS (nf := nf) E).toVal t1 r1 hp1 fun d0 s2 t2 n2 r2 hp2 => ?_)
  · obtain ⟨v, e1, q⟩ := key
    exact ⟨v, e1, q⟩
  · refine he.ev _ _ _ _ _ _ t2 ((wS (nf := nf) E).bind hp2 fun l s3 _ u H3 ρ3 t3 n3 r3 hp3 => (wS (nf := nf) E).cont t3 r3 hp3 fun d bd _ hp4 => ?_)
    have hp4 : PostS ⟨X.K, ca, X.w⟩ W nf S0 ρ3 s3 σ H3 ((opt (f d0 d) s3).bind fun l2 => bnd (toVal l2) fun d2 => fun s => match gN i d2 s with | some s' => .ok .nx s' | none => .stuck) E := hp4
    cases z : f d0 d with
    | none => rw [z] at hp4; exact hp4.elim
    | some d2 =>
      rw [z] at hp4
      have hp4 : PostS ⟨X.K, ca, X.w⟩ W nf S0 ρ3 s3 σ H3 (match gN i d2 s3 with | some s' => .ok .nx s' | none => .stuck) E := hp4
      refine sp _ _ _ _ _ _ _ _ _ t3.tk (.inl (r2.mono n3.k n3.p)) bd z fun w H4 x4 rw4 => ?_
      obtain ⟨t4, k4⟩ := t3.grow x4
      cases z2 : gN i d2 s3 with
      | none => rw [z2] at hp4; exact hp4.elim
      | some s5 =>
        rw [z2] at hp4
        refine ev_name (G := ⟨X.K, ca, X.w⟩) (nf := nf) hnf S0 ρ3 s3 σ H4 w d2 s5 _ t4 rw4 z2 fun σ' t5 n5 f5 => ?_
        exact hp4 σ' H4 ρ3 t5 ((⟨k4, List.prefix_refl _⟩ : Nx S0 ρ3 s3.e σ H3 ρ3 s3.e σ H4).trans n5) f5

/-! ### is None, isinstance, join -/
def isNonD (neg : Bool) : D → D → Option D
  | .non, .non => some (.bl (neg ^^ true))
  | .ptr _, .non => none
  | _, .non => some (.bl (neg ^^ false))
  | _, _ => none
theorem sp_isN : Sp2 G (fun x y H Q => y = .non ∧ Q (.bl (decide (x = .non))) H) (isNonD false) := by
  intro W ρ H x y dx dy d Q tk bx bby e q
  cases dy with
  | non =>
    obtain rfl := br_non bby
    refine ⟨rfl, ?_⟩
    cases dx with
    | non => obtain rfl := br_non bx; cases e; simpa using q (.bl true) H .refl .bl
    | bl b => obtain rfl := br_bl bx; cases e; simpa using q (.bl false) H .refl .bl
    | int b => obtain rfl := br_int bx; cases e; simpa using q (.bl false) H .refl .bl
    | str b => obtain rfl := br_str bx; cases e; simpa using q (.bl false) H .refl .bl
    | tup ds => obtain ⟨a, vs, rfl, _⟩ := br_tup bx; cases e; simpa using q (.bl false) H .refl .bl
    | lst ds => obtain ⟨a, vs, rfl, _⟩ := br_lst bx; cases e; simpa using q (.bl false) H .refl .bl
    | lck ds => obtain ⟨a, vs, rfl, _⟩ := br_lck bx; cases e; simpa using q (.bl false) H .refl .bl
    | dic ds => obtain ⟨a, vs, rfl, _⟩ := br_dic bx; cases e; simpa using q (.bl false) H .refl .bl
    | dit ds => obtain ⟨a, vs, rfl, _⟩ := br_dit bx; cases e; simpa using q (.bl false) H .refl .bl
    | din ds => obtain ⟨a, vs, rfl, _⟩ := br_din bx; cases e; simpa using q (.bl false) H .refl .bl
    | obj c fs => obtain ⟨a, dx, vs, rfl, _⟩ := br_obj bx; cases e; simpa using q (.bl false) H .refl .bl
    | ptr n => cases e
  | _ => cases dx <;> cases e
theorem sp_notN : Sp2 G (fun x y H Q => y = .non ∧ Q (.bl (!decide (x = .non))) H) (isNonD true) := by
  intro W ρ H x y dx dy d Q tk bx bby e q
  cases dy with
  | non =>
    obtain rfl := br_non bby
    refine ⟨rfl, ?_⟩
    cases dx with
    | non => obtain rfl := br_non bx; cases e; simpa using q (.bl false) H .refl .bl
    | bl b => obtain rfl := br_bl bx; cases e; simpa using q (.bl true) H .refl .bl
    | int b => obtain rfl := br_int bx; cases e; simpa using q (.bl true) H .refl .bl
    | str b => obtain rfl := br_str bx; cases e; simpa using q (.bl true) H .refl .bl
    | tup ds => obtain ⟨a, vs, rfl, _⟩ := br_tup bx; cases e; simpa using q (.bl true) H .refl .bl
    | lst ds => obtain ⟨a, vs, rfl, _⟩ := br_lst bx; cases e; simpa using q (.bl true) H .refl .bl
    | lck ds => obtain ⟨a, vs, rfl, _⟩ := br_lck bx; cases e; simpa using q (.bl true) H .refl .bl
    | dic ds => obtain ⟨a, vs, rfl, _⟩ := br_dic bx; cases e; simpa using q (.bl true) H .refl .bl
    | dit ds => obtain ⟨a, vs, rfl, _⟩ := br_dit bx; cases e; simpa using q (.bl true) H .refl .bl
    | din ds => obtain ⟨a, vs, rfl, _⟩ := br_din bx; cases e; simpa using q (.bl true) H .refl .bl
    | obj c fs => obtain ⟨a, dx, vs, rfl, _⟩ := br_obj bx; cases e; simpa using q (.bl true) H .refl .bl
    | ptr n => cases e
  | _ => cases dx <;> cases e
/-- the class of data -/
def tyN : D → Option (String ⊕ Nat)
  | .non => some (.inl "NoneType") | .bl _ => some (.inl "bool") | .int _ => some (.inl "int") | .str _ => some (.inl "str")
  | .tup _ => some (.inl "tuple") | .lst _ => some (.inl "list") | .lck _ => some (.inl "list") | .dic _ => some (.inl "dict") | .dit _ => some (.inl "dict") | .din _ => none
  | .obj c _ => some (.inr c) | .ptr _ => none
def tyT (ca : Nat → Addr) : String ⊕ Nat → Value
  | .inl s => .type s
  | .inr c => .ref (ca c)
/-- what isinstance asks of an own class -/
structure ClF (K : PySem.W.Frag) (C : Addr) : Prop where
  cl : Cls K C
  ha : PySem.W.findIn K (.ref C) "__class__" = some (some (.builtin "object.__class__"))
  hn : PySem.W.specialIn K (.builtin "object.__class__") "__get__" = some (some (.builtin "getset_descriptor.__get__"))
  tk : PySem.W.takesIn K (.builtin "object.__class__") = some true
  hm : PySem.W.mroIn K C (.type "object") = some true
theorem ty_br {W : Addr → Prop} {ρ : List Addr} {H : Hp} {v : V} {d : D} {k : String ⊕ Nat} (h : BR G W ρ H v d) (e : tyN d = some k) (cf : ∀ c, k = .inr c → ClF G.K (G.ca c)) : TyX G.K H v (tyT G.ca k) := by
  cases d with
  | non => cases e; rw [br_non h]; exact .base .non
  | bl b => cases e; rw [br_bl h]; exact .base (.bl b)
  | int b => cases e; rw [br_int h]; exact .base (.int b)
  | str b => cases e; rw [br_str h]; exact .base (.str b)
  | tup ds =>
    cases e
    obtain ⟨a, vs, rfl, hs, _⟩ := br_tup h
    rcases hs with (hs | ⟨o, hs⟩) | ⟨o, its, n, h1, h2, _⟩
    · exact .base (.tup hs)
    · exact .fTuple hs
    · exact .kTuple h1 h2
  | lst ds => cases e; obtain ⟨a, vs, rfl, hs, _⟩ := br_lst h; exact .base (.lst hs)
  | lck ds =>
    cases e
    obtain ⟨a, vs, rfl, hs, _⟩ := br_lck h
    rcases hs with (hs | ⟨o, hs⟩) | ⟨o, its, n, h1, h2, _⟩
    · exact .base (.lst hs)
    · exact .base (.frz hs)
    · exact .kList h1 h2
  | dic ds =>
    cases e
    obtain ⟨a, vs, rfl, hs, _⟩ := br_dic h
    rcases hs with hs | ⟨o, hs⟩
    · exact .base (.dK hs)
    · exact .fDict hs
  | dit ds => cases e; obtain ⟨a, vs, rfl, hs, _⟩ := br_dit h; exact .base (.dT hs)
  | din ds => cases e
  | obj c fs =>
    cases e
    obtain ⟨a, dx, vs, rfl, hs, _⟩ := br_obj h
    have f := cf c rfl
    exact .base (.ins hs f.cl f.ha f.hn f.tk f.hm)
  | ptr n => cases e
/-- isinstance(e, C), isinstance(e, (C, ..)): isa tells the answer by the class of the data -/
def eIsi (isa : String ⊕ Nat → Option Bool) (m : M Loc) : M Loc := op1 (fun d => match tyN d with | some k => (isa k).map .bl | none => none) m
theorem je_isi {cv : V} {cu : Value} {cl : Expr} {isa : String ⊕ Nat → Option Bool} (hg : Gl X "isinstance") (hm : X.mg "isinstance" = none) (he : JE X ca W e te m) (hcl : PE X cl (tC cv)) (hk : ClsV cv cu)
    (hi : ∀ k b, isa k = some b → (∀ c, k = .inr c → ClF X.K (ca c)) ∧ PySem.W.kitOne X.K (tyT ca k) cu = some b)
    (h1 : starEach [e, cl] X.env = (false, eval e X.env) :: starEach [cl] X.env := by rfl) (h2 : starEach [cl] X.env = [(false, eval cl X.env)] := by rfl) (hpl : (backTo pos (starEach [cl] X.env)).any (·.1) = false := by rfl) :
    JE X ca W (.Call (.Name "isinstance" p) [e, cl] [] pos) (tCB (rIsi X.K) (tCons te (tCons (tC cv) tNil))) (eIsi isa m) := by
  refine ⟨pe_callB call_isi hg hm (by decide +kernel) (pa_cons he.pe (pa_cons hcl pa_nil (by rw [h2]; rfl)) h1) (by decide) (by decide) h1 hpl, fun S0 ρ s σ H Q t hp => ?_⟩
  refine he.ev _ _ _ _ _ _ t (post_bind hp fun l s1 _ v H1 ρ1 t1 n1 r1 hp1 => post_cont t1 r1 hp1 fun d bd hp2 => post_opt t1 hp2 fun d' e' q => ?_)
  cases z : tyN d with
  | none => simp only [z] at e'; cases e'
  | some k =>
    simp only [z] at e'
    cases z2 : isa k with
    | none => rw [z2] at e'; cases e'
    | some b =>
      rw [z2] at e'
      cases e'
      obtain ⟨cf, kk⟩ := hi k b z2
      exact ⟨v, cv, tyT ca k, cu, b, rfl, hk, ty_br bd z cf, kk, q _ _ .refl .bl⟩
theorem je_isiT {cvs : List V} {cus : List Value} {cls : List Expr} {tk : TA} {k2 : Nat} {pt : Pos} {isa : String ⊕ Nat → Option Bool} (hg : Gl X "isinstance") (hm : X.mg "isinstance" = none) (he : JE X ca W e te m) (hcl : PA X cls tk) (htk : ∀ σ H Q, tk σ H Q = Q cvs H) (hk : Paired ClsV cvs cus) (hlen : cvs.length ≤ 100)
    (hi : ∀ k b, isa k = some b → (∀ c, k = .inr c → ClF X.K (ca c)) ∧ PySem.W.kitAny X.K (tyT ca k) cus = some b)
    (h1 : starEach [e, .Tuple cls k2 pt] X.env = (false, eval e X.env) :: starEach [.Tuple cls k2 pt] X.env := by rfl) (h2 : starEach [.Tuple cls k2 pt] X.env = [(false, eval (.Tuple cls k2 pt) X.env)] := by rfl) (hpl : (backTo pos (starEach [.Tuple cls k2 pt] X.env)).any (·.1) = false := by rfl) :
    JE X ca W (.Call (.Name "isinstance" p) [e, .Tuple cls k2 pt] [] pos) (tCB (rIsiT X.K) (tCons te (tCons (tTup tk) tNil))) (eIsi isa m) := by
  refine ⟨pe_callB call_isiT hg hm (by decide +kernel) (pa_cons he.pe (pa_cons (pe_tup hcl) pa_nil (by rw [h2]; rfl)) h1) (by decide) (by decide) h1 hpl, fun S0 ρ s σ H Q t hp => ?_⟩
  refine he.ev _ _ _ _ _ _ t (post_bind hp fun l s1 _ v H1 ρ1 t1 n1 r1 hp1 => post_cont t1 r1 hp1 fun d bd hp2 => post_opt t1 hp2 fun d' e' q => ?_)
  cases z : tyN d with
  | none => simp only [z] at e'; cases e'
  | some k =>
    simp only [z] at e'
    cases z2 : isa k with
    | none => rw [z2] at e'; cases e'
    | some b =>
      rw [z2] at e'
      cases e'
      obtain ⟨cf, kk⟩ := hi k b z2
      have bd' : ∀ {p : Addr} {o : HO}, H1 p = none → BR ⟨X.K, ca, X.w⟩ (Wa S0 ρ1 s1.e σ) ρ1 (upd H1 p o) v d := fun {p o} n => by
        rcases bd with r | ⟨a, ea, r⟩
        · exact .inl (r.ext (.new n))
        · obtain ⟨u, hu⟩ := r.some
          exact .inr ⟨a, ea, r.mono (S0 := fun _ => False) (Ext.kp (.new n)) (List.prefix_refl _) (upd_ne (ne_of_none hu n))⟩
      show tk σ H1 _
      rw [htk]
      refine ⟨lim_line (Nat.le_trans hlen (by decide)), fun p n => ?_⟩
      exact ⟨v, p, cvs, tyT ca k, cus, b, rfl, upd_same, hk, ty_br (bd' n) z cf, kk, q _ _ (.new n) .bl⟩
def strsD : List D → Option (List Str)
  | [] => some []
  | .str x :: r => (strsD r).map (x :: ·)
  | _ => none
theorem reps_strs {W : Addr → Prop} {ρ : List Addr} {H : Hp} : ∀ {vs : List V} {ds : List D} {xs : List Str}, Reps G W ρ H vs ds → strsD ds = some xs → vs = xs.map V.str
  | _, _, _, .nil, e => by cases e; rfl
  | _, d :: ds, xs, .cons r t, e => by
    cases d with
    | str x =>
      have e : (strsD ds).map (x :: ·) = some xs := e
      cases z : strsD ds with
      | none => rw [z] at e; cases e
      | some ms =>
        rw [z] at e
        cases e
        obtain rfl := br_str (.inl r)
        rw [reps_strs t z]
        rfl
    | _ => cases e
def joinS (a : Str) (ds : List D) : Option D := match strsD ds with
  | some xs => if (xs.map (·.length)).sum + xs.length * a.length ≤ lim then some (.str (Txt.join a xs)) else none
  | none => none
def joinD : D → List D → Option D
  | .str a, [.lst ds] => joinS a ds
  | .str a, [.tup ds] => joinS a ds
  | _, _ => none
def rJoin (K : PySem.W.Frag) : V → List V → Hp → VK → Prop := fun x xs H Q => ∃ a p, ∃ ys : List Str, x = .str a ∧ xs = [.ref p] ∧ (SqL K H p (ys.map V.str) ∨ SqT K H p (ys.map V.str)) ∧ (ys.map (·.length)).sum + ys.length * a.length ≤ 16777216 ∧ Q (.str (Txt.join a ys)) H
theorem sp_joinS {W : Addr → Prop} {ρ : List Addr} {H : Hp} {a : Str} {ds : List D} {d : D} {p : Addr} {vs : List V} {Q : VK} (hs : SqL G.K H p vs ∨ SqT G.K H p vs) (r : Reps G W ρ H vs ds) (e : joinS a ds = some d) (q : ∀ v H', Ext H H' → Rep G W ρ H' v d → Q v H') : rJoin G.K (.str a) [.ref p] H Q := by
  unfold joinS at e
  cases z : strsD ds with
  | none => rw [z] at e; cases e
  | some xs =>
    rw [z] at e
    by_cases hl : (xs.map (·.length)).sum + xs.length * a.length ≤ lim
    · have e : some (D.str (Txt.join a xs)) = some d := (if_pos hl).symm.trans e
      cases e
      rw [reps_strs r z] at hs
      exact ⟨a, p, xs, rfl, rfl, hs, Nat.le_trans hl (by decide), q _ _ .refl .str⟩
    · have e : none = some d := (if_neg hl).symm.trans e
      cases e
theorem sp_join : SpM G (rJoin G.K) joinD := by
  intro W ρ H x xs dx ds d Q tk bx bs e q
  match dx, ds, e with
  | .str a, [.lst ds], e => obtain ⟨y, rfl, b1⟩ := brs1 bs; obtain rfl := br_str bx; obtain ⟨p, vs, rfl, hs, r⟩ := br_lst b1; exact sp_joinS (.inl (.inl (.inl hs))) r e q
  | .str a, [.tup ds], e => obtain ⟨y, rfl, b1⟩ := brs1 bs; obtain rfl := br_str bx; obtain ⟨p, vs, rfl, hs, r, _⟩ := br_tup b1; exact sp_joinS (.inr hs) r e q
/-- a built-in's method that changes nothing -/
def eMe (kd : D → Bool) (f : D → List D → Option D) (mo : M Loc) (ma : M (List Loc)) : M Loc := bnd mo fun l => bnd (cont l) fun c0 => if kd c0 = true then bnd ma fun ls => bnd (cont l) fun c => bnd (conts ls) fun ds => opt (f c ds) else stk
theorem ev_me {T : String} {r : V → List V → Hp → VK → Prop} {kd : D → Bool} {f : D → List D → Option D} {to : TE} {mo : M Loc} (sp : SpM G r f) (hty : ∀ W ρ H v c, BR G W ρ H v c → kd c = true → tyV G.K T v H) (ho : Ev G W (LRep G) to mo) (ha : Ev G W (LReps G) tA mA) : Ev G W (LRep G) (tBM G.K T r to tA) (eMe kd f mo mA) := by
  intro S0 ρ s σ H Q t hp
  refine ho _ _ _ _ _ _ t (post_bind hp fun l s1 _ v H1 ρ1 t1 n1 r1 hp1 => ?_)
  refine post_cont t1 r1 hp1 fun c0 b0 hp1 => ?_
  have hp1 : Post G W (LRep G) S0 ρ1 s1 σ H1 ((if kd c0 = true then bnd mA fun ls => bnd (cont l) fun c => bnd (conts ls) fun ds => opt (f c ds) else stk) s1) Q := hp1
  by_cases hk : kd c0 = true
  · refine ⟨hty _ _ _ _ _ b0 hk, ?_⟩
    rw [if_pos hk] at hp1
    refine ha _ _ _ _ _ _ t1 (post_bind hp1 fun ls s2 _ us H2 ρ2 t2 n2 r2 hp2 => ?_)
    refine post_cont t2 (stab_L r1 n2.k n2.p) hp2 fun c bc hp3 => post_conts t2 r2 hp3 fun ds bs hp4 => post_opt t2 hp4 fun d e q => ?_
    exact sp _ _ _ _ _ _ _ _ _ t2.tk bc bs e q
  · rw [if_neg hk] at hp1; exact hp1.elim
theorem je_me {T id : String} {name : Str} {r : V → List V → Hp → VK → Prop} {kd : D → Bool} {f : D → List D → Option D} {o : Expr} {to : TE} {mo : M Loc} {apos cpos : Pos} (pa : PlainAttrs T) (slot : PySem.Slot T name id) (hty : typeOf (.builtin id) = pure (.type "method_descriptor")) (hm : MtR X id r) (sp : SpM ⟨X.K, ca, X.w⟩ r f) (hk : ∀ W ρ H v c, BR ⟨X.K, ca, X.w⟩ W ρ H v c → kd c = true → tyV X.K T v H) (ho : JE X ca W o to mo) (ha : JA X ca W (e :: es) tA mA) (hbase : attributeBase o name X.env (eval o X.env) = eval o X.env := by rfl)
    (hfew : ((backTo cpos (starEach (e :: es) X.env)).all (fun x => !x.1) && (backToKw cpos (keywordEach [] X.env)).all (fun x => x.1.isSome) && decide ((e :: es).length + ([] : List Keyword).length + (if ([] : List Keyword).isEmpty then 0 else 1) < 30)) = true := by rfl) (hline : (apos.endLine == cpos.line) = true := by rfl)
    (hs : starEach (e :: es) X.env = (false, eval e X.env) :: starEach es X.env := by rfl) (hplain : (backTo cpos (starEach es X.env)).any (·.1) = false := by rfl) : JE X ca W (.Call (.Attribute o name apos) (e :: es) [] cpos) (tBM X.K T r to tA) (eMe kd f mo mA) :=
  ⟨pe_bm pa slot hty hm ho.pe ha.pa hbase hfew hline hs hplain, ev_me sp hk ho.ev ha.ev⟩
def isStr : D → Bool | .str _ => true | _ => false
theorem ty_str : ∀ W ρ H v c, BR G W ρ H v c → isStr c = true → tyV G.K "str" v H := fun W ρ H v c b k => by
  cases c with
  | str x => rw [br_str b]; rfl
  | _ => cases k
end
end Mi

namespace Mi
open PySem PySem.Spec PyProof.Rows L2

section
variable {G : Gc} {X : Cx} {ca : Nat → Addr} {W : WX} {e o a b : Expr} {es : List Expr} {te to ta tb : TE} {tA tk : TA} {m mo ma mb : M Loc} {mA mK : M (List Loc)} {pos p pos' : Pos} {nf : Nat} {k : Nat} {f : Addr} {fd : FuncData} {ps : List Str} {x : Str} {g : List D → M D} {c : Nat}

/-! ### constants of the module that are tuples, dicts of words -/
theorem je_gtup {a : Addr} {vs : List V} {ds : List D} (hg : Gl X x) (hm : X.mg x = some (.ref a)) (hk : Kt X.K a vs) (r : ∀ W ρ H, Reps ⟨X.K, ca, X.w⟩ W ρ H vs ds) (hd : (x == ("__debug__" : Str)) = false := by decide) (hz : ds.all isStrD = true := by rfl) : JE X ca W (.Name x pos) (tC (.ref a)) (kk (.tup ds)) :=
  ⟨pe_glob hg hm rfl hd, ev_c fun _ _ _ => .tupK hk hz (r _ _ _)⟩
/-- a dict of the module whose keys are these words -/
structure KWords (K : PySem.W.Frag) (w : World) (d : Addr) (ws : List Str) : Prop where
  at_ : ∃ es n, KDict K w d es n
  has : ∀ z, ∃ r, PySem.W.nsIn K d z = some r ∧ r.isSome = decide (z ∈ ws)
def inWD (neg : Bool) (ws : List Str) : D → Option D
  | .str z => some (.bl (neg ^^ decide (z ∈ ws)))
  | _ => none
def eInW (neg : Bool) (ws : List Str) (m : M Loc) : M Loc := bnd m fun l => bnd (cont l) fun d => opt (inWD neg ws d)
theorem ev_inW {d : Addr} {es : Array DictEntry} {n : Nat} {ws : List Str} {w : World} {neg : Bool} (Kw : KWords G.K w d ws) (he : Ev G W (LRep G) te m) :
    Ev G W (LRep G) (tOp (fun x y H Q => ∃ (z : Str) (r : Option Value), x = .str z ∧ y = .ref d ∧ PySem.W.nsIn G.K d z = some r ∧ Q (.bl (neg ^^ r.isSome)) H) te (tC (.ref d))) (eInW neg ws m) := by
  intro S0 ρ s σ H Q t hp
  refine he _ _ _ _ _ _ t (post_bind hp fun l s1 _ v H1 ρ1 t1 n1 r1 hp1 => post_cont t1 r1 hp1 fun dd bd hp2 => post_opt t1 hp2 fun d' e' q => ?_)
  cases dd with
  | str z =>
    cases e'
    obtain rfl := br_str bd
    obtain ⟨r, h1, h2⟩ := Kw.has z
    exact ⟨z, r, rfl, rfl, h1, by rw [h2]; exact q _ _ .refl .bl⟩
  | _ => cases e'
theorem op_in_kw {d : Addr} {ws : List Str} (Kw : KWords X.K X.w d ws) : OpR X (compareOp .In) (fun x y H Q => ∃ (z : Str) (r : Option Value), x = .str z ∧ y = .ref d ∧ PySem.W.nsIn X.K d z = some r ∧ Q (.bl (false ^^ r.isSome)) H) := by
  obtain ⟨es, n, D⟩ := Kw.at_
  intro pins s σ H x y v u Q I rx ry ⟨z, r, e1, e2, e3, q⟩
  exact op_in_kd D pins s σ H x y v u Q I rx ry ⟨z, r, e1, e2, e3, by simpa using q⟩
theorem op_notin_kw {d : Addr} {ws : List Str} (Kw : KWords X.K X.w d ws) : OpR X (compareOp .NotIn) (fun x y H Q => ∃ (z : Str) (r : Option Value), x = .str z ∧ y = .ref d ∧ PySem.W.nsIn X.K d z = some r ∧ Q (.bl (true ^^ r.isSome)) H) := by
  obtain ⟨es, n, D⟩ := Kw.at_
  intro pins s σ H x y v u Q I rx ry ⟨z, r, e1, e2, e3, q⟩
  exact op_notIn_kd D pins s σ H x y v u Q I rx ry ⟨z, r, e1, e2, e3, by simpa using q⟩
theorem jt_inW {d : Addr} {ws : List Str} {xn : Str} {pn : Pos} (Kw : KWords X.K X.w d ws) (hg : Gl X xn) (hm : X.mg xn = some (.ref d)) (he : JE X ca W e te m) (hb : behindInMarks .In (.Name xn pn) = false := by rfl) (hd : (xn == ("__debug__" : Str)) = false := by decide) :
    JT X ca W (.Compare e [.In] [.Name xn pn] pos) (tTest (tOp (fun x y H Q => ∃ (z : Str) (r : Option Value), x = .str z ∧ y = .ref d ∧ PySem.W.nsIn X.K d z = some r ∧ Q (.bl (false ^^ r.isSome)) H) te (tC (.ref d)))) (tstB (eInW false ws m)) :=
  ⟨pt_cmpR (op_in_kw Kw) he.pe (pe_glob hg hm rfl hd) hb, ev_tstB (ev_inW (es := #[]) (n := 0) (w := X.w) Kw he.ev)⟩
theorem jt_notinW {d : Addr} {ws : List Str} {xn : Str} {pn : Pos} (Kw : KWords X.K X.w d ws) (hg : Gl X xn) (hm : X.mg xn = some (.ref d)) (he : JE X ca W e te m) (hb : behindInMarks .NotIn (.Name xn pn) = false := by rfl) (hd : (xn == ("__debug__" : Str)) = false := by decide) :
    JT X ca W (.Compare e [.NotIn] [.Name xn pn] pos) (tTest (tOp (fun x y H Q => ∃ (z : Str) (r : Option Value), x = .str z ∧ y = .ref d ∧ PySem.W.nsIn X.K d z = some r ∧ Q (.bl (true ^^ r.isSome)) H) te (tC (.ref d)))) (tstB (eInW true ws m)) :=
  ⟨pt_cmpR (op_notin_kw Kw) he.pe (pe_glob hg hm rfl hd) hb, ev_tstB (ev_inW (es := #[]) (n := 0) (w := X.w) Kw he.ev)⟩

/-! ### fields -/
theorem look_f {G : Gc} {W : Addr → Prop} {ρ : List Addr} {H : Hp} {fn : Str} : ∀ {vs : List (Str × V)} {ds : List (Str × D)} {d : D}, vs.map (·.1) = ds.map (·.1) → Reps G W ρ H (vs.map (·.2)) (ds.map (·.2)) → ds.lookup fn = some d → ∃ v, vs.lookup fn = some v ∧ Rep G W ρ H v d
  | [], [], d, _, _, e => by cases e
  | [], _ :: _, _, e, _, _ => by cases e
  | _ :: _, [], _, e, _, _ => by cases e
  | (j, v) :: vs, (j', d') :: ds, d, e, .cons r t, q => by
    rw [List.map_cons, List.map_cons] at e
    injection e with e1 e2
    have e1 : j = j' := e1
    subst e1
    rw [List.lookup_cons] at q ⊢
    cases z : (fn == j) with
    | true => rw [z] at q; cases q; exact ⟨v, rfl, r⟩
    | false => rw [z] at q; exact look_f e2 t q
theorem look_none {G : Gc} {W : Addr → Prop} {ρ : List Addr} {H : Hp} {fn : Str} : ∀ {vs : List (Str × V)} {ds : List (Str × D)}, vs.map (·.1) = ds.map (·.1) → ds.lookup fn = none → vs.lookup fn = none
  | [], [], _, e => rfl
  | [], _ :: _, e, _ => by cases e
  | _ :: _, [], e, _ => by cases e
  | (j, v) :: vs, (j', d') :: ds, e, q => by
    rw [List.map_cons, List.map_cons] at e
    injection e with e1 e2
    have e1 : j = j' := e1
    subst e1
    rw [List.lookup_cons] at q ⊢
    cases z : (fn == j) with
    | true => rw [z] at q; cases q
    | false => rw [z] at q; exact look_none (G := G) (W := W) (ρ := ρ) (H := H) e2 q
def fldD (c : Nat) (fn : Str) : D → Option D
  | .obj c' fs => if c' = c then fs.lookup fn else none
  | _ => none
def eFld (c : Nat) (fn : Str) (m : M Loc) : M Loc := op1 (fldD c fn) m
theorem je_fld {fn : Str} (cl : Cls X.K (ca c)) (na : NoAttr X.K (ca c) fn) (he : JE X ca W e te m) (hb : attributeBase e fn X.env (eval e X.env) = eval e X.env := by rfl) : JE X ca W (.Attribute e fn pos) (tFld X.K te fn) (eFld c fn m) := by
  refine ⟨pe_fld he.pe hb, fun S0 ρ s σ H Q t hp => ?_⟩
  refine he.ev _ _ _ _ _ _ t (post_bind hp fun l s1 _ v H1 ρ1 t1 n1 r1 hp1 => post_cont t1 r1 hp1 fun d bd hp2 => post_opt t1 hp2 fun d' e' q => ?_)
  cases d with
  | obj c' fs =>
    have e2 : (if c' = c then fs.lookup fn else none) = some d' := e'
    clear e'
    by_cases hc : c' = c
    · rw [if_pos hc] at e2
      subst hc
      obtain ⟨a, dx, vs, rfl, h, ke, r⟩ := br_obj bd
      obtain ⟨v, e1, r1⟩ := look_f ke r e2
      exact ⟨a, _, dx, vs, v, rfl, h, cl, na, e1, q _ _ .refl r1⟩
    · rw [if_neg hc] at e2; cases e2
  | _ => cases e'
def putFD (fn : Str) (d : D) : List (Str × D) → List (Str × D)
  | [] => [(fn, d)]
  | (g, x) :: r => if g = fn then (g, d) :: r else (g, x) :: putFD fn d r
theorem putF_reps {G : Gc} {W : Addr → Prop} {ρ : List Addr} {H : Hp} {fn : Str} {v : V} {d : D} (rv : Rep G W ρ H v d) : ∀ {vs : List (Str × V)} {ds : List (Str × D)}, vs.map (·.1) = ds.map (·.1) → Reps G W ρ H (vs.map (·.2)) (ds.map (·.2)) →
    (putF fn v vs).map (·.1) = (putFD fn d ds).map (·.1) ∧ Reps G W ρ H ((putF fn v vs).map (·.2)) ((putFD fn d ds).map (·.2))
  | [], [], _, _ => ⟨rfl, .cons rv .nil⟩
  | [], _ :: _, e, _ => by cases e
  | _ :: _, [], e, _ => by cases e
  | (j, v') :: vs, (j', d') :: ds, e, .cons r t => by
    rw [List.map_cons, List.map_cons] at e
    injection e with e1 e2
    have e1 : j = j' := e1
    subst e1
    unfold putF putFD
    by_cases h : j = fn
    · rw [if_pos h, if_pos h]
      exact ⟨by rw [List.map_cons, List.map_cons, e2], .cons rv t⟩
    · rw [if_neg h, if_neg h]
      obtain ⟨i1, i2⟩ := putF_reps rv e2 t
      exact ⟨by rw [List.map_cons, List.map_cons, i1], .cons r i2⟩
def sFldS (c : Nat) (fn : Str) (mv mo : M Loc) : M Fl := bnd mv fun lv => bnd (toVal lv) fun dv => bnd mo fun l => bnd (cont l) fun d => match (match d with | .obj c' fs => if c' = c ∧ fs.length < 1000 then some (D.obj c' (putFD fn dv fs), D.non) else none | _ => none) with
  | some cd => bnd (setc l cd.1) fun _ => ret Fl.nx
  | none => stk
theorem or_obj {G : Gc} {W : Addr → Prop} {ρ : List Addr} {H : Hp} {a : Addr} {c : Nat} {ds : List (Str × D)} (h : ORep G W ρ H a (.obj c ds)) : ∃ dx vs, H a = some (.ins (G.ca c) dx vs) ∧ vs.map (·.1) = ds.map (·.1) ∧ Reps G W ρ H (vs.map (·.2)) (ds.map (·.2)) := by
  cases h with | obj h e r => exact ⟨_, _, h, e, r⟩
theorem js_fld {fn : Str} (cl : Cls X.K (ca c)) (na : NoAttr X.K (ca c) fn) (he : JE X ca W e te m) (ho : JE X ca W o to mo) (hs : swapsWith e (some (.Attribute o fn pos')) pos.line X.env = pure false := by rfl) : JS X ca W nf (.Assign [.Attribute o fn pos'] e pos) (sFld X.K to te fn) (sFldS c fn m mo) := by
  refine ⟨ps_fld ho.pe he.pe hs, fun S0 ρ s σ H E t hp => ?_⟩
  refine he.ev _ _ _ _ _ _ t ((wS (nf := nf) E).bind hp fun lv s1 _ v H1 ρ1 t1 n1 r1 hp1 => (wS (nf := nf) E).toVal t1 r1 hp1 fun dv s2 t2 n2 r2 hp2 => ?_)
  refine ho.ev _ _ _ _ _ _ t2 ((wS (nf := nf) E).bind hp2 fun l s3 _ ov H3 ρ3 t3 n3 r3 hp3 => ?_)
  refine post_upd (wS (nf := nf) E) (fun d => match d with | .obj c' fs => if c' = c ∧ fs.length < 1000 then some (D.obj c' (putFD fn dv fs), D.non) else none | _ => none) (k := fun _ => ret Fl.nx) (us := [v]) (ds := [dv]) t3 r3 (.cons (r2.mono n3.k n3.p) .nil) hp3 fun a c0 c' d ev wa oc z rs up => ?_
  cases c0 with
  | obj c2 fs =>
    by_cases hc : c2 = c ∧ fs.length < 1000
    · simp only [hc, and_self, if_true] at z
      have hc1 := hc.1
      subst hc1
      cases z
      obtain ⟨dx, vs, h, ke, r⟩ := or_obj oc
      have hl : vs.length = fs.length := by have := congrArg List.length ke; simpa using this
      cases rs with
      | cons rv _ =>
        refine ⟨a, _, dx, vs, ev, h, cl, na, by rw [hl]; exact hc.2, ?_⟩
        obtain ⟨i1, i2⟩ := putF_reps (fn := fn) rv ke r
        obtain ⟨s4, t4, n4, hw, hp5⟩ := up (.ins (ca c2) dx (putF fn v vs)) fun S1 kp => .obj upd_same i1 (i2.mono kp (List.prefix_refl _))
        exact PostS.nx (X := W) (E := E) hp5 t4
    · simp only [hc, if_false] at z
      cases z
  | _ => cases z

/-! ### properties -/
def callP (g : List D → M D) (ds : List D) : M Loc := fun s => match g ds ⟨[], s.t⟩ with
  | .ok d s' => .ok (.val d) ⟨s.e, s'.t⟩
  | _ => .stuck
def isCls (c : Nat) (d : D) (s : S) : Bool := match d with
  | .obj c' _ => decide (c' = c)
  | .ptr n => match s.t[n]? with | some (.obj c' _) => decide (c' = c) | _ => false
  | _ => false
def eProp (c : Nat) (g : List D → M D) (m : M Loc) : M Loc := bnd m fun l => bnd (toVal l) fun d => fun s => if isCls c d s = true then callP g [d] s else .stuck
theorem isCls_at {G : Gc} {S0 : Addr → Prop} {ρ : List Addr} {s : S} {σ : L2.St} {H : Hp} {v : V} {d : D} (t : Sat G S0 ρ s σ H) (r : Rep G (Wa S0 ρ s.e σ) ρ H v d) (h : isCls c d s = true) : ∃ a dx fs, v = .ref a ∧ H a = some (.ins (G.ca c) dx fs) := by
  cases d with
  | obj c' fs =>
    have h : c' = c := of_decide_eq_true h
    subst h
    obtain ⟨a, dx, vs, rfl, h, _⟩ := br_obj (.inl r)
    exact ⟨a, dx, vs, rfl, h⟩
  | ptr n =>
    cases r with
    | ptr ha =>
      unfold isCls at h
      cases e0 : s.t[n]? with
      | none => simp only [e0] at h; cases h
      | some d0 =>
        cases d0 with
        | obj c' fs =>
          simp only [e0] at h
          have h : c' = c := of_decide_eq_true h
          subst h
          obtain ⟨dx, vs, h, _⟩ := or_obj (t.sto n _ _ ha e0)
          exact ⟨_, dx, vs, rfl, h⟩
        | _ => simp only [e0] at h; cases h
  | _ => cases h
theorem je_prop {fn : Str} {pa ga : Addr} (cl : Cls X.K (ca c)) (hp : PropOf X.K (ca c) fn pa ga) (F : FnOk X.prog X.w X.K X.mg X.base (L2.CX X.prog X.w) k ga fd ps (spM ⟨X.K, ca, X.w⟩ 1 g)) (hr : Room (k + 1) X.A) (hb : Binds X.K fd ps []) (he : JE X ca W e te m)
    (hab : attributeBase e fn X.env (eval e X.env) = eval e X.env := by rfl) : JE X ca W (.Attribute e fn pos) (tProp (ca c) (spM ⟨X.K, ca, X.w⟩ 1 g) [] (fun _ _ _ => False) te) (eProp c g m) := by
  refine ⟨pe_prop he.pe cl hp F hr hb .nil (fun _ _ _ _ _ _ _ h => by
    obtain ⟨_, _, _, _, _, _, _, _, _, _, _, _, z⟩ := h
    exact z.elim) hab, fun S0 ρ s σ H Q t hp => ?_⟩
  refine he.ev _ _ _ _ _ _ t (post_bind hp fun l s1 _ v H1 ρ1 t1 n1 r1 hp1 => post_toVal t1 r1 hp1 fun d s2 t2 n2 r2 hp2 => ?_)
  have hp2 : Post ⟨X.K, ca, X.w⟩ W (LRep ⟨X.K, ca, X.w⟩) S0 ρ1 s2 σ H1 (if isCls c d s2 = true then callP g [d] s2 else .stuck) Q := hp2
  by_cases hc : isCls c d s2 = true
  · rw [if_pos hc] at hp2
    obtain ⟨a, dx, fs, rfl, h⟩ := isCls_at t2 r2 hc
    refine ⟨a, dx, fs, rfl, h, ?_⟩
    refine call_post (X := W0) (n := 1) rfl t2 (.cons r2 .nil) ?_
    show Post ⟨X.K, ca, X.w⟩ W0 (LRep ⟨X.K, ca, X.w⟩) S0 ρ1 s2 σ H1 (callF g [d] s2) Q
    unfold callF
    unfold callP at hp2
    cases e : g [d] ⟨[], s2.t⟩ with
    | ok d' s' => simp only [e] at hp2 ⊢; exact hp2
    | exc x s' => simp only [e] at hp2; exact hp2.elim
    | stuck => simp only [e] at hp2; exact hp2.elim
  · rw [if_neg hc] at hp2; exact hp2.elim

/-! ### keywords -/
structure JK (X : Cx) (ca : Nat → Addr) (W : WX) (kws : List Keyword) (ta : TA) (m : M (List Loc)) : Prop where
  pk : PK X kws ta
  ev : Ev ⟨X.K, ca, X.w⟩ W (LReps ⟨X.K, ca, X.w⟩) ta m
  len : ∀ s ls s', m s = .ok ls s' → ls.length = kws.length
theorem jk_nil : JK X ca W [] tNil aNil := ⟨pk_nil, (ja_nil (X := X)).ev, fun s ls s' h => by cases h; rfl⟩
theorem jk_cons {kws : List Keyword} {nm : Option Str} {kp : Pos} (he : JE X ca W e te m) (hr : JK X ca W kws tA mA) : JK X ca W (⟨nm, e, kp⟩ :: kws) (tCons te tA) (aCons m mA) := by
  refine ⟨pk_cons he.pe hr.pk, fun S0 ρ s σ H Q t hp => ?_, fun s ls s' h => ?_⟩
  · refine he.ev _ _ _ _ _ _ t (post_bind hp fun x s1 _ v H1 ρ1 t1 n1 r1 hp1 => ?_)
    refine hr.ev _ _ _ _ _ _ t1 (post_bind hp1 fun y s2 _ u H2 ρ2 t2 n2 r2 hp2 => ?_)
    exact Post.ret (R := LReps ⟨X.K, ca, X.w⟩) hp2 t2 (.cons (stab_L r1 n2.k n2.p) r2)
  · have h : ((m s).bind fun x => bnd mA fun xs => ret (x :: xs)) = .ok ls s' := h
    cases e : m s with
    | ok x s1 =>
      rw [e] at h
      have h : ((mA s1).bind fun xs => ret (x :: xs)) = .ok ls s' := h
      cases e2 : mA s1 with
      | ok xs s2 =>
        rw [e2] at h
        cases h
        rw [List.length_cons, List.length_cons, hr.len _ _ _ e2]
      | exc x s2 => rw [e2] at h; cases h
      | stuck => rw [e2] at h; cases h
    | exc x s1 => rw [e] at h; cases h
    | stuck => rw [e] at h; cases h
/-- by keywords alone; pm puts the values in the parameters' order -/
structure KB0 (K : PySem.W.Frag) (fd : FuncData) (ps ks : List Str) (pm : {α : Type} → List α → List α) : Prop where
  to : ∀ (s : Shared) (ws : List Value), K.In s.heap → ws.length = ks.length → BindsTo s fd ⟨[], ks.zip ws⟩ (ps.zip (pm ws))
  rv : ∀ {vs : List V} {us : List Value}, vs.length = ks.length → Vals vs us → Vals (pm vs) (pm us)
  rd : ∀ {G : Gc} {W : Addr → Prop} {ρ : List Addr} {H : Hp} {vs : List V} {ds : List D}, vs.length = ks.length → Reps G W ρ H vs ds → Reps G W ρ H (pm vs) (pm ds)
  ln : ∀ {α : Type} {l : List α}, l.length = ks.length → (pm l).length = ps.length
def eCallK (pm : {α : Type} → List α → List α) (g : List D → M D) (mk : M (List Loc)) : M Loc := bnd mk fun ls => bnd (vals ls) fun ds => callF g (pm ds)
def tCallK0 (n : Nat) (sp : Sp) (pm : {α : Type} → List α → List α) (E : L2.St → XK) (tk : TA) : TE := fun σ H Q => tk σ H fun zs H2 => zs.length = n ∧ sp (pm zs) H2 Q (E σ)
theorem je_callK {kws : List Keyword} {ks : List Str} {pm : {α : Type} → List α → List α} (F : FnOk X.prog X.w X.K X.mg X.base (L2.CX X.prog X.w) k f fd ps (spM ⟨X.K, ca, X.w⟩ ps.length g)) (hr : Room k X.A) (hg : Gl X x) (hm : X.mg x = some (.ref f)) (hk : PySem.W.keepIn X.K (.ref f) = true) (hb : KB0 X.K fd ps ks pm) (tkx : Takes X W)
    (hkw : JK X ca W kws tk mK) (hall : (backToKw pos (keywordEach kws X.env)).all (·.1.isSome) = true := by rfl) (hks : (backToKw pos (keywordEach kws X.env)).filterMap (·.1) = ks := by rfl) (hlk : kws.length = ks.length := by rfl)
    (hdb : (x == ("__debug__" : Str)) = false := by decide) (hpl : ((backTo pos (starEach [] X.env)).any (·.1) || (backToKw pos (keywordEach kws X.env)).any (·.1.isNone)) = false := by rfl) :
    JE X ca W (.Call (.Name x p) [] kws pos) (tCallK0 ks.length (spM ⟨X.K, ca, X.w⟩ ps.length g) pm (fun σ c dx H' => W c dx σ H') tk) (eCallK pm g mK) := by
  refine ⟨⟨fun pins s σ H Q I h => ?_⟩, fun S0 ρ s σ H Q t hp => ?_⟩
  · refine wpAny_Call_Name_kw (ld_glob I hg hm ?_ hdb)
    refine PySem.W.callWith_KW0 (h₀ := X.base) I.ok.mod.kin hk hall ?_ hpl
    refine thn (hkw.pk.run pos pins s σ H _ I h) fun ws s2 ⟨zs, H2, I2, rz, l2, q2⟩ => ⟨I2.kIn, ?_⟩
    rw [hks]
    refine wpAny_call (codeAny_mono (F.run X.A X.stack s2 H2 ⟨[], ks.zip ws⟩ (pm ws) (pm zs) Q _ hr I2.env0 (hb.to s2 ws I2.kIn (rz.length.symm.trans l2)) (hb.rv l2 rz) q2) fun r s' hq => ?_)
    cases r with
    | error er => exact passAt tkx σ pins H2 s2 er s' I2 hq
    | ok fl =>
      cases fl with
      | ret u => exact I2.after hq
      | next => exact False.elim hq
      | brk => exact False.elim hq
      | cont => exact False.elim hq
  · refine hkw.ev _ _ _ _ _ _ t (post_bind hp fun ls s1 e1 vs H1 ρ1 t1 n1 r1 hp1 => post_vals t1 r1 hp1 fun ds s2 t2 n2 r2 hp2 => ?_)
    have hl : vs.length = ks.length := (Paired.length r1).trans ((hkw.len _ _ _ e1).trans hlk)
    exact ⟨hl, call_post (hb.ln hl) t2 (hb.rd hl r2) hp2⟩

/-! ### instances -/
/-- an __init__ that leaves d -/
def PostI (G : Gc) (S0 : Addr → Prop) (ρ : List Addr) (x : Addr) (H : Hp) (r : Res D) (Q : VK) (E : XK) : Prop := match r with
  | .ok d s' => ∀ H' ρ', Sat G (S1 S0 x) ρ' ⟨[], s'.t⟩ [] H' → Kp S0 (Wa (S1 S0 x) ρ [] []) H (Wa (S1 S0 x) ρ' [] []) H' → ρ <+: ρ' → ORep G (Wa (S1 S0 x) ρ' [] []) ρ' H' x d → Q .non H'
  | .exc y s' => ∀ cv dx H' ρ', Sat G S0 ρ' ⟨[], s'.t⟩ [] H' → Kp S0 (Wa (S1 S0 x) ρ [] []) H (Wa S0 ρ' [] []) H' → ρ <+: ρ' → XRep G (Wa S0 ρ' [] []) ρ' H' cv dx y → E cv dx H'
  | .stuck => False
def spI (G : Gc) (c n : Nat) (g : List D → M D) : Sp := fun vs H Q E => ∃ S0 ρ t ds x dx us, vs = .ref x :: us ∧ us.length = n ∧ Sat G (S1 S0 x) ρ ⟨[], t⟩ [] H ∧ ¬ Wa S0 ρ [] [] x ∧ H x = some (.ins (G.ca c) dx []) ∧ Reps G (Wa (S1 S0 x) ρ [] []) ρ H us ds ∧ PostI G S0 ρ x H (g ds ⟨[], t⟩) Q E
def endI (r : Res Fl) : Res D := match r with
  | .ok fl s' => (match fl with
    | .nx => (match s'.e[(0 : Nat)]? with | some (.own d) => .ok d ⟨[], s'.t⟩ | _ => .stuck)
    | .rt .non => (match s'.e[(0 : Nat)]? with | some (.own d) => .ok d ⟨[], s'.t⟩ | _ => .stuck)
    | _ => .stuck)
  | .exc x s' => .exc x ⟨[], s'.t⟩
  | .stuck => .stuck
def runI (c n : Nat) (body : M Fl) (ds : List D) : M D := fun s => endI (body ⟨.own (.obj c []) :: (ds.map .val ++ List.replicate (n - ds.length) .no), s.t⟩)
end
section
variable {P : Program} {w : World} {K : PySem.W.Frag} {mg : Str → Option Value} {base : Heap}
theorem fn_init {ca : Nat → Addr} {x qual : Str} {st : Stmt} {f : Addr} {fd : FuncData} {n0 p0 : Str} {N ps : List Str} {k c : Nat} {body : M Fl} (F : Fun K x qual st f fd) (Sp : FnScope (n0 :: N) (p0 :: ps) (defScope st))
    (hb : ∀ (cdv : Value) (A : Around) (outer : List PySem.Env) (s : Shared) (H : Hp) (E : XK), Room k (A.deeper (envOfC qual (defScope st) s.heap.objs.size f cdv)) →
      ∃ ts, JB (cxOf (L2.CX P w) P w K mg base (n0 :: N) qual (defScope st) f cdv A outer s H E) ca (fun c d _ H => E c d H) 1 (defBody st) ts body) : FnOk P w K mg base (L2.CX P w) (k + 1) f fd (p0 :: ps) (spI ⟨K, ca, w⟩ c ps.length (runI c N.length body)) := by
  refine F.okX Sp (fun vs H Q E h => ?_) (fun cdv A outer s H vs Q E hr h => ?_)
  · obtain ⟨_, _, _, _, _, _, us, rfl, hl, _⟩ := h
    show us.length + 1 = ps.length + 1
    rw [hl]
  · obtain ⟨S0, ρ, t, ds, x, dx, us, rfl, hl, ts, nw, hx, r, hp⟩ := h
    obtain ⟨tt, hj⟩ := hb cdv A outer s H E hr
    have hul := r.length
    -- the frame at the start
    have e0 : L2.start (n0 :: N) (V.ref x :: us) = some (V.ref x) :: (us.map some ++ List.replicate (N.length - us.length) none) := by
      unfold L2.start
      rw [List.map_cons, List.cons_append, List.length_cons, List.length_cons, Nat.add_sub_add_right]
    have own0 : ∀ {i : Nat} {d : D}, (Slot.own (.obj c []) :: (ds.map Slot.val ++ List.replicate (N.length - ds.length) .no))[i]? = some (.own d) → i = 0 ∧ d = .obj c [] := fun {i d} e => by
      cases i with
      | zero => cases e; exact ⟨rfl, rfl⟩
      | succ i => exact (slots_no (show (ds.map Slot.val ++ List.replicate (N.length - ds.length) .no)[i]? = some (.own d) from e)).elim
    have hw : Wa S0 ρ (Slot.own (.obj c []) :: (ds.map Slot.val ++ List.replicate (N.length - ds.length) .no)) (L2.start (n0 :: N) (V.ref x :: us)) = Wa (S1 S0 x) ρ [] [] := by
      funext a
      apply propext
      rw [wa_nil]
      constructor
      · rintro (h | h | ⟨i, d, e1, e2⟩)
        · exact .inl (.inl h)
        · exact .inr h
        · obtain ⟨rfl, _⟩ := own0 e1
          rw [e0] at e2
          cases e2
          exact .inl (.inr rfl)
      · rintro ((h | h) | h)
        · exact .inl h
        · subst h
          exact .inr (.inr ⟨0, .obj c [], rfl, by rw [e0]; rfl⟩)
        · exact .inr (.inl h)
    have nS : ¬ S0 x := fun h => nw (wa_nil.mpr (.inl h))
    have nρ : x ∉ ρ := fun h => nw (wa_nil.mpr (.inr h))
    have hp : PostI ⟨K, ca, w⟩ S0 ρ x H (endI (body ⟨.own (.obj c []) :: (ds.map .val ++ List.replicate (N.length - ds.length) .no), t⟩)) Q E := hp
    have t0 : Sat ⟨K, ca, w⟩ S0 ρ ⟨.own (.obj c []) :: (ds.map .val ++ List.replicate (N.length - ds.length) .no), t⟩ (L2.start (n0 :: N) (V.ref x :: us)) H := by
      refine ⟨by rw [e0]; simp [hul], fun i d e => ?_, fun i d e => ?_, fun i j a d d' e1 e2 e3 e4 => ?_, ts.rlen, fun n a d e1 e2 => ?_, ts.nd, fun a ha h => ts.rs a ha (.inl h), fun a h => ts.s0 a (.inl h)⟩
      · show ∃ v, (L2.start (n0 :: N) (V.ref x :: us))[i]? = some (some v) ∧ Rep _ (Wa S0 ρ (Slot.own (.obj c []) :: (ds.map Slot.val ++ List.replicate (N.length - ds.length) .no)) (L2.start (n0 :: N) (V.ref x :: us))) ρ H v d
        rw [hw, e0]
        cases i with
        | zero => cases e
        | succ i =>
          have e : (ds.map Slot.val ++ List.replicate (N.length - ds.length) .no)[i]? = some (.val d) := e
          show ∃ v, (us.map some ++ List.replicate (N.length - us.length) none)[i]? = some (some v) ∧ _
          rw [hul]
          exact reps_slots r _ e
      · obtain ⟨rfl, rfl⟩ := own0 e
        refine ⟨x, by rw [e0]; rfl, ?_, nρ, nS⟩
        exact .obj hx rfl .nil
      · rw [(own0 e1).1, (own0 e2).1]
      · show ORep _ (Wa S0 ρ (Slot.own (.obj c []) :: (ds.map Slot.val ++ List.replicate (N.length - ds.length) .no)) (L2.start (n0 :: N) (V.ref x :: us))) ρ H a d
        rw [hw]
        exact ts.sto n a d e1 e2
    refine ⟨tt, hj.pss, hj.ev S0 ρ _ _ H _ t0 ?_⟩
    generalize body ⟨.own (.obj c []) :: (ds.map .val ++ List.replicate (N.length - ds.length) .no), t⟩ = res at hp
    have fin : ∀ {s' : S} {σ' : L2.St} {H' : Hp} {ρ' : List Addr}, Sat ⟨K, ca, w⟩ S0 ρ' s' σ' H' → Nx S0 ρ (Slot.own (.obj c []) :: (ds.map Slot.val ++ List.replicate (N.length - ds.length) .no)) (L2.start (n0 :: N) (V.ref x :: us)) H ρ' s'.e σ' H' → Fx 1 (L2.start (n0 :: N) (V.ref x :: us)) σ' →
        PostI ⟨K, ca, w⟩ S0 ρ x H (match s'.e[(0 : Nat)]? with | some (.own d) => .ok d ⟨[], s'.t⟩ | _ => .stuck) Q E → Q .non H' := fun {s' σ' H' ρ'} t' n' f' q => by
      have hx0 : σ'[0]? = some (some (.ref x)) := by rw [f' 0 (by decide), e0]; rfl
      cases z : s'.e[(0 : Nat)]? with
      | none => rw [z] at q; exact q.elim
      | some sl =>
        cases sl with
        | own d =>
          rw [z] at q
          obtain ⟨a, e1, ro, n1, n2⟩ := t'.own 0 d z
          rw [hx0] at e1; cases e1
          have wx : Wa S0 ρ' s'.e σ' x := .inr (.inr ⟨0, d, z, hx0⟩)
          have kp : Kp S0 (Wa S0 ρ' s'.e σ') H' (Wa (S1 S0 x) ρ' [] []) H' := ⟨fun _ _ _ e => e, fun b _ nb _ w => (wa_nil.mp w).elim (fun w => w.elim (fun w => nb (.inl w)) fun w => nb (by rw [w]; exact wx)) fun w => nb (.inr (.inl w)), fun _ _ _ e => e⟩
          have k0 := n'.k
          rw [hw] at k0
          refine q H' ρ' ⟨rfl, fun i d e => by (cases e), fun i d e => by (cases e), fun i j a d d' e => by (cases e), t'.rlen, fun n a d e1 e2 => (t'.sto n a d e1 e2).mono kp (List.prefix_refl _) rfl, t'.nd, fun a ha h => h.elim (t'.rs a ha) fun h => n1 (by rw [← h]; exact ha), fun a h => h.elim (t'.s0 a) fun h => by rw [h]; exact orep_someT ro⟩ (k0.trans kp) n'.p (ro.mono kp (List.prefix_refl _) rfl)
        | no => rw [z] at q; exact q.elim
        | val d => rw [z] at q; exact q.elim
    cases res with
    | stuck => exact hp
    | exc y s' =>
      intro cv dx' σ' H' ρ' t' n' _ xr
      obtain ⟨t2, n2⟩ := t'.drop
      have k0 := n'.k
      rw [hw] at k0
      refine hp cv dx' H' ρ' t2 (k0.trans n2.k) (n'.p.trans n2.p) ⟨xr.1, fun fs hf => ?_⟩
      obtain ⟨a, vs, h1, h2, h3, h4, h5⟩ := xr.2 fs hf
      exact ⟨a, vs, h1, h2, n2.k.wn _ _ h3 h2, h4, h5.mono n2.k n2.p⟩
    | ok fl s' =>
      cases fl with
      | nx => exact fun σ' H' ρ' t' n' f' => fin t' n' f' hp
      | rt d =>
        intro v σ' H' ρ' t' n' f' rr
        cases d with
        | non =>
          obtain rfl := br_non (.inl rr)
          exact fin t' n' f' hp
        | _ => exact hp.elim
      | bk => exact hp.elim
      | ct => exact hp.elim
end
end Mi

namespace Mi
open PySem PySem.Spec PyProof.Rows L2
section
variable {G : Gc} {X : Cx} {ca : Nat → Addr} {W : WX} {e o : Expr} {es : List Expr} {te to : TE} {tA tk : TA} {m mo : M Loc} {mA mK : M (List Loc)} {pos p : Pos} {nf k : Nat} {f : Addr} {fd : FuncData} {ps : List Str} {x p0 : Str} {g : List D → M D} {c : Nat}
/-- C(e, ..): a new instance, then its __init__ -/
def tMakeS (C : Addr) (sp : Sp) (E : L2.St → XK) (t : TA) : TE := fun σ H Q => t σ H fun vs H1 => ∀ x dx, H1 x = none → H1 dx = none → dx ≠ x →
  sp (.ref x :: vs) (upd (upd H1 dx (.own x)) x (.ins C dx [])) (fun v H2 => v = .non ∧ Q (.ref x) H2) (E σ)
theorem run_makeS {C : Addr} {sp : Sp} {E : XK} {pins : List (Addr × Obj)} {σ : L2.St} {H : Hp} {s : Shared} {Q : VK} {us : List Value} {vs : List V} (Mm : Mk X.K C f) (F : FnOk X.prog X.w X.K X.mg X.base (L2.CX X.prog X.w) k f fd ps sp) (hr : Room (k + 1) X.A) (hb : Binds X.K fd ps [])
    (hx : PassesAt (L2.CX X.prog X.w) X σ E) (I : Inv X pins σ H s) (r : Vals vs us)
    (h : ∀ x dx, H x = none → H dx = none → dx ≠ x → sp (.ref x :: vs) (upd (upd H dx (.own x)) x (.ins C dx [])) (fun v H2 => v = .non ∧ Q (.ref x) H2) E) :
    wpAny (model X.prog X.w) X.A (call (.ref C) us) (EP X pins σ Q) X.xe s := by
  have hq := h (s.heap.objs.size + 1) s.heap.objs.size (I.hok.fresh (Nat.le_succ _)) (I.hok.fresh (Nat.le_refl _)) (Nat.ne_of_lt (Nat.lt_succ_self _))
  have J := Inv.made (C := C) I
  have rr : Vals (V.ref (s.heap.objs.size + 1) :: vs) (Value.ref (s.heap.objs.size + 1) :: us) := .cons rfl r
  have hl : (Value.ref (s.heap.objs.size + 1) :: us ++ []).length = ps.length := by
    rw [List.append_nil, ← rr.length]
    exact F.len _ _ _ _ hq
  have hbd := hb _ (Value.ref (s.heap.objs.size + 1) :: us) J.kIn hl
  rw [List.append_nil] at hbd
  refine wpAny_call (make_map (f := f) I.kIn Mm.makes Mm.init (beq_iff_eq.mp Mm.fn) (codeAny_mono (F.run _ X.stack _ _ _ _ _ _ E (hr.make C us []) (J.env0.make C us []) hbd rr hq) fun res s' hres => ?_))
  cases res with
  | error er => exact hx pins _ _ er s' J hres
  | ok fl =>
    cases fl with
    | ret u =>
      obtain ⟨v, H', J3, rv, ev, q3⟩ := J.after hres
      subst ev
      exact ⟨rv, ⟨V.ref (s.heap.objs.size + 1), H', J3, rfl, q3⟩⟩
    | next => exact hres.elim
    | brk => exact hres.elim
    | cont => exact hres.elim
/-- what is left of a call that makes an instance -/
def callI (g : List D → M D) (ds : List D) : M D := fun s => match g ds ⟨[], s.t⟩ with
  | .ok d s' => .ok d ⟨s.e, s'.t⟩
  | .exc x s' => .exc x ⟨s.e, s'.t⟩
  | .stuck => .stuck
def nMake (g : List D → M D) (ma : M (List Loc)) : M D := bnd ma fun ls => bnd (vals ls) fun ds => callI g ds
theorem s1_sc {S0 : Addr → Prop} {e : List Slot} {σ : L2.St} {a : Addr} : S1 (Sc S0 e σ) a = Sc (S1 S0 a) e σ := by
  funext b
  apply propext
  constructor
  · rintro ((h | h) | h)
    · exact .inl (.inl h)
    · exact .inr h
    · exact .inl (.inr h)
  · rintro ((h | h) | h)
    · exact .inl (.inl h)
    · exact .inr h
    · exact .inl (.inr h)
theorem back_gen {G : Gc} {Sa Sb S0 : Addr → Prop} {ρ ρ' : List Addr} {s s' : S} {σ : L2.St} {H H' : Hp} (t : Sat G Sa ρ s σ H) (t' : Sat G (Sc Sb s.e σ) ρ' ⟨[], s'.t⟩ [] H') (k : Kp (Sc S0 s.e σ) (Wa Sa ρ s.e σ) H (Wa Sb ρ' s.e σ) H') (p : ρ <+: ρ') (sub : ∀ a, Sb a → Sa a) :
    Sat G Sb ρ' ⟨s.e, s'.t⟩ σ H' := by
  refine ⟨t.len, fun i d e => let ⟨v, e1, r⟩ := t.val i d e; ⟨v, e1, r.mono k p⟩, fun i d e => ?_, t.inj, t'.rlen, fun m a d e1 e2 => ?_, t'.nd, fun a ha w => t'.rs a ha (.inl w), fun a w => t'.s0 a (.inl w)⟩
  · obtain ⟨a, e1, r, n1, n2⟩ := t.own i d e
    obtain ⟨o, q⟩ := r.some
    exact ⟨a, e1, r.mono k p ((k.s0 a o (.inr ⟨i, d, e, e1⟩) q).trans q.symm), fun ha => t'.rs a ha (.inr ⟨i, d, e, e1⟩), fun h => n2 (sub a h)⟩
  · have q : ORep G (Wa (Sc Sb s.e σ) ρ' [] []) ρ' H' a d := t'.sto m a d e1 e2
    rw [wa_sc] at q; exact q
theorem make_post {G : Gc} {X : WX} {S0 : Addr → Prop} {ρ : List Addr} {s : S} {σ : L2.St} {H : Hp} {n : Nat} {vs : List V} {ds : List D} {Q : VK} (hn : vs.length = n) (t : Sat G S0 ρ s σ H) (r : Reps G (Wa S0 ρ s.e σ) ρ H vs ds) (hp : PostN G X S0 ρ s σ H (callI g ds s) Q) (x dx : Addr) (nx : H x = none) (ndx : H dx = none) (ne : dx ≠ x) :
    spI G c n g (.ref x :: vs) (upd (upd H dx (.own x)) x (.ins (G.ca c) dx [])) (fun v H2 => v = .non ∧ Q (.ref x) H2) (fun cv d H' => X cv d σ H') := by
  have x1 : Ext H (upd H dx (.own x)) := .new ndx
  obtain ⟨t1, k1⟩ := t.grow x1
  have nx1 : (upd H dx (.own x)) x = none := by rw [upd_ne (Ne.symm ne)]; exact nx
  obtain ⟨t2, k2, nw⟩ := t1.laid (o := .ins (G.ca c) dx []) nx1
  have kk := k1.trans k2
  have tc := t2.call
  refine ⟨Sc S0 s.e σ, ρ, s.t, ds, x, dx, vs, rfl, hn, by rw [s1_sc]; exact tc, by rw [wa_sc]; exact nw, upd_same, ?_, ?_⟩
  · rw [s1_sc, wa_sc]
    exact r.mono kk (List.prefix_refl _)
  · unfold callI at hp
    cases e : g ds ⟨[], s.t⟩ with
    | stuck => simp only [e] at hp; exact hp
    | ok d s' =>
      simp only [e] at hp
      intro H' ρ' t' k' p' ro
      rw [s1_sc] at t'
      rw [s1_sc, wa_sc, wa_sc] at k'
      rw [s1_sc, wa_sc] at ro
      have tb := back_gen (S0 := S0) t2 t' k' p' fun _ h => h
      have kf : Kp S0 (Wa S0 ρ s.e σ) H (Wa (S1 S0 x) ρ' s.e σ) H' := kk.trans ⟨k'.keep, k'.wn, fun b o w e => k'.s0 b o (.inl w) e⟩
      refine ⟨rfl, hp x H' ρ' tb kf p' (fun w => ?_) ro⟩
      have hx := tb.rs
      rcases w with w | w | ⟨i, d', e1, e2⟩
      · exact nw (.inl w)
      · exact tb.rs x w (.inr rfl)
      · obtain ⟨b, e3, _, _, nb⟩ := tb.own i d' e1
        rw [e2] at e3; cases e3
        exact nb (.inr rfl)
    | exc y s' =>
      simp only [e] at hp
      intro cv d' H' ρ' t' k' p' xr
      rw [s1_sc, wa_sc, wa_sc] at k'
      rw [wa_sc] at xr
      have tb := back_gen (S0 := S0) t2 t' k' p' fun a h => .inl h
      have kf : Kp S0 (Wa S0 ρ s.e σ) H (Wa S0 ρ' s.e σ) H' := kk.trans ⟨k'.keep, k'.wn, fun b o w e => k'.s0 b o (.inl w) e⟩
      exact hp cv d' H' ρ' tb ⟨kf, p'⟩ xr
theorem jn_make (Mm : Mk X.K (ca c) f) (F : FnOk X.prog X.w X.K X.mg X.base (L2.CX X.prog X.w) k f fd (p0 :: ps) (spI ⟨X.K, ca, X.w⟩ c ps.length g)) (hr : Room (k + 1) X.A) (hg : Gl X x) (hm : X.mg x = some (.ref (ca c))) (hb : Binds X.K fd (p0 :: ps) []) (tkx : Takes X W)
    (ha : JA X ca W (e :: es) tA mA) (hn : (e :: es).length = ps.length := by rfl) (hdb : (x == ("__debug__" : Str)) = false := by decide) (he : starEach (e :: es) X.env = (false, eval e X.env) :: starEach es X.env := by rfl) (hpl : (backTo pos (starEach es X.env)).any (·.1) = false := by rfl) :
    JN X ca W (.Call (.Name x p) (e :: es) [] pos) (tMakeS (ca c) (spI ⟨X.K, ca, X.w⟩ c ps.length g) (fun σ cv dx H' => W cv dx σ H') tA) (nMake g mA) := by
  refine ⟨⟨fun pins s σ H Q I h => ?_⟩, fun S0 ρ s σ H Q t hp => ?_⟩
  · refine wpAny_Call_Name_kw (ld_glob I hg hm ?_ hdb)
    refine PySem.W.callWith_K (h₀ := X.base) I.ok.mod.kin Mm.kp (thn (ha.pa.run pos pins s σ H _ I h) fun us s1 ⟨vs, H1, I1, r, q⟩ => ⟨I1.kIn, ?_⟩) he hpl
    exact run_makeS Mm F hr hb (passAt tkx σ) I1 r q
  · refine ha.ev _ _ _ _ _ _ t ((wN Q).bind hp fun ls s1 e1 vs H1 ρ1 t1 n1 r1 hp1 => (wN Q).vals t1 r1 hp1 fun ds s2 t2 n2 r2 hp2 x dx nx ndx ne => ?_)
    exact make_post (by rw [← hn, ← ha.len _ _ _ e1]; exact Paired.length r1) t2 r2 hp2 x dx nx ndx ne
/-- an exception of an own class without an __init__, made with nothing -/
def sRaise0 (c : Nat) : M Fl := fun s => .exc ⟨c, none⟩ s
theorem js_raise0 {xp : Expr} (hc : X.calm = true) (tkx : Takes X W) (hm : PMk X xp (fun _ H Q => Q (.ref (ca c)) none H)) : JS X ca W nf (.Raise (some xp) none pos) (fun _ σ H => W (.ref (ca c)) none σ H) (sRaise0 c) :=
  ⟨ps_raise hc tkx hm, fun S0 ρ s σ H E t hp => hp _ _ σ H ρ t .refl .refl ⟨rfl, fun _ h => by cases h⟩⟩
/-- what is never come to -/
def sNever : M Fl := stk
theorem js_never {st : Stmt} : JS X ca W nf st tNever sNever := ⟨ps_never, fun S0 ρ s σ H E t hp => hp⟩
theorem jb_never {st : List Stmt} : JB X ca W nf st tNever sNever := ⟨pss_never, fun S0 ρ s σ H E t hp => hp⟩
end
end Mi

/-! the end: what a law promises, tables of the module. -/
namespace Mi
open PySem PySem.Spec PyProof.Rows L2

/-- a law whose mirror answers True for every short script -/
def spLaw (K : PySem.W.Frag) (n : Nat) : Sp := fun vs H Q E => ∃ (a : Addr) (ns : List Int), vs = [.ref a] ∧ ns.length ≤ n ∧ SqL K H a (ns.map V.int) ∧ ∀ H', Q (.bl true) H'
theorem reps_script {G : Gc} {W : Addr → Prop} {ρ : List Addr} {H : Hp} : ∀ ns : List Int, Reps G W ρ H (ns.map V.int) (ns.map D.int)
  | [] => .nil
  | _ :: r => .cons .int (reps_script r)
theorem sat_nil {G : Gc} {H : Hp} : Sat G (fun _ => False) [] ⟨[], []⟩ [] H where
  len := rfl
  val := fun i d h => by simp at h
  own := fun i d h => by simp at h
  inj := fun i j a d d' h => by simp at h
  rlen := rfl
  sto := fun n a d h => by simp at h
  nd := .nil
  rs := fun a h => by simp at h
  s0 := fun a h => h.elim
theorem law_imp {K : PySem.W.Frag} {ca : Nat → Addr} {g : List D → M D} {n : Nat} (h : ∀ ns : List Int, ns.length ≤ n → ∃ s', g [.lck (ns.map .int)] ⟨[], []⟩ = .ok (.bl true) s') (vs : List V) (H : Hp) (Q : VK) (E : XK) : spLaw K n vs H Q E → spM ⟨K, ca, w⟩ 1 g vs H Q E := by
  rintro ⟨a, ns, rfl, hl, hS, hQ⟩
  obtain ⟨s', e⟩ := h ns hl
  have nw : ¬ Wa (fun _ => False) [] [] [] a := fun z => by
    rcases z with z | z | ⟨i, d, z, _⟩
    · exact z
    · simp at z
    · simp at z
  refine ⟨fun _ => False, [], [], [.lck (ns.map .int)], rfl, sat_nil, .cons ?_ .nil, ?_⟩
  · rcases hS with hS | hS
    · exact .lck hS nw (reps_script ns)
    · exact .lckK hS (reps_script ns)
  · show PostF _ _ _ _ (g [.lck (ns.map .int)] ⟨[], []⟩) Q E
    rw [e]
    intro v H' ρ' _ _ r
    cases r
    exact hQ H'
theorem fn_law {P : Program} {w : World} {K : PySem.W.Frag} {mg : Str → Option Value} {base : Heap} {ca : Nat → Addr} {k : Nat} {f : Addr} {x : Str} {fd : FuncData} {g : List D → M D} {n : Nat} (h : ∀ ns : List Int, ns.length ≤ n → ∃ s', g [.lck (ns.map .int)] ⟨[], []⟩ = .ok (.bl true) s')
    (F : FnOk P w K mg base (L2.CX P w) k f fd [x] (spM ⟨K, ca, w⟩ 1 g)) : FnOk P w K mg base (L2.CX P w) k f fd [x] (spLaw K n) := F.imp (law_imp h)

/-! ### a dict of the module, its keys words -/
theorem find_keyOf {P : Params} (z : Str) : ∀ {l : List DictEntry} {ks : List Str}, l.map He.keyOf = He.keysIn P ks → (l.find? (·.key.isStr z)).isSome = decide (z ∈ ks) ∧ l.any (·.refKey) = false
  | [], [], _ => ⟨by simp, rfl⟩
  | [], _ :: _, h => by cases h
  | _ :: _, [], h => by cases h
  | e :: r, k :: ks, h => by
    have h1 : He.keyOf e :: r.map He.keyOf = some (k, PyData.keyHash P k) :: He.keysIn P ks := h
    injection h1 with h2 h3
    obtain ⟨i1, i2⟩ := find_keyOf z h3
    unfold He.keyOf at h2
    split at h2
    · rename_i x t q
      obtain ⟨h5, h6⟩ := Prod.mk.inj (Option.some.inj h2)
      subst h5
      refine ⟨?_, ?_⟩
      · rw [List.find?_cons]
        have e1 : e.key.isStr z = decide (z = x) := by
          rw [q]
          show (x == z) = _
          by_cases c : z = x
          · subst c; simp
          · simp [c]; exact fun y => c y.symm
        rw [e1]
        by_cases c : z = x
        · simp [c]
        · simp [c]; simpa using i1
      · rw [List.any_cons, i2]
        have : e.refKey = false := by unfold DictEntry.refKey; rw [q]
        rw [this]; rfl
    · cases h2
theorem kwords_of {K : PySem.W.Frag} {w : World} {a : Addr} {ks : List Str} {es : Array DictEntry} {n : Nat} (l : K.lookup a = some ⟨.type "dict", none, .dict es n, #[]⟩) (b : (a == sysModules) = false) (h : es.toList.map He.keyOf = He.keysIn w.params ks) : KWords K w a ks := by
  refine ⟨⟨es, n, l, He.keysLit_of h, b⟩, fun z => ?_⟩
  unfold PySem.W.nsIn
  rw [l]
  obtain ⟨i1, i2⟩ := find_keyOf z h
  simp only
  cases e : es.toList.find? (·.key.isStr z) with
  | some y => rw [e] at i1; exact ⟨_, rfl, by simpa using i1⟩
  | none => rw [e] at i1; exact ⟨none, by simp only [i2]; rfl, by simpa using i1⟩
theorem cx_no {P : Program} {w : World} {o : List Env} {H : Hp} {s s' : Shared} {u : Value} : L2.CX P w o H s (fun _ _ _ => False) u s' → False := fun ⟨_, _, _, _, _, _, _, _, _, _, _, _, h⟩ => h
end Mi

/-! methods of own instances; a field changed in place; texts that begin so. -/
namespace Mi
open PySem PySem.Spec PyProof.Rows L2
section
variable {G : Gc} {X : Cx} {ca : Nat → Addr} {W : WX} {e o : Expr} {es : List Expr} {te to ta : TE} {t tA tk : TA} {m mo : M Loc} {mA : M (List Loc)} {pos p apos pos' : Pos} {nf k : Nat} {f : Addr} {fd : FuncData} {ps : List Str} {x mn fn : Str} {g : List D → M D} {c : Nat}
/-- o.m(..), the exceptions by the frame's values -/
def tMethS (C : Addr) (m : Str) (sp : Sp) (E : L2.St → XK) (ta : TE) (t : TA) : TE := fun σ H Q => ta σ H fun x H1 => ∃ a dx fs, (x = .ref a ∧ H1 a = some (.ins C dx fs) ∧ fs.lookup m = none) ∧
  t σ H1 fun vs H2 => sp (.ref a :: vs) H2 Q (E σ)
theorem pe_mS {pl : Sem Bool} {C : Addr} {sp : Sp} {E : L2.St → XK} (he : PE X o ta) (c : Cls X.K C) (hm : Meth X.K C mn f) (F : FnOk X.prog X.w X.K X.mg X.base (L2.CX X.prog X.w) k f fd ps sp) (hr : Room k X.A) (hb : Binds X.K fd ps []) (hx : ∀ σ, PassesAt (L2.CX X.prog X.w) X σ (E σ)) (ha : PA X (e :: es) t)
    (h2 : starEach (e :: es) X.env = (false, eval e X.env) :: starEach es X.env) (h3 : (backTo pos (starEach es X.env)).any (·.1) = false)
    (ht : eval (.Call (.Attribute o mn apos) (e :: es) [] pos) X.env = (do
      let ov ← eval o X.env
      standAt apos.atName
      let (fv, first) ← holding [ov] (getMethod ov mn pl)
      callWith pos fv first (backTo pos (starEach (e :: es) X.env)) (backToKw pos (keywordEach [] X.env)))) : PE X (.Call (.Attribute o mn apos) (e :: es) [] pos) (tMethS C mn sp E ta t) := by
  refine ⟨fun pins s σ H Q I h => PySem.W.methodCall_KW (pl := pl) (thn (he.run pins s σ H _ I h) fun u s1 h1 => ?_) ht⟩
  obtain ⟨x, H1, I1, rx, a, dx, fs, ⟨ex, ea, l⟩, q⟩ := h1
  subst ex
  have hu : u = Value.ref a := rx
  subst hu
  refine getmeth_ok I1 ea c hm l ?_
  refine PySem.W.callWith_K (first := [.ref a]) (h₀ := X.base) I.ok.mod.kin hm.kp ?_ h2 h3
  refine thn (ha.run pos pins s1 σ H1 _ I1 q) fun us s2 z => ?_
  obtain ⟨vs, H2, I2, r, q2⟩ := z
  exact ⟨I2.kIn, run_fnS (us := .ref a :: us) (vs := .ref a :: vs) F hr hb (hx σ) I2 (.cons rfl r) q2⟩
theorem pe_mS0 {pl : Sem Bool} {C : Addr} {sp : Sp} {E : L2.St → XK} (he : PE X o ta) (c : Cls X.K C) (hm : Meth X.K C mn f) (F : FnOk X.prog X.w X.K X.mg X.base (L2.CX X.prog X.w) k f fd ps sp) (hr : Room k X.A) (hb : Binds X.K fd ps []) (hx : ∀ σ, PassesAt (L2.CX X.prog X.w) X σ (E σ))
    (ht : eval (.Call (.Attribute o mn apos) [] [] pos) X.env = (do
      let ov ← eval o X.env
      standAt apos.atName
      let (fv, first) ← holding [ov] (getMethod ov mn pl)
      callWith pos fv first (backTo pos (starEach [] X.env)) (backToKw pos (keywordEach [] X.env)))) : PE X (.Call (.Attribute o mn apos) [] [] pos) (tMethS C mn sp E ta tNil) := by
  refine ⟨fun pins s σ H Q I h => PySem.W.methodCall_KW (pl := pl) (thn (he.run pins s σ H _ I h) fun u s1 h1 => ?_) ht⟩
  obtain ⟨x, H1, I1, rx, a, dx, fs, ⟨ex, ea, l⟩, q⟩ := h1
  subst ex
  have hu : u = Value.ref a := rx
  subst hu
  refine getmeth_ok I1 ea c hm l ?_
  exact PySem.W.callWith_K0 (first := [.ref a]) I1.kIn hm.kp (run_fnS (us := [.ref a]) (vs := [.ref a]) F hr hb (hx σ) I1 (.cons rfl .nil) q)
def hasM (c : Nat) (m : Str) (d : D) (s : S) : Bool := match d with
  | .obj c' fs => decide (c' = c) && (fs.lookup m).isNone
  | .ptr n => match s.t[n]? with | some (.obj c' fs) => decide (c' = c) && (fs.lookup m).isNone | _ => false
  | _ => false
def eMeth (c : Nat) (mn : Str) (g : List D → M D) (mo : M Loc) (ma : M (List Loc)) : M Loc := bnd mo fun l => bnd (toVal l) fun d => fun s => if hasM c mn d s = true then (bnd ma fun ls => bnd (vals ls) fun ds => callF g (d :: ds)) s else .stuck
theorem none_of_isNone {α : Type} {o : Option α} (h : o.isNone = true) : o = none := by cases o <;> first | rfl | cases h
theorem hasM_at {G : Gc} {S0 : Addr → Prop} {ρ : List Addr} {s : S} {σ : L2.St} {H : Hp} {v : V} {d : D} (t : Sat G S0 ρ s σ H) (r : Rep G (Wa S0 ρ s.e σ) ρ H v d) (h : hasM c mn d s = true) : ∃ a dx fs, v = .ref a ∧ H a = some (.ins (G.ca c) dx fs) ∧ fs.lookup mn = none := by
  cases d with
  | obj c' fs =>
    have h : (decide (c' = c) && (fs.lookup mn).isNone) = true := h
    rw [Bool.and_eq_true] at h
    obtain ⟨h1, h2⟩ := h
    have h1 : c' = c := of_decide_eq_true h1
    subst h1
    obtain ⟨a, dx, vs, rfl, h, ek, rr⟩ := br_obj (.inl r)
    exact ⟨a, dx, vs, rfl, h, look_none (G := G) (W := fun _ => True) (ρ := []) (H := H) ek (none_of_isNone h2)⟩
  | ptr n =>
    cases r with
    | ptr ha =>
      unfold hasM at h
      cases e0 : s.t[n]? with
      | none => simp only [e0] at h; cases h
      | some d0 =>
        cases d0 with
        | obj c' fs =>
          simp only [e0] at h
          rw [Bool.and_eq_true] at h
          obtain ⟨h1, h2⟩ := h
          have h1 : c' = c := of_decide_eq_true h1
          subst h1
          obtain ⟨dx, vs, h, ek, rr⟩ := or_obj (t.sto n _ _ ha e0)
          exact ⟨_, dx, vs, rfl, h, look_none (G := G) (W := fun _ => True) (ρ := []) (H := H) ek (none_of_isNone h2)⟩
        | _ => simp only [e0] at h; cases h
  | _ => cases h
theorem ev_meth (ho : Ev ⟨X.K, ca, X.w⟩ W (LRep ⟨X.K, ca, X.w⟩) to mo) (ha : JA X ca W es tA mA) (n : Nat) (hn : es.length + 1 = n) :
    Ev ⟨X.K, ca, X.w⟩ W (LRep ⟨X.K, ca, X.w⟩) (tMethS (ca c) mn (spM ⟨X.K, ca, X.w⟩ n g) (fun σ c dx H' => W c dx σ H') to tA) (eMeth c mn g mo mA) := by
  intro S0 ρ s σ H Q t hp
  refine ho _ _ _ _ _ _ t (post_bind hp fun l s1 _ v H1 ρ1 t1 n1 r1 hp1 => post_toVal t1 r1 hp1 fun d s2 t2 n2 r2 hp2 => ?_)
  have hp2 : Post ⟨X.K, ca, X.w⟩ W (LRep ⟨X.K, ca, X.w⟩) S0 ρ1 s2 σ H1 (if hasM c mn d s2 = true then (bnd mA fun ls => bnd (vals ls) fun ds => callF g (d :: ds)) s2 else .stuck) Q := hp2
  by_cases hc : hasM c mn d s2 = true
  · rw [if_pos hc] at hp2
    obtain ⟨a, dx, fs, rfl, h, hl⟩ := hasM_at t2 r2 hc
    refine ⟨a, dx, fs, ⟨rfl, h, hl⟩, ?_⟩
    refine ha.ev _ _ _ _ _ _ t2 (post_bind hp2 fun ls s3 e3 vs H3 ρ3 t3 n3 r3 hp3 => post_vals t3 r3 hp3 fun ds s4 t4 n4 r4 hp4 => ?_)
    refine call_post ?_ t4 (.cons ((r2.mono n3.k n3.p).mono n4.k n4.p) r4) hp4
    rw [← hn, ← ha.len _ _ _ e3]
    exact congrArg (· + 1) (Paired.length r3)
  · rw [if_neg hc] at hp2; exact hp2.elim
theorem je_meth {pl : Sem Bool} (F : FnOk X.prog X.w X.K X.mg X.base (L2.CX X.prog X.w) k f fd ps (spM ⟨X.K, ca, X.w⟩ ps.length g)) (hr : Room k X.A) (cl : Cls X.K (ca c)) (hm : Meth X.K (ca c) mn f) (hb : Binds X.K fd ps []) (tk : Takes X W) (ho : JE X ca W o to mo) (ha : JA X ca W (e :: es) tA mA)
    (hn : (e :: es).length + 1 = ps.length := by rfl) (h2 : starEach (e :: es) X.env = (false, eval e X.env) :: starEach es X.env := by rfl) (h3 : (backTo pos (starEach es X.env)).any (·.1) = false := by rfl)
    (ht : eval (.Call (.Attribute o mn apos) (e :: es) [] pos) X.env = (do
      let ov ← eval o X.env
      standAt apos.atName
      let (fv, first) ← holding [ov] (getMethod ov mn pl)
      callWith pos fv first (backTo pos (starEach (e :: es) X.env)) (backToKw pos (keywordEach [] X.env))) := by rfl) :
    JE X ca W (.Call (.Attribute o mn apos) (e :: es) [] pos) (tMethS (ca c) mn (spM ⟨X.K, ca, X.w⟩ ps.length g) (fun σ c dx H' => W c dx σ H') to tA) (eMeth c mn g mo mA) :=
  ⟨pe_mS ho.pe cl hm F hr hb (fun σ => passAt tk σ) ha.pa h2 h3 ht, ev_meth ho.ev ha ps.length hn⟩
theorem je_meth0 {pl : Sem Bool} (F : FnOk X.prog X.w X.K X.mg X.base (L2.CX X.prog X.w) k f fd ps (spM ⟨X.K, ca, X.w⟩ ps.length g)) (hr : Room k X.A) (cl : Cls X.K (ca c)) (hm : Meth X.K (ca c) mn f) (hb : Binds X.K fd ps []) (tk : Takes X W) (ho : JE X ca W o to mo)
    (hn : 1 = ps.length := by rfl)
    (ht : eval (.Call (.Attribute o mn apos) [] [] pos) X.env = (do
      let ov ← eval o X.env
      standAt apos.atName
      let (fv, first) ← holding [ov] (getMethod ov mn pl)
      callWith pos fv first (backTo pos (starEach [] X.env)) (backToKw pos (keywordEach [] X.env))) := by rfl) :
    JE X ca W (.Call (.Attribute o mn apos) [] [] pos) (tMethS (ca c) mn (spM ⟨X.K, ca, X.w⟩ ps.length g) (fun σ c dx H' => W c dx σ H') to tNil) (eMeth c mn g mo aNil) :=
  ⟨pe_mS0 ho.pe cl hm F hr hb (fun σ => passAt tk σ) ht, ev_meth ho.ev ja_nil ps.length hn⟩
end
end Mi

namespace Mi
open PySem PySem.Spec PyProof.Rows L2
section
variable {G : Gc} {X : Cx} {ca : Nat → Addr} {W : WX} {e o : Expr} {es : List Expr} {te to ta : TE} {t tA tk : TA} {m mo : M Loc} {mA : M (List Loc)} {pos p apos pos' tpos : Pos} {nf k : Nat} {f : Addr} {fd : FuncData} {ps : List Str} {x mn fn : Str} {g : List D → M D} {c : Nat}
/-! ### o.f += an int -/
def fldI (c : Nat) (fn : Str) : D → Option Int
  | .obj c' fs => if c' = c then (match fs.lookup fn with | some (.int i) => some i | _ => none) else none
  | _ => none
def updI (c : Nat) (fn : Str) (z : Int) : D → Option (D × D)
  | .obj c' fs => if c' = c ∧ fs.length < 1000 then some (.obj c' (putFD fn (.int z) fs), .non) else none
  | _ => none
def sFldA (c : Nat) (fn : Str) (mo mv : M Loc) : M Fl := bnd mo fun l => bnd (cont l) fun d => match fldI c fn d with
  | some i => bnd mv fun lv => bnd (cont lv) fun dv => match dv with
    | .int j => bnd (cont l) fun d2 => match updI c fn (i + j) d2 with
      | some cd => bnd (setc l cd.1) fun _ => ret Fl.nx
      | none => stk
    | _ => stk
  | none => stk
theorem fldI_at {W : Addr → Prop} {ρ : List Addr} {H : Hp} {v : V} {d : D} {i : Int} (bd : BR G W ρ H v d) (h : fldI c fn d = some i) : ∃ a dx fs, v = .ref a ∧ H a = some (.ins (G.ca c) dx fs) ∧ fs.lookup fn = some (.int i) := by
  cases d with
  | obj c' ds =>
    have h : (if c' = c then (match ds.lookup fn with | some (.int i) => some i | _ => none) else none) = some i := h
    by_cases hc : c' = c
    · subst hc
      rw [if_pos rfl] at h
      obtain ⟨a, dx, vs, rfl, hh, ek, rr⟩ := br_obj bd
      cases e1 : ds.lookup fn with
      | none => rw [e1] at h; cases h
      | some d1 =>
        rw [e1] at h
        cases d1 with
        | int j =>
          cases h
          obtain ⟨v1, l1, r1⟩ := look_f ek rr e1
          have := br_int (.inl r1)
          subst this
          exact ⟨a, dx, vs, rfl, hh, l1⟩
        | _ => cases h
    · rw [if_neg hc] at h; cases h
  | _ => cases h
theorem js_fldA (cl : Cls X.K (ca c)) (na : NoAttr X.K (ca c) fn) (ho : JE X ca W o to mo) (he : JE X ca W e te m) : JS X ca W nf (.AugAssign (.Attribute o fn tpos) .Add e pos) (sFldAug X.K to te rAdd fn) (sFldA c fn mo m) := by
  refine ⟨ps_fldaug ho.pe he.pe in_add, fun S0 ρ s σ H E t hp => ?_⟩
  refine ho.ev _ _ _ _ _ _ t ((wS (nf := nf) E).bind hp fun l s1 _ v H1 ρ1 t1 n1 r1 hp1 => ?_)
  refine (wS (nf := nf) E).cont t1 r1 hp1 fun d bd ec hp2 => ?_
  cases ei : fldI c fn d with
  | none => simp only [ei] at hp2; exact ((wS (nf := nf) E).sk hp2).elim
  | some i =>
    simp only [ei] at hp2
    obtain ⟨a, dx, fs, rfl, hh, hl⟩ := fldI_at (c := c) (fn := fn) bd ei
    refine ⟨a, _, dx, fs, _, rfl, hh, cl, na, hl, ?_⟩
    refine he.ev _ _ _ _ _ _ t1 ((wS (nf := nf) E).bind hp2 fun lv s3 _ y H3 ρ3 t3 n3 r3 hp3 => ?_)
    refine (wS (nf := nf) E).cont t3 r3 hp3 fun dv bv ev hp4 => ?_
    cases dv with
    | int j =>
      have := br_int bv
      subst this
      refine ⟨i, j, rfl, rfl, ?_⟩
      refine post_upd (wS (nf := nf) E) (updI c fn (i + j)) (k := fun _ => ret Fl.nx) (us := []) (ds := []) t3 (stab_L r1 n3.k n3.p) .nil hp4 fun a' c0 c' d ev' wa oc z _ up => ?_
      cases ev'
      cases c0 with
      | obj c2 fs2 =>
        have z : (if c2 = c ∧ fs2.length < 1000 then some (D.obj c2 (putFD fn (.int (i + j)) fs2), D.non) else none) = some (c', d) := z
        by_cases hc : c2 = c ∧ fs2.length < 1000
        · rw [if_pos hc] at z
          obtain ⟨ez1, ez2⟩ := Prod.mk.inj (Option.some.inj z)
          clear z
          subst ez1
          obtain ⟨hc1, hc2⟩ := hc
          subst hc1
          obtain ⟨dx2, vs, h2, ke, r⟩ := or_obj oc
          have hlen : vs.length = fs2.length := by have := congrArg List.length ke; simpa using this
          refine ⟨dx2, vs, h2, by rw [hlen]; exact hc2, ?_⟩
          obtain ⟨i1, i2⟩ := putF_reps (fn := fn) (v := .int (i + j)) .int ke r
          obtain ⟨s4, t4, n4, hw, hp5⟩ := up (.ins (ca c2) dx2 (putF fn (.int (i + j)) vs)) fun S1 kp => .obj upd_same i1 (i2.mono kp (List.prefix_refl _))
          exact PostS.nx (X := W) (E := E) hp5 t4
        · have z : (none : Option (D × D)) = some (c', d) := (if_neg hc).symm.trans z
          cases z
      | _ => have z : (none : Option (D × D)) = some (c', d) := z; cases z
    | _ => exact ((wS (nf := nf) E).sk hp4).elim
/-! ### x.startswith(y, i) -/
def begD : D → List D → Option D
  | .str x, [.str y, .int i] => some (.bl (Txt.startswith3 x y i))
  | _, _ => none
def rBegins : V → List V → Hp → VK → Prop := fun x xs H Q => ∃ (a b : Str) (i : Int), x = .str a ∧ xs = [.str b, .int i] ∧ Q (.bl (Txt.startswith3 a b i)) H
theorem mt_begins : MtR X "str.startswith" rBegins := mt_startswith3
theorem sp_beg : SpM G rBegins begD := by
  intro W ρ H x xs dx ds d Q tk bx bs e q
  match dx, ds, e with
  | .str a, [.str b, .int i], e =>
    cases e
    obtain rfl := br_str bx
    cases bs with
    | cons b1 bs => cases bs with
      | cons b2 bs => cases bs with
        | nil =>
          obtain rfl := br_str b1
          obtain rfl := br_int b2
          exact ⟨a, b, i, rfl, rfl, q _ _ .refl .bl⟩
end
end Mi

namespace Mi
open PySem PySem.Spec PyProof.Rows L2
/-! ### own exceptions, raised and caught -/
theorem pmk_own0 {X : Cx} {C : Addr} {bmB : List Value} {B newId initId : String} {x : Str} {p pos : Pos} (F : ExcBaseFacts B newId initId bmB) (q : PySem.W.excIn X.K C bmB newId = true) (gC : X.mg x = some (.ref C))
    (kC : PySem.W.keepIn X.K (.ref C) = true) (r : Raises X (.ref C)) (hg : Gl X x) (hdb : (x == ("__debug__" : Str)) = false := by decide) :
    PMk X (.Call (.Name x p) [] [] pos) (fun _ H Q => Q (.ref C) none H) := by
  intro pins s σ H Q I h
  refine wpAny_Call_Name_kw (ld_glob I hg gC ?_ hdb)
  refine PySem.W.callWith_K0 I.kIn kC ?_
  show wpAny _ _ (call (.ref C) []) _ _ _
  obtain ⟨bm, N, nm, qn, bs, hdct, sn, sub, ab, col, dd, k0, k1, k2, k3, k5, mN, hC, hN, hni, T⟩ := exc_obj I.kIn q
  refine wpAny_call_exc_subT F T hC hN hni (fun h' e hm => ?_) (Nat.zero_le _)
  exact mk_of I hm r h (I.hok.gone hm.new)
/-- an exception class of the program, over ValueError, without an __init__ -/
structure XCls (K : PySem.W.Frag) (C : Addr) : Prop where
  q : PySem.W.excIn K C [.type "ValueError", .type "Exception", .type "BaseException", .type "object"] "ValueError.__new__" = true
  k : PySem.W.keepIn K (.ref C) = true
  b : PySem.W.subIn K (.ref C) (.type "BaseException") = some true
  t : PySem.W.typeIn K (.ref C) = some (.type "type")
theorem exm_pair {K : PySem.W.Frag} {R S : Addr} {b : Bool} (h1 : PySem.W.subIn K (.ref S) (.type "BaseException") = some true) (h2 : PySem.W.isClsIn K S = true) (h3 : PySem.W.typeIn K (.ref S) = some (.type "type")) (h4 : PySem.W.subIn K (.ref R) (.ref S) = some b) :
    PySem.W.exmOne K (.ref R) (.ref S) = some b := by
  have e1 : (PySem.W.subIn K (.ref S) (.type "BaseException") == some true) = true := by rw [h1]; rfl
  have e2 : ((PySem.W.clsIn K S).isSome && PySem.W.typeIn K (.ref S) == some (.type "type")) = true := by
    have h2' : (PySem.W.clsIn K S).isSome = true := h2
    rw [h2', h3]; rfl
  show (if (PySem.W.subIn K (.ref S) (.type "BaseException") == some true) = true then (if ((PySem.W.clsIn K S).isSome && PySem.W.typeIn K (.ref S) == some (.type "type")) = true then PySem.W.subIn K (.ref R) (.ref S) else none) else none) = some b
  rw [if_pos e1, if_pos e2, h4]
section
variable {X : Cx} {ca : Nat → Addr} {W : WX} {nf c : Nat} {pos p np pos' : Pos} {x : Str}
theorem js_raiseO (hc : X.calm = true) (tkx : Takes X W) (hx : XCls X.K (ca c)) (g : X.mg x = some (.ref (ca c))) (hg : Gl X x) (hdb : (x == ("__debug__" : Str)) = false := by decide) :
    JS X ca W nf (.Raise (some (.Call (.Name x p) [] [] pos)) none pos') (fun _ σ H => W (.ref (ca c)) none σ H) (sRaise0 c) :=
  js_raise0 hc tkx (pmk_own0 PySem.F.excBase_ValueError hx.q g hx.k (raises_own hx.b hx.t) hg hdb)
/-- the mirror as a reading -/
def tMir (G : Gc) (nf : Nat) (m : M Fl) (W : WX) : TS := fun D σ H => ∃ S0 ρ s, Sat G S0 ρ s σ H ∧ PostS G W nf S0 ρ s σ H (m s) D
theorem pss_mir {X' : Cx} {st : List Stmt} {m : M Fl} (h : ∃ ts, JB X' ca W nf st ts m) : PSs X' st (tMir ⟨X'.K, ca, X'.w⟩ nf m W) := by
  obtain ⟨ts, h⟩ := h
  exact ⟨fun pins s σ H D I ⟨S0, ρ, s0, t, hp⟩ => h.pss.run pins s σ H D I (h.ev S0 ρ s0 σ H D t hp)⟩
def calmR (r : Res Fl) : Res Fl := match r with
  | .ok f s => .ok f s
  | _ => .stuck
/-- the clauses of a try, one after the other: what ex tells of the classes -/
def runH (ex : Nat → Nat → Option Bool) (x : Xn) (s : S) : List (Nat × M Fl) → Res Fl
  | [] => .exc x s
  | (j, m) :: r => match ex x.c j with
    | some true => calmR (m s)
    | some false => runH ex x s r
    | none => .stuck
def sTry (ex : Nat → Nat → Option Bool) (m : M Fl) (hs : List (Nat × M Fl)) : M Fl := fun s => match m s with
  | .exc x s' => runH ex x s' hs
  | r => r
def W0f : WX := fun _ _ _ _ => False
def hdl (G : Gc) (nf : Nat) (hs : List (Nat × M Fl)) : List (Value × (Addr → Value → Option Addr → TS)) := hs.map fun p => (.ref (G.ca p.1), fun _ _ _ => tMir G nf p.2 W0f)
inductive HJ (X : Cx) (ca : Nat → Addr) (nf : Nat) : List ExceptHandler → List (Nat × M Fl) → Prop
  | nil : HJ X ca nf [] []
  | cons {x : Str} {c : Nat} {m : M Fl} {b₀ : Stmt} {suite : List Stmt} {np pos' : Pos} {hds : List ExceptHandler} {l : List (Nat × M Fl)} (hc : Names X x (.ref (ca c)))
      (hsu : ∀ (a : Addr) (pn : List (Addr × Obj)), ∃ ts, JB (X.suite a pn) ca W0f nf (b₀ :: suite) ts m) (r : HJ X ca nf hds l) :
      HJ X ca nf (.ExceptHandler (some (.Name x np)) none (b₀ :: suite) pos' :: hds) ((c, m) :: l)
theorem HJ.ok {hds : List ExceptHandler} {l : List (Nat × M Fl)} (h : HJ X ca nf hds l) : HdsOk X hds (hdl ⟨X.K, ca, X.w⟩ nf l) := by
  induction h with
  | nil => exact .nil
  | cons hc hsu r ih => exact .cons hc (fun a oe cls d pn _ _ => pss_mir (X' := X.suite a ((a, oe) :: pn)) (hsu a _)) ih
theorem calm_post {G : Gc} {S0 : Addr → Prop} {ρ : List Addr} {s : S} {σ : L2.St} {H : Hp} {r : Res Fl} {D : Ends} (h : PostS G W nf S0 ρ s σ H (calmR r) D) : PostS G W0f nf S0 ρ s σ H r D := by
  cases r with
  | ok f s' => cases f <;> exact h
  | exc x s' => exact h.elim
  | stuck => exact h
theorem hs_post {G : Gc} {K : PySem.W.Frag} {ex : Nat → Nat → Option Bool} (hex : ∀ i j b, ex i j = some b → PySem.W.exmOne K (.ref (G.ca i)) (.ref (G.ca j)) = some b) {S0 : Addr → Prop} {ρ : List Addr} {s : S} {σ : L2.St} {H : Hp} {D : Ends} {xn : Xn} {dx : Option Addr}
    (t : Sat G S0 ρ s σ H) (xr : XRep G (Wa S0 ρ s.e σ) ρ H (.ref (G.ca xn.c)) dx xn) : ∀ l : List (Nat × M Fl), PostS G W nf S0 ρ s σ H (runH ex xn s l) D → wMany K W D (hdl G nf l) (.ref (G.ca xn.c)) dx σ H
  | [], h => h _ dx σ H ρ t .refl .refl xr
  | (j, m) :: l, h => by
    unfold runH at h
    cases e : ex xn.c j with
    | none => rw [e] at h; exact h.elim
    | some b =>
      rw [e] at h
      cases b with
      | true => exact ⟨true, hex _ _ _ e, fun _ a _ => ⟨S0, ρ, s, t, calm_post h⟩, fun z => Bool.noConfusion z⟩
      | false => exact ⟨false, hex _ _ _ e, fun z => Bool.noConfusion z, fun _ => hs_post hex t xr l h⟩
theorem js_try {body : List Stmt} {h₀ : ExceptHandler} {hds : List ExceptHandler} {mb : M Fl} {l : List (Nat × M Fl)} {ex : Nat → Nat → Option Bool} (hex : ∀ i j b, ex i j = some b → PySem.W.exmOne X.K (.ref (ca i)) (.ref (ca j)) = some b)
    (hs : X.stack = X.env :: X.outer) (hf : X.env.frame = some X.env.locals) (tk : Takes X W)
    (hb : ∀ (W' : WX) (pn : List (Addr × Obj)) (xe : Value → Shared → Prop), Takes (X.tr pn xe) W' → PassesOwn (model X.prog X.w) X.A X.env xe → ∃ ts, JB (X.tr pn xe) ca W' nf body ts mb)
    (hh : HJ X ca nf (h₀ :: hds) l) : JS X ca W nf (.Try body (h₀ :: hds) [] [] pos) (fun D σ H => tMir ⟨X.K, ca, X.w⟩ nf mb (wMany X.K W D (hdl ⟨X.K, ca, X.w⟩ nf l)) D σ H) (sTry ex mb l) := by
  refine ⟨ps_try_many (tb := fun W' => tMir ⟨X.K, ca, X.w⟩ nf mb W') hs hf tk (fun W' pn xe tk' po => pss_mir (X' := X.tr pn xe) (hb W' pn xe tk' po)) hh.ok, fun S0 ρ s σ H D t hp => ⟨S0, ρ, s, t, ?_⟩⟩
  unfold sTry at hp
  cases e : mb s with
  | ok f s' => rw [e] at hp; cases f <;> exact hp
  | stuck => rw [e] at hp; exact hp
  | exc xn s' =>
    rw [e] at hp
    intro c dx σ' H' ρ' t' n' f' xr
    have ec := xr.1
    subst ec
    exact hs_post (G := ⟨X.K, ca, X.w⟩) hex t' xr l (hp.fromS n' f')
end
end Mi

namespace Mi
open PySem PySem.Spec PyProof.Rows L2
section
variable {G : Gc} {X : Cx}
/-! ### max(xs), max(i, j), xs.index(i) -/
def maxOf : List Int → Int
  | [] => 0
  | [a] => a
  | a :: b :: r => if a ≤ maxOf (b :: r) then maxOf (b :: r) else a
theorem maxOf_mem : ∀ {ns : List Int}, 0 < ns.length → maxOf ns ∈ ns
  | [a], _ => List.mem_cons_self
  | a :: b :: r, _ => by
    have ih := maxOf_mem (ns := b :: r) (by simp)
    unfold maxOf
    split
    · exact List.mem_cons_of_mem _ ih
    · exact List.mem_cons_self
theorem maxOf_le : ∀ {ns : List Int} {y : Int}, y ∈ ns → y ≤ maxOf ns
  | [a], y, h => by rw [List.mem_singleton.mp h]; exact Int.le_refl _
  | a :: b :: r, y, h => by
    unfold maxOf
    rcases List.mem_cons.mp h with e | e
    · subst e
      split
      · assumption
      · exact Int.le_refl _
    · have ih := maxOf_le (ns := b :: r) e
      split
      · exact ih
      · omega
def maxD1 : List D → Option D
  | [.lst ds] => match intsD ds with
    | some ns => if 0 < ns.length then some (.int (maxOf ns)) else none
    | none => none
  | _ => none
theorem sp_max1 : SpC G (rMax G.K) maxD1 := by
  intro W ρ H xs ds d Q tk b e q
  match ds, e with
  | [.lst ds], e =>
    obtain ⟨x, rfl, b1⟩ := brs1 b; obtain ⟨a, vs, rfl, h, r⟩ := br_lst b1
    have e : (match intsD ds with | some ns => if 0 < ns.length then some (D.int (maxOf ns)) else none | none => none) = some d := e
    cases z : intsD ds with
    | none => rw [z] at e; cases e
    | some ns =>
      rw [z] at e
      simp only at e
      by_cases c : 0 < ns.length
      · rw [if_pos c] at e
        cases e
        refine ⟨a, ns, rfl, .inl (.inl (by rw [← reps_ints r z]; exact h)), c, fun m hm hle => ?_⟩
        have : m = maxOf ns := Int.le_antisymm (maxOf_le hm) (hle _ (maxOf_mem c))
        subst this
        exact q _ _ .refl .int
      · rw [if_neg c] at e; cases e
def maxD2 : List D → Option D
  | [.int i, .int j] => some (.int (if j > i then j else i))
  | _ => none
theorem sp_max2 : SpC G (fun xs H Q => ∃ i j, xs = [.int i, .int j] ∧ Q (.int (if j > i then j else i)) H) maxD2 := by
  intro W ρ H xs ds d Q tk b e q
  match ds, e with
  | [.int i, .int j], e =>
    cases e
    cases b with
    | cons b1 bs => cases bs with
      | cons b2 bs => cases bs with
        | nil =>
          obtain rfl := br_int b1
          obtain rfl := br_int b2
          exact ⟨i, j, rfl, q _ _ .refl .int⟩
def idxD : D → List D → Option D
  | .lst ds, [.int i] => match intsD ds with
    | some ns => if i ∈ ns then some (.int (ns.idxOf i : Nat)) else none
    | none => none
  | _, _ => none
theorem sp_idx : SpM G (rIndex G.K) idxD := by
  intro W ρ H x xs dx ds d Q tk bx bs e q
  match dx, ds, e with
  | .lst es, [.int i], e =>
    obtain ⟨a, vs, rfl, h, r⟩ := br_lst bx
    have e : (match intsD es with | some ns => if i ∈ ns then some (D.int (ns.idxOf i : Nat)) else none | none => none) = some d := e
    cases bs with
    | cons b1 bs => cases bs with
      | nil =>
        obtain rfl := br_int b1
        cases z : intsD es with
        | none => rw [z] at e; cases e
        | some ns =>
          rw [z] at e
          simp only at e
          by_cases c : i ∈ ns
          · rw [if_pos c] at e
            cases e
            have hv := reps_ints r z
            have hl := List.idxOf_lt_length_of_mem c
            refine ⟨a, ns.map V.int, .int i, ns.idxOf i, .int i, rfl, rfl, .inl (.inl (by rw [← hv]; exact h)), rfl, by simp [flatV], ?_, by simp [eqV], ?_, q _ _ .refl .int⟩
            · rw [List.getElem?_map, List.getElem?_eq_getElem hl, List.getElem_idxOf hl]; rfl
            · intro m z' hm hz
              rw [List.getElem?_map] at hz
              obtain ⟨y, hy, rfl⟩ := Option.map_eq_some_iff.mp hz
              obtain ⟨hml, hme⟩ := List.getElem?_eq_some_iff.mp hy
              have ne : y ≠ i := fun z2 => by
                have := List.not_of_lt_findIdx (p := (· == i)) (xs := ns) (i := m) hm
                simp [hme, z2] at this
              simpa [eqV] using ne
          · rw [if_neg c] at e; cases e
end
end Mi

namespace Mi
open PySem PySem.Spec PyProof.Rows L2
section
variable {G : Gc} {S0 W W' : Addr → Prop} {ρ ρ' : List Addr} {H H' : Hp} {a b : Addr} {d : D} {v : V} {s : S} {σ : L2.St}
/-! ### a dict is locked, or let loose again -/
structure Sw (a : Addr) (H H' : Hp) : Prop where
  ne : ∀ b, b ≠ a → H' b = H b
  no : ∀ w, Rd H a w → (∀ kvs, w ≠ .dK kvs) → (∀ o u, w ≠ .frz o u) → False
  rd : ∀ kvs, Rd H a (.dK kvs) → Rd H' a (.dK kvs)
theorem Sw.ex (s : Sw a H H') {w : HO} (h : H b = some w) (n1 : ∀ kvs, w ≠ .dK kvs) (n2 : ∀ o u, w ≠ .frz o u) : H' b = some w := by
  by_cases c : b = a
  · subst c; exact (s.no w (.inl h) n1 n2).elim
  · rw [s.ne b c]; exact h
theorem Sw.rdx (s : Sw a H H') {w : HO} (h : Rd H b w) (n1 : ∀ kvs, w ≠ .dK kvs) (n2 : ∀ o u, w ≠ .frz o u) : Rd H' b w := by
  by_cases c : b = a
  · subst c; exact (s.no w h n1 n2).elim
  · rcases h with h | ⟨o, h⟩
    · exact .inl ((s.ne b c).trans h)
    · exact .inr ⟨o, (s.ne b c).trans h⟩
theorem Sw.rdk (s : Sw a H H') {kvs : List (Key × V)} (h : Rd H b (.dK kvs)) : Rd H' b (.dK kvs) := by
  by_cases c : b = a
  · subst c; exact s.rd kvs h
  · rcases h with h | ⟨o, h⟩
    · exact .inl ((s.ne b c).trans h)
    · exact .inr ⟨o, (s.ne b c).trans h⟩
mutual
theorem Rep.sw (k : Sw a H H') : ∀ {v : V} {d : D}, Rep G W ρ H v d → Rep G W ρ H' v d
  | _, _, .non => .non
  | _, _, .bl => .bl
  | _, _, .int => .int
  | _, _, .str => .str
  | _, _, .tup h n r => .tup (k.ex h (by intro _ z; cases z) (by intro _ _ z; cases z)) n (Reps.sw k r)
  | _, _, .tupK h z r => .tupK h z (Reps.sw k r)
  | _, _, .lst h n r => .lst (k.ex h (by intro _ z; cases z) (by intro _ _ z; cases z)) n (Reps.sw k r)
  | _, _, .lck h n r => .lck (k.rdx h (by intro _ z; cases z) (by intro _ _ z; cases z)) n (Reps.sw k r)
  | _, _, .lckK h r => .lckK h (Reps.sw k r)
  | _, _, .dic h n e r => .dic (k.rdk h) n e (Reps.sw k r)
  | _, _, .dit h n e r => .dit (k.ex h (by intro _ z; cases z) (by intro _ _ z; cases z)) n e (Reps.sw k r)
  | _, _, .din h n q e r => .din (k.ex h (by intro _ z; cases z) (by intro _ _ z; cases z)) n (fun x hx => let ⟨us, ks, h1, h2, h3⟩ := q x hx; ⟨us, ks, k.ex h1 (by intro _ z; cases z) (by intro _ _ z; cases z), h2, h3⟩) e (Reps.sw k r)
  | _, _, .obj h n e r => .obj (k.ex h (by intro _ z; cases z) (by intro _ _ z; cases z)) n e (Reps.sw k r)
  | _, _, .ptr h => .ptr h
theorem Reps.sw (k : Sw a H H') : ∀ {vs : List V} {ds : List D}, Reps G W ρ H vs ds → Reps G W ρ H' vs ds
  | _, _, .nil => .nil
  | _, _, .cons h r => .cons (Rep.sw k h) (Reps.sw k r)
end
theorem ORep.sw (k : Sw a H H') (n : b ≠ a) (h : ORep G W ρ H b d) : ORep G W ρ H' b d := by
  have e := k.ne b n
  cases h with
  | lst h r => exact .lst (e.trans h) (r.sw k)
  | dic h q r => exact .dic (e.trans h) q (r.sw k)
  | dit h q r => exact .dit (e.trans h) q (r.sw k)
  | din h z q r => exact .din (e.trans h) (fun x hx => let ⟨us, ks, h1, h2, h3⟩ := z x hx; ⟨us, ks, k.ex h1 (by intro _ z; cases z) (by intro _ _ z; cases z), h2, h3⟩) q (r.sw k)
  | obj h q r => exact .obj (e.trans h) q (r.sw k)
theorem Sat.sw (k : Sw a H H') (n : ¬ Wa S0 ρ s.e σ a) (h : Sat G S0 ρ s σ H) : Sat G S0 ρ s σ H' := by
  refine ⟨h.len, fun i d e => ?_, fun i d e => ?_, h.inj, h.rlen, fun m b d e1 e2 => ?_, h.nd, h.rs, fun b w => ?_⟩
  · obtain ⟨v, e1, r⟩ := h.val i d e
    exact ⟨v, e1, r.sw k⟩
  · obtain ⟨b, e1, r, q⟩ := h.own i d e
    exact ⟨b, e1, r.sw k (fun z => n (by rw [← z]; exact .inr (.inr ⟨i, d, e, e1⟩))), q⟩
  · exact (h.sto m b d e1 e2).sw k (fun z => n (by rw [← z]; exact .inr (.inl (List.mem_of_getElem? e1))))
  · obtain ⟨o, q, z⟩ := h.s0 b w
    exact ⟨o, (k.ne b (fun z => n (by rw [← z]; exact .inl w))).trans q, z⟩
theorem sw_lock {od : Obj} {kvs : List (Key × V)} (h : H a = some (.dK kvs)) : Sw a H (upd H a (.frz od (.dK kvs))) := by
  refine ⟨fun b n => upd_ne n, fun w r n1 n2 => ?_, fun k2 r => ?_⟩
  · rcases r with r | ⟨o, r⟩
    · rw [h] at r; cases r; exact n1 _ rfl
    · rw [h] at r; cases r
  · rcases r with r | ⟨o, r⟩
    · rw [h] at r; cases r; exact .inr ⟨od, upd_same⟩
    · rw [h] at r; cases r
theorem sw_loose {od : Obj} {kvs : List (Key × V)} (h : H a = some (.frz od (.dK kvs))) : Sw a H (upd H a (.dK kvs)) := by
  refine ⟨fun b n => upd_ne n, fun w r n1 n2 => ?_, fun k2 r => ?_⟩
  · rcases r with r | ⟨o, r⟩
    · rw [h] at r; cases r; exact n2 _ _ rfl
    · rw [h] at r; cases r; exact n1 _ rfl
  · rcases r with r | ⟨o, r⟩
    · rw [h] at r; cases r
    · rw [h] at r; cases r; exact .inl upd_same
/-- what a step under the lock keeps is kept when it is let loose -/
theorem nx_loose {e e' : List Slot} {σ' : L2.St} {od : Obj} {kvs : List (Key × V)} (h : H a = some (.dK kvs)) (n : ¬ Wa S0 ρ e σ a) (x : Nx S0 ρ e σ (upd H a (.frz od (.dK kvs))) ρ' e' σ' H') :
    H' a = some (.frz od (.dK kvs)) ∧ ¬ Wa S0 ρ' e' σ' a ∧ Nx S0 ρ e σ H ρ' e' σ' (upd H' a (.dK kvs)) := by
  have h1 := x.k.keep a _ n upd_same
  have h2 := x.k.wn a _ n upd_same
  refine ⟨h1, h2, ⟨⟨fun b o w q => ?_, fun b o w q => ?_, fun b o w q => ?_⟩, x.p⟩⟩
  · by_cases c : b = a
    · subst c; rw [h] at q; cases q; exact upd_same
    · rw [upd_ne c]; exact x.k.keep b o w (by rw [upd_ne c]; exact q)
  · by_cases c : b = a
    · subst c; exact h2
    · exact x.k.wn b o w (by rw [upd_ne c]; exact q)
  · by_cases c : b = a
    · subst c; exact absurd (.inl w) n
    · rw [upd_ne c]; exact x.k.s0 b o w (by rw [upd_ne c]; exact q)
end
/-! ### for k in d -/
def kD : Key → D
  | .inl i => .int i
  | .inr x => .str x
theorem room65 {A : Around} {k : Nat} (hr : Room k A) : A.units + 64 + 1 < cLine := by have := hr.un; omega
theorem rep_kD {G : Gc} {W : Addr → Prop} {ρ : List Addr} {H : Hp} (k : Key) : Rep G W ρ H (kV k) (kD k) := by
  cases k with
  | inl i => exact .int
  | inr x => exact .str
def calmE (r : Res Fl) : Res Fl := match r with
  | .ok f s => .ok f s
  | _ => .stuck
/-- a walk over the keys -/
def keysF (ks : List Key) (tg : TgF) (body : M Fl) : Nat → Nat → M Fl
  | 0, _ => stk
  | n + 1, i => match ks[i]? with
    | none => ret .nx
    | some k => fun s => match tg (kD k) s with
      | none => .stuck
      | some s' => (calmE (body s')).bind (aft (keysF ks tg body n (i + 1)))
def sForK (i : Nat) (tg : TgF) (body : M Fl) : M Fl := fun s => match s.e[i]? with
  | some (.val (.dic kvs)) => keysF (kvs.map (·.1)) tg body lim 0 s
  | _ => .stuck
section
variable {nf i : Nat} {G : Gc} {X : Cx} {ca : Nat → Addr} {W : WX} {tg : Expr} {body : List Stmt} {g : TG} {a : TgF} {tb : TS} {mb : M Fl} {pos p : Pos} {x : Str}
theorem upd_back {H : Hp} {d : Addr} {u w : HO} (h : H d = some w) : upd (upd H d u) d w = H := by
  funext b
  by_cases c : b = d
  · subst c; rw [upd_same, h]
  · rw [upd_ne c, upd_ne c]
theorem keys_core {S0 : Addr → Prop} {d : Addr} {od : Obj} {vs : List (Key × V)} {L : Hp → Hp} {E D : Ends} (hg : JG X ca nf tg g a) (hb : JB X ca W nf body tb mb)
    (p1 : ∀ {ρ s σ H}, H d = some (.frz od (.dK vs)) → ¬ Wa S0 ρ s.e σ d → Sat ⟨X.K, ca, X.w⟩ S0 ρ s σ H → Sat ⟨X.K, ca, X.w⟩ S0 ρ s σ (L H))
    (p2 : ∀ {ρ e σ H ρ' e' σ' H'}, H d = some (.frz od (.dK vs)) → ¬ Wa S0 ρ e σ d → Nx S0 ρ e σ H ρ' e' σ' H' → Nx S0 ρ e σ (L H) ρ' e' σ' (L H'))
    (p3 : ∀ {Wr ρ H v dd}, H d = some (.frz od (.dK vs)) → Rep ⟨X.K, ca, X.w⟩ Wr ρ H v dd → Rep ⟨X.K, ca, X.w⟩ Wr ρ (L H) v dd)
    (hnx : ∀ σ' H', H' d = some (.frz od (.dK vs)) → E.nx σ' (L H') → D.nx σ' H') (hrt : ∀ v H', H' d = some (.frz od (.dK vs)) → E.rt v (L H') → D.rt v H')
    {ρ : List Addr} {s : S} {σ : L2.St} {H : Hp} (t : Sat ⟨X.K, ca, X.w⟩ S0 ρ s σ H) (hd : H d = some (.frz od (.dK vs))) (nw : ¬ Wa S0 ρ s.e σ d) (hp : PostS ⟨X.K, ca, X.w⟩ W nf S0 ρ s σ (L H) (keysF (vs.map (·.1)) a mb lim 0 s) E) :
    ∃ Wm : Nat → Nat → L2.St → Hp → Prop, (∃ m, Wm 0 m σ H) ∧ ∀ i m σ H, Wm i m σ H → ((Itk d od vs).stop i H ∧ D.nx σ H) ∨ ((Itk d od vs).go i H ∧ ∃ N : L2.St → Hp → Prop, (∀ σ' H', N σ' H' → ∃ m', m' < m ∧ Wm (i + 1) m' σ' H') ∧ ∀ x H', (Itk d od vs).yld i H x H' → g x σ H' fun σ2 H2 => tb { D with nx := N, ct := N, bk := D.nx } σ2 H2) := by
  refine ⟨fun j m σ' H' => ∃ ρ' s', Sat ⟨X.K, ca, X.w⟩ S0 ρ' s' σ' H' ∧ H' d = some (.frz od (.dK vs)) ∧ ¬ Wa S0 ρ' s'.e σ' d ∧ PostS ⟨X.K, ca, X.w⟩ W nf S0 ρ' s' σ' (L H') (keysF (vs.map (·.1)) a mb m j s') E, ⟨lim, ρ, s, t, hd, nw, hp⟩, ?_⟩
  rintro j m σ2 H2 ⟨ρ2, s2, t2, hd2, nw2, hp2⟩
  cases m with
  | zero => exact hp2.elim
  | succ m =>
    unfold keysF at hp2
    rw [List.getElem?_map] at hp2
    cases e : vs[j]? with
    | none =>
      rw [e] at hp2
      refine .inl ⟨⟨hd2, List.getElem?_eq_none_iff.mp e⟩, hnx _ _ hd2 ?_⟩
      exact PostS.nx (X := W) (G := ⟨X.K, ca, X.w⟩) (nf := nf) hp2 (p1 hd2 nw2 t2)
    | some kv =>
      rw [e] at hp2
      obtain ⟨k, w⟩ := kv
      refine .inr ⟨⟨hd2, (List.getElem?_eq_some_iff.mp e).1⟩, fun σ' H' => ∃ ρ' s', Sat ⟨X.K, ca, X.w⟩ S0 ρ' s' σ' H' ∧ H' d = some (.frz od (.dK vs)) ∧ ¬ Wa S0 ρ' s'.e σ' d ∧ PostS ⟨X.K, ca, X.w⟩ W nf S0 ρ' s' σ' (L H') (keysF (vs.map (·.1)) a mb m (j + 1) s') E, fun σ' H' n => ⟨m, Nat.lt_succ_self _, n⟩, fun x H' hy => ?_⟩
      obtain ⟨rfl, k', v', e', rfl⟩ := hy
      rw [e] at e'
      cases e'
      have hp2 : PostS ⟨X.K, ca, X.w⟩ W nf S0 ρ2 s2 σ2 (L H') (match a (kD k) s2 with
        | none => .stuck
        | some s' => (calmE (mb s')).bind (aft (keysF (vs.map (·.1)) a mb m (j + 1)))) E := hp2
      cases ea : a (kD k) s2 with
      | none => rw [ea] at hp2; exact hp2.elim
      | some s3 =>
        rw [ea] at hp2
        refine hg.ev _ _ _ _ _ _ _ _ _ t2 (rep_kD k) ea fun σ3 t3 n3 f3 => ?_
        refine hb.ev _ _ _ _ _ _ t3 ?_
        have n3' := p2 hd2 nw2 n3
        have hp2 : PostS ⟨X.K, ca, X.w⟩ W nf S0 ρ2 s3 σ3 (L H') ((calmE (mb s3)).bind (aft (keysF (vs.map (·.1)) a mb m (j + 1)))) E := PostS.fromS hp2 n3' f3
        have hd3 := hd2
        have nw3 : ¬ Wa S0 ρ2 s3.e σ3 d := n3.k.wn d _ nw2 hd2
        cases em : mb s3 with
        | stuck => rw [em] at hp2; exact hp2
        | exc xn s4 => rw [em] at hp2; exact hp2.elim
        | ok f s4 =>
          rw [em] at hp2
          cases f with
          | nx =>
            intro σ' H4 ρ4 t4 n4 f4
            have hd4 := n4.k.keep d _ nw3 hd3
            have nw4 := n4.k.wn d _ nw3 hd3
            exact ⟨ρ4, s4, t4, hd4, nw4, PostS.fromS (r := keysF (vs.map (·.1)) a mb m (j + 1) s4) hp2 (p2 hd3 nw3 n4) f4⟩
          | ct =>
            intro σ' H4 ρ4 t4 n4 f4
            have hd4 := n4.k.keep d _ nw3 hd3
            have nw4 := n4.k.wn d _ nw3 hd3
            exact ⟨ρ4, s4, t4, hd4, nw4, PostS.fromS (r := keysF (vs.map (·.1)) a mb m (j + 1) s4) hp2 (p2 hd3 nw3 n4) f4⟩
          | bk =>
            intro σ' H4 ρ4 t4 n4 f4
            have hd4 := n4.k.keep d _ nw3 hd3
            have nw4 := n4.k.wn d _ nw3 hd3
            exact hnx _ _ hd4 (hp2 σ' (L H4) ρ4 (p1 hd4 nw4 t4) (p2 hd3 nw3 n4) f4)
          | rt dd =>
            intro v σ' H4 ρ4 t4 n4 f4 r4
            have hd4 := n4.k.keep d _ nw3 hd3
            have nw4 := n4.k.wn d _ nw3 hd3
            exact hrt _ _ hd4 (hp2 v σ' (L H4) ρ4 (p1 hd4 nw4 t4) (p2 hd3 nw3 n4) f4 (p3 hd4 r4))
theorem js_forK (hpo : PassesOwn (model X.prog X.w) X.A X.env X.xe) (hc : X.calm = true) (hx : X.N[i]? = some x) (hv : Vis X.env.scope x) (hg : JG X ca nf tg g a) (hb : JB X ca W nf body tb mb) (hs : ∀ u, foldedSetIterable (.Name x p) X.env u = pure u := by intro _; rfl)
    (hdb : (x == ("__debug__" : Str)) = false := by decide) (hcd : (x == ("__classdict__" : Str)) = false := by decide) :
    JS X ca W nf (.For tg (.Name x p) body [] pos) (fun D σ H => tLock (tFor (iKeys (tVar i)) g tb) D σ H ∨ tFor (iKeys (tVar i)) g tb D σ H) (sForK i a mb) := by
  have ps := ps_for hpo hc (pi_keys (pe_var (pos := p) hx hv hdb hcd)) hg.pg hb.pss hs (pos := pos)
  refine ⟨⟨fun pins s σ H D I h => h.elim (fun h => (ps_lock ps).run pins s σ H D I h) (fun h => ps.run pins s σ H D I h)⟩, fun S0 ρ s σ H E t hp => ?_⟩
  unfold sForK at hp
  cases e0 : s.e[i]? with
  | none => simp only [e0] at hp; exact hp.elim
  | some sl =>
    cases sl with
    | val dd =>
      cases dd with
      | dic kvs =>
        simp only [e0] at hp
        obtain ⟨v, ev, rv⟩ := t.val i _ e0
        cases rv with
        | @dic d vs _ h n e r =>
          rw [← e] at hp
          rcases h with h | ⟨od, h⟩
          · refine .inl ⟨d, .dK vs, h, trivial, fun od => ?_⟩
            have t1 := t.sw (sw_lock (od := od) h) n
            have hb1 : upd (upd H d (.frz od (.dK vs))) d (.dK vs) = H := upd_back h
            refine ⟨_, ev, d, od, rfl, .inl ⟨vs, upd_same, ?_⟩⟩
            refine keys_core (L := fun H' => upd H' d (.dK vs)) (E := E) (D := ⟨fun σ' H' => H' d = some (.frz od (.dK vs)) ∧ E.nx σ' (upd H' d (.dK vs)), fun v H' => H' d = some (.frz od (.dK vs)) ∧ E.rt v (upd H' d (.dK vs)), fun σ' H' => H' d = some (.frz od (.dK vs)) ∧ E.bk σ' (upd H' d (.dK vs)), fun σ' H' => H' d = some (.frz od (.dK vs)) ∧ E.ct σ' (upd H' d (.dK vs))⟩) hg hb (fun h1 w1 t1 => t1.sw (sw_loose h1) w1) (fun h1 w1 x1 => ?_) (fun h1 r1 => r1.sw (sw_loose h1)) (fun σ' H' h1 q => ⟨h1, q⟩) (fun v' H' h1 q => ⟨h1, q⟩) t1 upd_same n (by
              show PostS ⟨X.K, ca, X.w⟩ W nf S0 ρ s σ (upd (upd H d (.frz od (.dK vs))) d (.dK vs)) _ E
              rw [hb1]; exact hp)
            rename_i ρa ea σa Ha ρb eb σb Hb
            have hq : upd (upd Ha d (.dK vs)) d (.frz od (.dK vs)) = Ha := upd_back h1
            exact (nx_loose (od := od) (H := upd Ha d (.dK vs)) upd_same w1 (by rw [hq]; exact x1)).2.2
          · refine .inr ⟨_, ev, d, od, rfl, .inl ⟨vs, h, ?_⟩⟩
            exact keys_core (L := fun H' => H') (E := E) hg hb (fun _ _ t1 => t1) (fun _ _ x1 => x1) (fun _ r1 => r1) (fun _ _ _ q => q) (fun _ _ _ q => q) t h n hp
      | _ => simp only [e0] at hp; exact hp.elim
    | own dd => simp only [e0] at hp; exact hp.elim
    | no => simp only [e0] at hp; exact hp.elim
end
end Mi

namespace PySem.W
open PySem PyProof.Rows
section
variable {prog : Program} {w : World} {A : Around} {E : Value → Shared → Prop} {s : Shared} {K : Frag} {x C f : Addr} {ox : Obj} {od : Option Obj} {b : Value}
/-- a special method that a built-in type gives -/
theorem ifBound_B {M : Model} {name : Str} {id T : String} {args : List Value} {Q : Option Value → Shared → Prop} (X : K.In s.heap) (I : InstAt s.heap x ox C od) (hs : findIn K (.ref C) name = some (some (.builtin id))) (S : Slot T name id)
    (h : wpAny M A (call (.builtin id) (.ref x :: args)) (fun v => Q (some v)) E s) : wpAny M A (callSpecialIfBound? (.ref x) name args) Q E s := by
  simp only [callSpecialIfBound?, bindSpecialIfBound?]
  refine wpAny_holding (wpAny_bind (wpAny_bind (wpAny_bind (I.type.here ((looks_findIn X hs).here ?_)))))
  simp only [S.bind]
  refine wpAny_bind (wpAny_askSetting (wpAny_ite ?_))
  have fin : wpAny M A (call (.builtin id) ([.ref x] ++ args) >>= fun v => pure (some v)) Q E s := wpAny_bind (wpAny_mono h (fun v s' h' => wpAny_pure h') fun _ _ h' => h')
  split
  · exact wpAny_bind (wpAny_pure (wpAny_pure fin))
  · exact wpAny_tryCatch (wpAny_bind (wpAny_pure (wpAny_pure fin)))
theorem ne_body (X : K.In s.heap) (I : InstAt s.heap x ox C od) (he : findIn K (.ref C) "__eq__" = some (some (.ref f))) (hf : isFn K (.ref f) = true) (hu : A.units < cLine) {Q : Fin → Shared → Prop}
    (hcall : wpAny (model prog w) A (call (.ref f) [.ref x, b]) (fun v s' => ∃ k, v = .bool k ∧ Q (.done (.ret (.bool (!k)))) s') E s) : wpAny (model prog w) A (Builtin.«object.__ne__» ⟨[.ref x, b], []⟩) Q E s := by
  unfold Builtin.«object.__ne__»
  repeat (first
    | with_reducible refine wpAny_cRoomFor hu ?_
    | (refine wpAny_bind (m := callSpecialIfBound? (.ref x) (Str.ofString "__eq__") [b])
        (ifBound_K X I he hf (wpAny_mono hcall (fun r s' hr => by
          obtain ⟨k, rfl, hq⟩ := hr
          repeat (first | exact hq | exact wpAny_pure hq | exact wpAny_truthy_bool hq | (refine wpAny_bind (m := truthy (.bool _)) (wpAny_truthy_bool ?_)) | wp_step)) fun _ _ e => e)))
    | wp_step)
theorem ne_own {tb : Value} (X : K.In s.heap) (I : InstAt s.heap x ox C od) (hb : Looks (model prog w) s.heap (typeOf b) tb) (hn : notFirst K C tb = true) (hne : findIn K (.ref C) "__ne__" = some (some (.builtin "object.__ne__"))) (he : findIn K (.ref C) "__eq__" = some (some (.ref f))) (hf : isFn K (.ref f) = true)
    (hob : mroIn K C (.type "object") = some true) (hu : A.units + 1 < cLine) {Q : Value → Shared → Prop}
    (hcall : wpAny (model prog w) A.in1 (call (.ref f) [.ref x, b]) (fun v s' => ∃ k, v = .bool k ∧ Q (.bool (!k)) s') E s) : wpAny (model prog w) A (compareOp .NotEq (.ref x) b) Q E s := by
  have one : wpAny (model prog w) A (tryCompare (.ref x) "__ne__" b) (fun r s' => ∃ v, r = some v ∧ Q v s') E s := by
    unfold tryCompare
    refine wpAny_bind (ifBound_B X I hne PySem.F.cmp_object.ne ?_)
    have sub : Looks (model prog w) s.heap (isInstance (.ref x) (.type "object")) true := I.type.andThen (looks_mroIn X hob)
    refine wpAny_call (codeAny_call_builtin PySem.F.cmp_object.ne.plain PySem.F.cmpEntry_ne (check_slot PySem.F.cmpKind_ne PySem.F.cmpSplit_ne sub (PySem.F.cmpArgs_ne _ _) ?_))
    refine ne_body (A := A.in1) X I he hf hu (wpAny_mono hcall (fun v s' hv => ?_) fun _ _ e => e)
    obtain ⟨k, rfl, hq⟩ := hv
    exact ⟨k, rfl, wpAny_pure ⟨_, rfl, hq⟩⟩
  unfold compareOp
  show wpAny _ _ (richCompare .NotEq (.ref x) b) _ _ _
  unfold richCompare
  simp only [oneThing_ref]
  refine wpAny_holding (wpAny_bind (wpAny_cRoomFor (Nat.lt_of_succ_lt hu) ?_))
  rw [cmpInfo_NotEq]
  dsimp only
  refine wpAny_bind (I.type.here (wpAny_bind (hb.here ?_)))
  split
  · rename_i q
    have e : subIn K tb (.ref C) = some false := by
      rcases Bool.or_eq_true_iff.mp hn with e | e
      · rw [beq_iff_eq.mp e] at q; simp at q
      · exact beq_iff_eq.mp e
    refine wpAny_bind ((looks_subIn X e).here ?_)
    simp only [Bool.false_eq_true, if_false]
    refine wpAny_bind (wpAny_mono one (fun r s' z => ?_) fun _ _ e => e)
    obtain ⟨v, rfl, hq⟩ := z
    exact wpAny_pure hq
  · refine wpAny_bind (wpAny_pure ?_)
    simp only [Bool.false_eq_true, if_false]
    refine wpAny_bind (wpAny_mono one (fun r s' z => ?_) fun _ _ e => e)
    obtain ⟨v, rfl, hq⟩ := z
    exact wpAny_pure hq
end
end PySem.W

namespace Mi
open PySem PySem.Spec PyProof.Rows L2
/-! ### a != b, both of an own class with __eq__ -/
structure EqOwn (K : PySem.W.Frag) (C f : Addr) : Prop where
  ne : PySem.W.findIn K (.ref C) "__ne__" = some (some (.builtin "object.__ne__"))
  eq : PySem.W.findIn K (.ref C) "__eq__" = some (some (.ref f))
  fn : PySem.W.isFn K (.ref f) = true
  ob : PySem.W.mroIn K C (.type "object") = some true
def rNeO (C : Addr) (sp : Sp) : R2 := fun x y H2 Q => ∃ a b dx fs dy gs, x = .ref a ∧ y = .ref b ∧ H2 a = some (.ins C dx fs) ∧ H2 b = some (.ins C dy gs) ∧
  sp [.ref a, .ref b] H2 (fun v H3 => ∃ k, v = .bl k ∧ Q (.bl !k) H3) (fun _ _ _ => False)
section
variable {X : Cx} {ca : Nat → Addr} {W : WX} {e o a b : Expr} {ta tb te to : TE} {m mo ma mb : M Loc} {pos p apos cpos : Pos} {c k : Nat} {f : Addr} {fd : FuncData} {ps : List Str} {g : List D → M D} {sp : Sp}
theorem op_neO {C : Addr} (q : EqOwn X.K C f) (F : FnOk X.prog X.w X.K X.mg X.base (L2.CX X.prog X.w) k f fd ps sp) (hr : Room (k + 1) X.A) (hbn : Binds X.K fd ps []) : OpR X (compareOp .NotEq) (rNeO C sp) := by
  intro pins s2 σ H2 x y v u Q I2 r1 r2 ⟨a, b, dx, fs, dy, gs, ex, ey, ea, eb, q2⟩
  subst ex; subst ey
  obtain rfl : v = Value.ref a := r1
  obtain rfl : u = Value.ref b := r2
  obtain ⟨mA, J, _⟩ := ins_get I2.hok ea
  obtain ⟨mB, J', _⟩ := ins_get I2.hok eb
  obtain ⟨od, J, _⟩ := J.look
  obtain ⟨od', J', _⟩ := J'.look
  refine PySem.W.ne_own (tb := .ref C) I2.kIn J J'.type (by simp [PySem.W.notFirst]) q.ne q.eq q.fn q.ob (hu_of hr) ?_
  have e0 : Env0 X.prog X.w X.K X.mg X.base X.A.in1 X.stack s2 H2 := by
    have e := I2.env0
    exact ⟨e.frames, e.mod, e.bs, e.bsz, e.funs, e.frf, e.hok, e.bare⟩
  have hl := F.len _ _ _ _ q2
  have r2 : Vals [V.ref a, V.ref b] [Value.ref a, Value.ref b] := .cons rfl (.cons rfl .nil)
  refine wpAny_call (codeAny_mono (F.run X.A.in1 X.stack s2 H2 ⟨[.ref a, .ref b], []⟩ [.ref a, .ref b] [.ref a, .ref b] _ (fun _ _ _ => False) hr.in1 e0 (by
    have := hbn s2 [.ref a, .ref b] I2.kIn (by simpa using hl)
    simpa using this) r2 q2) fun r s' hq => ?_)
  cases r with
  | error e =>
    obtain ⟨_, _, _, _, _, _, _, _, _, _, _, _, z⟩ := hq
    exact z.elim
  | ok fl =>
    cases fl with
    | ret w =>
      obtain ⟨z, H', I', rz, k, ez, qq⟩ := I2.after hq
      subst ez
      cases rz
      exact ⟨k, rfl, .bl (!k), H', I', rfl, qq⟩
    | next => exact False.elim hq
    | brk => exact False.elim hq
    | cont => exact False.elim hq
def notL (l : Loc) : M Loc := fun s => match l with | .val (.bl k) => .ok (.val (.bl !k)) s | _ => .stuck
def eNeO (c : Nat) (g : List D → M D) (ma mb : M Loc) : M Loc := bnd ma fun x => bnd mb fun y => bnd (toVal x) fun dx => bnd (toVal y) fun dy => fun s => if (isCls c dx s && isCls c dy s) = true then (callP g [dx, dy] s).bind notL else .stuck
theorem ev_neO (ha : Ev ⟨X.K, ca, X.w⟩ W (LRep ⟨X.K, ca, X.w⟩) ta ma) (hb : Ev ⟨X.K, ca, X.w⟩ W (LRep ⟨X.K, ca, X.w⟩) tb mb) : Ev ⟨X.K, ca, X.w⟩ W (LRep ⟨X.K, ca, X.w⟩) (tOp (rNeO (ca c) (spM ⟨X.K, ca, X.w⟩ 2 g)) ta tb) (eNeO c g ma mb) := by
  intro S0 ρ s σ H Q t hp
  refine ha _ _ _ _ _ _ t (post_bind hp fun l s1 _ v H1 ρ1 t1 n1 r1 hp1 => ?_)
  refine hb _ _ _ _ _ _ t1 (post_bind hp1 fun l2 s2 _ u H2 ρ2 t2 n2 r2 hp2 => ?_)
  have r1 := stab_L r1 n2.k n2.p
  refine post_toVal t2 r1 hp2 fun dx s3 t3 n3 r3 hp3 => ?_
  have r2' : LRep ⟨X.K, ca, X.w⟩ (Wa S0 ρ2 s3.e σ) ρ2 H2 σ u l2 := stab_L r2 n3.k n3.p
  refine post_toVal t3 r2' hp3 fun dy s4 t4 n4 r4 hp4 => ?_
  have r3 := r3.mono n4.k n4.p
  have hp4 : Post ⟨X.K, ca, X.w⟩ W (LRep ⟨X.K, ca, X.w⟩) S0 ρ2 s4 σ H2 (if (isCls c dx s4 && isCls c dy s4) = true then (callP g [dx, dy] s4).bind notL else .stuck) Q := hp4
  by_cases hc : (isCls c dx s4 && isCls c dy s4) = true
  · rw [if_pos hc] at hp4
    rw [Bool.and_eq_true] at hc
    obtain ⟨a, dx', fs, rfl, h⟩ := isCls_at t4 r3 hc.1
    obtain ⟨b, dy', gs, rfl, h'⟩ := isCls_at t4 r4 hc.2
    refine ⟨a, b, dx', fs, dy', gs, rfl, rfl, h, h', ?_⟩
    refine call_post (X := W0) (n := 2) rfl t4 (.cons r3 (.cons r4 .nil)) ?_
    show Post ⟨X.K, ca, X.w⟩ W0 (LRep ⟨X.K, ca, X.w⟩) S0 ρ2 s4 σ H2 (callF g [dx, dy] s4) _
    unfold callF
    unfold callP at hp4
    cases e : g [dx, dy] ⟨[], s4.t⟩ with
    | ok d' s' =>
      simp only [e] at hp4 ⊢
      intro v H' ρ' t' n' r'
      have hp5 := hp4
      have hp5 : Post ⟨X.K, ca, X.w⟩ W (LRep ⟨X.K, ca, X.w⟩) S0 ρ2 s4 σ H2 (notL (.val d') ⟨s4.e, s'.t⟩) Q := hp5
      cases d' with
      | bl k =>
        obtain rfl := br_bl (.inl (show Rep ⟨X.K, ca, X.w⟩ _ _ _ v (.bl k) from r'))
        exact ⟨k, rfl, hp5 _ H' ρ' t' n' .bl⟩
      | _ => exact hp5.elim
    | exc x s' => simp only [e] at hp4; exact hp4.elim
    | stuck => simp only [e] at hp4; exact hp4.elim
  · rw [if_neg hc] at hp4; exact hp4.elim
theorem je_neO (q : EqOwn X.K (ca c) f) (F : FnOk X.prog X.w X.K X.mg X.base (L2.CX X.prog X.w) k f fd ps (spM ⟨X.K, ca, X.w⟩ 2 g)) (hr : Room (k + 1) X.A) (hbn : Binds X.K fd ps []) (ha : JE X ca W a ta ma) (hb : JE X ca W b tb mb) (hm : behindInMarks .NotEq b = false) :
    JE X ca W (.Compare a [.NotEq] [b] pos) (tOp (rNeO (ca c) (spM ⟨X.K, ca, X.w⟩ 2 g)) ta tb) (eNeO c g ma mb) := ⟨pe_cmpR (op_neO q F hr hbn) ha.pe hb.pe hm, ev_neO ha.ev hb.ev⟩
theorem jt_neO (q : EqOwn X.K (ca c) f) (F : FnOk X.prog X.w X.K X.mg X.base (L2.CX X.prog X.w) k f fd ps (spM ⟨X.K, ca, X.w⟩ 2 g)) (hr : Room (k + 1) X.A) (hbn : Binds X.K fd ps []) (ha : JE X ca W a ta ma) (hb : JE X ca W b tb mb) (hm : behindInMarks .NotEq b = false) :
    JT X ca W (.Compare a [.NotEq] [b] pos) (tTest (tOp (rNeO (ca c) (spM ⟨X.K, ca, X.w⟩ 2 g)) ta tb)) (tstB (eNeO c g ma mb)) := ⟨pt_cmpR (op_neO q F hr hbn) ha.pe hb.pe hm, ev_tstB (ev_neO ha.ev hb.ev)⟩
end
/-! ### d == e, d != e: dicts that are equal -/
def rEqDD (K : PySem.W.Frag) (neg : Bool) : R2 := fun x y H Q => ∃ a b ks ls, x = .ref a ∧ y = .ref b ∧ Rd H a (.dK ks) ∧ Rd H b (.dK ls) ∧ ks.length = ls.length ∧
  (∀ p ∈ ks, ∃ u d e, valV ls p.1 = some u ∧ Dp K H p.2 d ∧ Dp K H u e ∧ SeqAt.shaped d = true ∧ SeqAt.shaped e = true ∧ PyData.eqv d e = true) ∧ Q (.bl neg) H
section
variable {X : Cx} {pins : List (Addr × Obj)} {σ : L2.St} {H : Hp} {s : Shared}
theorem hits_dp (hu : X.A.in1.units + 64 < cLine) (I : Inv X pins σ H s) {ls : List (Key × V)} {vb : List (Key × Value)} (rb : KV ls vb) {ks : List (Key × V)} {va : List (Key × Value)} (ra : KV ks va) :
    (∀ p ∈ ks, ∃ u d e, valV ls p.1 = some u ∧ Dp X.K H p.2 d ∧ Dp X.K H u e ∧ SeqAt.shaped d = true ∧ SeqAt.shaped e = true ∧ PyData.eqv d e = true) → PySem.W.KeqHits X.A.in1 s vb va true := by
  unfold KV at ra
  induction ra with
  | nil => intro _; exact .nil
  | @cons p q ps qs h t ih =>
    intro hp
    obtain ⟨h1, h2⟩ := h
    obtain ⟨u, d, e, e1, dd, de, sd, se, ee⟩ := hp p List.mem_cons_self
    have rr : RelO (some u) (valueAt vb p.1) := by rw [← e1]; exact rb.val p.1
    obtain ⟨y, hy, ry⟩ := rr.some_of
    obtain ⟨k, v⟩ := q
    have h1' : p.1 = k := h1
    rw [h1'] at hy
    show PySem.W.KeqHits X.A.in1 s vb ((k, v) :: qs) (true && true)
    obtain ⟨as, q1⟩ := Dp.reads I d _ v dd h2
    obtain ⟨bs, q2⟩ := Dp.reads I e _ y de ry
    have ka := PySem.W.keq_at (A := X.A) q1 q2 sd se hu
    rw [ee] at ka
    exact .hit hy ka (ih fun p' hm => hp p' (List.mem_cons_of_mem _ hm))
theorem op_neDD (hu : X.A.units + 64 + 1 < cLine) : OpR X (compareOp .NotEq) (rEqDD X.K false) := by
  intro pins s σ H x y v u Q I rx ry h
  obtain ⟨a, b, ks, ls, rfl, rfl, ea, eb, hlen, hp, q⟩ := h
  obtain rfl : v = Value.ref a := rx
  obtain rfl : u = Value.ref b := ry
  obtain ⟨_, ya, va, ra, da⟩ := dk_rd I.hok ea
  obtain ⟨_, yb, vb, rb, db⟩ := dk_rd I.hok eb
  have hl : va.length = vb.length := by rw [← ra.length, ← rb.length]; exact hlen
  exact PySem.W.keq_ne (knd := mixKind X.prog X.w) (r := true) ya yb da db (by omega) (fun _ => hits_dp (show X.A.units + 1 + 64 < cLine by omega) I rb ra hp) (fin_bl I q (by simp [hl]))
theorem op_eqDD (hu : X.A.units + 64 + 1 < cLine) : OpR X (compareOp .Eq) (rEqDD X.K true) := by
  intro pins s σ H x y v u Q I rx ry h
  obtain ⟨a, b, ks, ls, rfl, rfl, ea, eb, hlen, hp, q⟩ := h
  obtain rfl : v = Value.ref a := rx
  obtain rfl : u = Value.ref b := ry
  obtain ⟨_, ya, va, ra, da⟩ := dk_rd I.hok ea
  obtain ⟨_, yb, vb, rb, db⟩ := dk_rd I.hok eb
  have hl : va.length = vb.length := by rw [← ra.length, ← rb.length]; exact hlen
  exact PySem.W.keq_eq (knd := mixKind X.prog X.w) (r := true) ya yb da db (by omega) (fun _ => hits_dp (show X.A.units + 1 + 64 < cLine by omega) I rb ra hp) (fin_bl I q (by simp [hl]))
end
def allHit : List (Key × D) → List (Key × D) → Bool
  | [], _ => true
  | (k, d) :: r, ls => (match lookK ls k with | some u => (match eqD false d u with | some (.bl true) => true | _ => false) | none => false) && allHit r ls
def eqDD (neg : Bool) : D → D → Option D
  | .dic ks, .dic ls => if (decide (ks.length = ls.length) && allHit ks ls) = true then some (.bl neg) else none
  | _, _ => none
section
variable {G : Gc} {W : Addr → Prop} {ρ : List Addr} {H : Hp}
theorem allHit_dp {ls : List (Key × D)} {us : List (Key × V)} (k2 : us.map (·.1) = ls.map (·.1)) (r2 : Reps G W ρ H (us.map (·.2)) (ls.map (·.2))) : ∀ {ks : List (Key × D)} {vs : List (Key × V)}, vs.map (·.1) = ks.map (·.1) → Reps G W ρ H (vs.map (·.2)) (ks.map (·.2)) → allHit ks ls = true →
    ∀ p ∈ vs, ∃ u d e, valV us p.1 = some u ∧ Dp G.K H p.2 d ∧ Dp G.K H u e ∧ SeqAt.shaped d = true ∧ SeqAt.shaped e = true ∧ PyData.eqv d e = true
  | [], [], _, _, _ => fun p hp => by cases hp
  | [], _ :: _, e, _, _ => by cases e
  | _ :: _, [], e, _, _ => by cases e
  | (k, d) :: ks, (k', v) :: vs, e, .cons r t, h => by
    intro p hp
    rw [List.map_cons, List.map_cons] at e
    injection e with e1 e2
    have e1 : k' = k := e1
    subst e1
    unfold allHit at h
    rw [Bool.and_eq_true] at h
    rcases List.mem_cons.mp hp with rfl | hp
    · have h1 := h.1
      rcases look_reps (k := k') k2 r2 with ⟨_, z⟩ | ⟨u, d2, z1, z2, z3⟩
      · rw [z] at h1; cases h1
      · rw [z2] at h1
        have h1 : (match eqD false d d2 with | some (.bl true) => true | _ => false) = true := h1
        unfold eqD at h1
        cases y1 : toPy d with
        | none => rw [y1] at h1; cases h1
        | some p1 =>
          cases y2 : toPy d2 with
          | none => rw [y1, y2] at h1; cases h1
          | some p2 =>
            rw [y1, y2] at h1
            by_cases hs : (SeqAt.shaped p1 && SeqAt.shaped p2) = true
            · have h1 : (match (if (SeqAt.shaped p1 && SeqAt.shaped p2) = true then some (D.bl (false ^^ PyData.eqv p1 p2)) else none) with | some (.bl true) => true | _ => false) = true := h1
              rw [if_pos hs] at h1
              rw [Bool.and_eq_true] at hs
              refine ⟨u, p1, p2, z1, dp_of r y1, dp_of z3 y2, hs.1, hs.2, ?_⟩
              cases q : PyData.eqv p1 p2 with
              | true => rfl
              | false => rw [q] at h1; cases h1
            · have h1 : (match (if (SeqAt.shaped p1 && SeqAt.shaped p2) = true then some (D.bl (false ^^ PyData.eqv p1 p2)) else none) with | some (.bl true) => true | _ => false) = true := h1
              rw [if_neg hs] at h1; cases h1
    · exact allHit_dp k2 r2 e2 t h.2 p hp
theorem sp_eqDD {neg : Bool} : Sp2 G (rEqDD G.K neg) (eqDD neg) := by
  intro W ρ H x y dx dy d Q tk bx bby e q
  cases dx with
  | dic ks =>
    cases dy with
    | dic ls =>
      have e : (if (decide (ks.length = ls.length) && allHit ks ls) = true then some (D.bl neg) else none) = some d := e
      by_cases h : (decide (ks.length = ls.length) && allHit ks ls) = true
      · rw [if_pos h] at e
        cases e
        rw [Bool.and_eq_true] at h
        obtain ⟨a, vs, rfl, ha, k1, r1⟩ := br_dic bx
        obtain ⟨b, us, rfl, hb, k2, r2⟩ := br_dic bby
        have l1 : vs.length = ks.length := by have := congrArg List.length k1; simpa using this
        have l2 : us.length = ls.length := by have := congrArg List.length k2; simpa using this
        exact ⟨a, b, vs, us, rfl, rfl, ha, hb, by rw [l1, l2]; exact of_decide_eq_true h.1, allHit_dp k2 r2 k1 r1 h.2, q _ _ .refl .bl⟩
      · rw [if_neg h] at e; cases e
    | _ => cases e
  | _ => cases e
end
/-! ### d.copy() -/
def tCopy (to : TE) : TE := fun σ H Q => to σ H fun x H1 => ∃ a kvs, x = .ref a ∧ Rd H1 a (.dK kvs) ∧ ∀ p, H1 p = none → Q (.ref p) (upd H1 p (.dK kvs))
section
variable {X : Cx} {ca : Nat → Addr} {W : WX} {o : Expr} {to : TE} {mo : M Loc} {apos cpos : Pos}
theorem pe_copy (ho : PE X o to) (hbase : attributeBase o "copy" X.env (eval o X.env) = eval o X.env := by rfl) (hline : (apos.endLine == cpos.line) = true := by rfl) : PE X (.Call (.Attribute o "copy" apos) [] [] cpos) (tCopy to) := by
  refine ⟨fun pins s σ H Q I h => ?_⟩
  refine wpAny_Call_method0_late hbase hline (thn (ho.run pins s σ H _ I h) fun v s1 ⟨x, H1, I1, r1, a, kvs, ex, ea, q1⟩ => ?_)
  subst ex
  obtain rfl : v = Value.ref a := r1
  obtain ⟨z, hd, vs, rel, dd⟩ := dk_rd I1.hok ea
  have dd' := dd
  obtain ⟨ob, es, ep, e, ex, _⟩ := dd'
  refine ⟨"dict", "dict.copy", PySem.F.plainAttrs_dict, PySem.F.slot_dict_copy, PySem.F.type_dict_copy, ⟨ob, e, ex.1⟩, fun a e2 => ?_, Calls.callWith_builtin rfl (PySem.evalArgs_none ?_)⟩
  · cases e2; exact ⟨ob, e, ex.2.1⟩
  · refine call_meetsIn PySem.F.slot_dict_copy dd.typeIs PySem.F.entry_dict_copy (PySem.F.args_dict_copy_1 _) (meets_dict_copy (mixKind X.prog X.w) a hd) ⟨vs, dd, by rw [← rel.length]; exact z, fun h' d1 d2 hk => ?_⟩
    exact ⟨.ref s1.heap.objs.size, _, I1.laid (a := s1.heap.objs.size) (o := .dK kvs) (t' := s1.toks) hk (Nat.le_refl _) (dk_new z (beq_eq_false_iff_ne.mpr (Ne.symm (Nat.ne_of_lt I1.big))) rel d1), rfl, q1 _ (I1.hok.fresh (Nat.le_refl _))⟩
def nCopy (mo : M Loc) : M D := bnd mo fun l => bnd (cont l) fun c => fun s => match c with | .dic kvs => .ok (.dic kvs) s | _ => .stuck
theorem jn_copy (ho : JE X ca W o to mo) (hbase : attributeBase o "copy" X.env (eval o X.env) = eval o X.env := by rfl) (hline : (apos.endLine == cpos.line) = true := by rfl) : JN X ca W (.Call (.Attribute o "copy" apos) [] [] cpos) (tCopy to) (nCopy mo) := by
  refine ⟨pe_copy ho.pe hbase hline, fun S0 ρ s σ H Q t hp => ?_⟩
  refine ho.ev _ _ _ _ _ _ t ((wN Q).bind hp fun l s1 _ v H1 ρ1 t1 n1 r1 hp1 => (wN Q).cont t1 r1 hp1 fun d bd _ hp2 => ?_)
  cases d with
  | dic kvs =>
    obtain ⟨a, vs, rfl, ha, k1, rr⟩ := br_dic bd
    refine ⟨a, vs, rfl, ha, fun p n => ?_⟩
    obtain ⟨t2, k2, nw⟩ := t1.laid (o := .dK vs) n
    exact hp2 p _ ρ1 t2 k2 (List.prefix_refl _) nw (.dic upd_same k1 (rr.mono k2 (List.prefix_refl _)))
  | _ => exact hp2.elim
end
end Mi

namespace Mi
open PySem PySem.Spec PyProof.Rows L2
/-! ### i in range(n), i not in range(n) -/
section
variable {X : Cx}
theorem cr_range1 : CallR X (.type "range") (fun vs H Q => ∃ n, vs = [V.int n] ∧ ∀ p, H p = none → Q (.ref p) (upd H p (.rng 0 n))) := by
  intro pins s σ H vs us Q I r h
  obtain ⟨n, rfl, q⟩ := h
  obtain ⟨u, rfl, ru⟩ := vals1 r
  obtain ⟨t, rfl⟩ := ru
  refine call_range_1 ⟨.ref s.heap.objs.size, upd H s.heap.objs.size (.rng 0 n), I.laid (t' := s.toks + 1 + 1) (fun b o e => Heap.get?_push_of_some _ e) (Nat.le_refl _) ?_, rfl, q _ (I.hok.fresh (Nat.le_refl _))⟩
  exact ⟨s.toks, t, s.toks + 1, Heap.get?_push_size _ rfl⟩
def rInRng (neg : Bool) : R2 := fun x y H Q => ∃ i a lo hi, x = V.int i ∧ y = V.ref a ∧ H a = some (.rng lo hi) ∧ Q (.bl (neg ^^ decide (lo ≤ i ∧ i < hi))) H
theorem op_inRng : OpR X (compareOp .In) (rInRng false) := fun pins s σ H x y v u Q I rx ry ⟨i, a, lo, hi, e1, e2, e3, q⟩ => op_in_rng pins s σ H x y v u Q I rx ry ⟨i, a, lo, hi, e1, e2, e3, by simpa using q⟩
theorem op_notInRng : OpR X (compareOp .NotIn) (rInRng true) := by
  intro pins s σ H x y v u Q I rx ry h
  obtain ⟨i, a, lo, hi, rfl, rfl, ha, q⟩ := h
  obtain ⟨k, rfl⟩ := rx
  obtain rfl : u = Value.ref a := ry
  obtain ⟨t1, t2, t3, ho⟩ := I.hok a _ ha
  show wpAny _ _ (do return Value.bool (!(← contains (Value.ref a) (Value.int i k)))) _ _ s
  refine wpAny_bind (wpAny_contains_slot (T := "range") ⟨_, ho, rfl⟩ F.slot_range_contains (call_meets F.slot_range_contains ⟨_, ho, rfl⟩ F.entry_range_contains (F.args_range_contains_2 _ _) (q_contains a lo hi i t1 t2 t3 k)
    ⟨ho, wpAny_truthy_bool (wpAny_pure ⟨.bl _, H, I, rfl, ?_⟩)⟩))
  rw [place1]
  simpa using q
end
def rRng1 : List V → Hp → VK → Prop := fun vs H Q => ∃ n, vs = [V.int n] ∧ ∀ p, H p = none → Q (.ref p) (upd H p (.rng 0 n))
def eInRng (neg : Bool) (mx : M Loc) (mA : M (List Loc)) : M Loc := bnd mx fun x => bnd mA fun ls => fun s => match x, ls with
  | .val (.int i), [.val (.int j)] => .ok (.val (.bl (neg ^^ decide (0 ≤ i ∧ i < j)))) s
  | _, _ => .stuck
section
variable {X : Cx} {ca : Nat → Addr} {W : WX} {e a b : Expr} {ta tb te : TE} {tA : TA} {m ma : M Loc} {mA : M (List Loc)} {pos p pc : Pos} {neg : Bool}
theorem ev_inRng (ha : Ev ⟨X.K, ca, X.w⟩ W (LRep ⟨X.K, ca, X.w⟩) ta ma) (hA : Ev ⟨X.K, ca, X.w⟩ W (LReps ⟨X.K, ca, X.w⟩) tA mA) : Ev ⟨X.K, ca, X.w⟩ W (LRep ⟨X.K, ca, X.w⟩) (tOp (rInRng neg) ta (tCB rRng1 tA)) (eInRng neg ma mA) := by
  intro S0 ρ s σ H Q t hp
  refine ha _ _ _ _ _ _ t (post_bind hp fun l s1 _ v H1 ρ1 t1 n1 r1 hp1 => ?_)
  refine hA _ _ _ _ _ _ t1 (post_bind hp1 fun ls s2 _ vs H2 ρ2 t2 n2 r2 hp2 => ?_)
  have r1 := stab_L r1 n2.k n2.p
  match l, ls, hp2 with
  | .val (.int i), [.val (.int j)], hp2 =>
    cases r2 with
    | cons r rr =>
      cases rr
      obtain rfl := br_int (.inl (show Rep ⟨X.K, ca, X.w⟩ _ _ _ _ (.int j) from r))
      obtain rfl := br_int (.inl (show Rep ⟨X.K, ca, X.w⟩ _ _ _ _ (.int i) from r1))
      refine ⟨j, rfl, fun p n => ⟨i, p, 0, j, rfl, rfl, upd_same, ?_⟩⟩
      have hp2 : Post ⟨X.K, ca, X.w⟩ W (LRep ⟨X.K, ca, X.w⟩) S0 ρ2 s2 σ H2 (.ok (.val (.bl (neg ^^ decide (0 ≤ i ∧ i < j)))) s2) Q := hp2
      exact hp2 _ _ ρ2 (t2.grow (Ext.new n)).1 ⟨(t2.grow (Ext.new n)).2, List.prefix_refl _⟩ .bl
  | .own _, _, hp2 => exact hp2.elim
  | .val .non, _, hp2 => exact hp2.elim
  | .val (.bl _), _, hp2 => exact hp2.elim
  | .val (.str _), _, hp2 => exact hp2.elim
  | .val (.tup _), _, hp2 => exact hp2.elim
  | .val (.lst _), _, hp2 => exact hp2.elim
  | .val (.lck _), _, hp2 => exact hp2.elim
  | .val (.dic _), _, hp2 => exact hp2.elim
  | .val (.dit _), _, hp2 => exact hp2.elim
  | .val (.din _), _, hp2 => exact hp2.elim
  | .val (.obj _ _), _, hp2 => exact hp2.elim
  | .val (.ptr _), _, hp2 => exact hp2.elim
  | .val (.int _), [], hp2 => exact hp2.elim
  | .val (.int _), .own _ :: _, hp2 => exact hp2.elim
  | .val (.int _), .val .non :: _, hp2 => exact hp2.elim
  | .val (.int _), .val (.bl _) :: _, hp2 => exact hp2.elim
  | .val (.int _), .val (.str _) :: _, hp2 => exact hp2.elim
  | .val (.int _), .val (.tup _) :: _, hp2 => exact hp2.elim
  | .val (.int _), .val (.lst _) :: _, hp2 => exact hp2.elim
  | .val (.int _), .val (.lck _) :: _, hp2 => exact hp2.elim
  | .val (.int _), .val (.dic _) :: _, hp2 => exact hp2.elim
  | .val (.int _), .val (.dit _) :: _, hp2 => exact hp2.elim
  | .val (.int _), .val (.din _) :: _, hp2 => exact hp2.elim
  | .val (.int _), .val (.obj _ _) :: _, hp2 => exact hp2.elim
  | .val (.int _), .val (.ptr _) :: _, hp2 => exact hp2.elim
  | .val (.int _), .val (.int _) :: _ :: _, hp2 => exact hp2.elim
theorem je_inRng {op : CmpOp} (ho : OpR X (compareOp op) (rInRng neg)) (hg : Gl X "range") (hm : X.mg "range" = none) (ha : JE X ca W a ta ma) (hA : JA X ca W [b] tA mA) (hmk : behindInMarks op (.Call (.Name "range" p) [b] [] pos) = false)
    (hs : starEach [b] X.env = (false, eval b X.env) :: starEach [] X.env := by rfl) : JE X ca W (.Compare a [op] [.Call (.Name "range" p) [b] [] pos] pc) (tOp (rInRng neg) ta (tCB rRng1 tA)) (eInRng neg ma mA) :=
  ⟨pe_cmpR ho ha.pe (pe_callTy cr_range1 hg hm (by decide +kernel) hA.pa (by decide) (by decide) hs rfl) hmk, ev_inRng ha.ev hA.ev⟩
theorem jt_inRng {op : CmpOp} (ho : OpR X (compareOp op) (rInRng neg)) (hg : Gl X "range") (hm : X.mg "range" = none) (ha : JE X ca W a ta ma) (hA : JA X ca W [b] tA mA) (hmk : behindInMarks op (.Call (.Name "range" p) [b] [] pos) = false)
    (hs : starEach [b] X.env = (false, eval b X.env) :: starEach [] X.env := by rfl) : JT X ca W (.Compare a [op] [.Call (.Name "range" p) [b] [] pos] pc) (tTest (tOp (rInRng neg) ta (tCB rRng1 tA))) (tstB (eInRng neg ma mA)) :=
  ⟨pt_cmpR ho ha.pe (pe_callTy cr_range1 hg hm (by decide +kernel) hA.pa (by decide) (by decide) hs rfl) hmk, ev_tstB (ev_inRng ha.ev hA.ev)⟩
end
/-! ### x in a list of data -/
def rInDp (K : PySem.W.Frag) (neg : Bool) : R2 := fun x y H Q => ∃ d ds, Dp K H x d ∧ Dp K H y (.list ds) ∧ SeqAt.shaped d = true ∧ SeqAt.shaped (.list ds) = true ∧ Q (.bl (neg ^^ ds.any fun y => PyData.eqv y d)) H
section
variable {X : Cx}
theorem op_inDp (hu : X.A.units + 65 < cLine) : OpR X (compareOp .In) (rInDp X.K false) := by
  intro pins s σ H x y v u Q I rx ry h
  obtain ⟨d, ds, hd, he, sd, se, q⟩ := h
  obtain ⟨as, r1⟩ := Dp.reads I d x v hd rx
  obtain ⟨bs, r2⟩ := Dp.reads I _ y u he ry
  exact SeqAt.in_list_reads r2 r1 (SeqAt.canLay_of_shaped se) (SeqAt.canLay_of_shaped sd) (room_in_shaped sd hu) ⟨.bl _, H, I, rfl, by simpa using q⟩
theorem op_notInDp (hu : X.A.units + 65 < cLine) : OpR X (compareOp .NotIn) (rInDp X.K true) := by
  intro pins s σ H x y v u Q I rx ry h
  obtain ⟨d, ds, hd, he, sd, se, q⟩ := h
  obtain ⟨as, r1⟩ := Dp.reads I d x v hd rx
  obtain ⟨bs, r2⟩ := Dp.reads I _ y u he ry
  exact SeqAt.notIn_list_reads r2 r1 (SeqAt.canLay_of_shaped se) (SeqAt.canLay_of_shaped sd) (room_in_shaped sd hu) ⟨.bl _, H, I, rfl, by simpa using q⟩
end
def inDpD (neg : Bool) (a b : D) : Option D := match toPy a, toPy b with
  | some p, some (.list qs) => if (SeqAt.shaped p && SeqAt.shaped (.list qs)) = true then some (.bl (neg ^^ qs.any fun y => PyData.eqv y p)) else none
  | _, _ => none
theorem sp_inDp {G : Gc} {neg : Bool} : Sp2 G (rInDp G.K neg) (inDpD neg) := by
  intro W ρ H x y dx dy d Q tk bx bby e q
  unfold inDpD at e
  cases z1 : toPy dx with
  | none => rw [z1] at e; cases e
  | some p =>
    cases z2 : toPy dy with
    | none => rw [z1, z2] at e; cases e
    | some p2 =>
      rw [z1, z2] at e
      cases p2 with
      | list qs =>
        have e : (if (SeqAt.shaped p && SeqAt.shaped (.list qs)) = true then some (D.bl (neg ^^ qs.any fun y => PyData.eqv y p)) else none) = some d := e
        by_cases h : (SeqAt.shaped p && SeqAt.shaped (.list qs)) = true
        · rw [if_pos h] at e
          cases e
          rw [Bool.and_eq_true] at h
          exact ⟨p, qs, dp_br bx z1, dp_br bby z2, h.1, h.2, q _ _ Ext.refl .bl⟩
        · rw [if_neg h] at e; cases e
      | _ => cases e
/-! ### o.f, o.g = a tuple -/
def gFldT (K : PySem.W.Frag) (to : TE) (f : Str) : TG := fun v σ H Q => to σ H fun x H2 => ∃ a C dx fs, x = .ref a ∧ H2 a = some (.ins C dx fs) ∧ Cls K C ∧ NoAttr K C f ∧ fs.length < 1000 ∧ Q σ (upd H2 a (.ins C dx (putF f v fs)))
section
variable {X : Cx} {ca : Nat → Addr} {W : WX} {nf c n : Nat} {o e : Expr} {es : List Expr} {to te : TE} {mo m : M Loc} {gs : TGs} {fs : List Str} {fn : Str} {pos pos' : Pos}
theorem pg_fldT (ho : PE X o to) : PG X (.Attribute o fn pos) (gFldT X.K to fn) := by
  refine ⟨fun pins s σ H v u Q I r h => ?_⟩
  rw [assign_Attribute]
  refine wpAny_bind (wpAny_holding (thn (ho.run pins s σ H _ I h) fun ov s1 ⟨x, H1, I1, r1, a, C, dx, gs, ex, ea, c, na, l, q⟩ => ?_))
  subst ex
  obtain rfl : ov = Value.ref a := r1
  refine wpAny_bind (wpAny_standAt (wpAny_bind (wpAny_holding (setattr_ok I1 ea c na l r fun s2 I2 => ?_))))
  exact wpAny_release ⟨σ, _, I2, q⟩
def putO (c : Nat) (fn : Str) (dv : D) : D → Option (D × D) := fun d => match d with | .obj c' fs => if c' = c ∧ fs.length < 1000 then some (D.obj c' (putFD fn dv fs), D.non) else none | _ => none
def setFs (c : Nat) (mo : M Loc) : List Str → List D → M Fl
  | [], [] => ret Fl.nx
  | f :: fs, d :: ds => bnd mo fun l => bnd (cont l) fun x => match putO c f d x with
    | some cd => bnd (setc l cd.1) fun _ => setFs c mo fs ds
    | none => stk
  | _, _ => stk
structure JFs (X : Cx) (ca : Nat → Addr) (W : WX) (nf c : Nat) (mo : M Loc) (es : List Expr) (gs : TGs) (fs : List Str) : Prop where
  pgs : PGs X es gs
  ev : ∀ S0 ρ s σ H vs ds E, Sat ⟨X.K, ca, X.w⟩ S0 ρ s σ H → Reps ⟨X.K, ca, X.w⟩ (Wa S0 ρ s.e σ) ρ H vs ds → PostS ⟨X.K, ca, X.w⟩ W nf S0 ρ s σ H (setFs c mo fs ds s) E → gs vs σ H E.nx
theorem jfs_nil : JFs X ca W nf c mo [] gNil [] := ⟨pgs_nil, fun S0 ρ s σ H vs ds E t r hp => by
  cases r with
  | nil => exact ⟨rfl, PostS.nx hp t⟩
  | cons _ _ => exact hp.elim⟩
theorem jfs_cons (cl : Cls X.K (ca c)) (na : NoAttr X.K (ca c) fn) (ho : JE X ca W o to mo) (h : JFs X ca W nf c mo es gs fs) (hs : (assignEach (.Attribute o fn pos :: es) X.env).map (·.2) = assign (.Attribute o fn pos) X.env :: (assignEach es X.env).map (·.2) := by rfl) :
    JFs X ca W nf c mo (.Attribute o fn pos :: es) (gCons (gFldT X.K to fn) gs) (fn :: fs) := by
  refine ⟨pgs_cons (pg_fldT ho.pe) h.pgs hs, fun S0 ρ s σ H vs ds E t r hp => ?_⟩
  cases r with
  | nil => exact hp.elim
  | @cons v d vs ds r rr =>
    refine ⟨v, vs, rfl, ?_⟩
    have hp : PostS ⟨X.K, ca, X.w⟩ W nf S0 ρ s σ H ((mo s).bind fun l => bnd (cont l) fun x => match putO c fn d x with
      | some cd => bnd (setc l cd.1) fun _ => setFs c mo fs ds
      | none => stk) E := hp
    refine ho.ev _ _ _ _ _ _ t ((wS (nf := nf) E).bind hp fun l s3 _ ov H3 ρ3 t3 n3 r3 hp3 => ?_)
    refine post_upd (wS (nf := nf) E) (putO c fn d) (k := fun _ => setFs c mo fs ds) (us := v :: vs) (ds := d :: ds) t3 r3 (.cons (r.mono n3.k n3.p) (rr.mono n3.k n3.p)) hp3 fun a c0 c' d' ev wa oc z rs up => ?_
    cases c0 with
    | obj c2 gs' =>
      unfold putO at z
      by_cases hc : c2 = c ∧ gs'.length < 1000
      · simp only [hc, and_self, if_true] at z
        have hc1 := hc.1
        subst hc1
        cases z
        obtain ⟨dx, us, hh, ke, ru⟩ := or_obj oc
        have hl : us.length = gs'.length := by have := congrArg List.length ke; simpa using this
        cases rs with
        | cons rv rrv =>
          refine ⟨a, _, dx, us, ev, hh, cl, na, by rw [hl]; exact hc.2, ?_⟩
          obtain ⟨i1, i2⟩ := putF_reps (fn := fn) rv ke ru
          obtain ⟨s4, t4, n4, hw, hp5⟩ := up (.ins (ca c2) dx (putF fn v us)) fun S1 kp => .obj upd_same i1 (i2.mono kp (List.prefix_refl _))
          exact h.ev _ _ _ _ _ _ _ _ t4 (rrv.mono n4.k n4.p) hp5
      · simp only [hc, if_false] at z
        cases z
    | _ => cases z
def sAsgF (c : Nat) (mo : M Loc) (fs : List Str) (n : Nat) (m : M Loc) : M Fl := bnd m fun l => bnd (toVal l) fun d => match d with
  | .tup ds => if ds.length = n then setFs c mo fs ds else stk
  | _ => stk
theorem js_asgF {k : Nat} (hc : X.calm = true) (he : JE X ca W e te m) (h : JFs X ca W nf c mo es gs fs) (hn : (assignEach es X.env).length = n := by rfl) (hst : (assignEach es X.env).findIdx? (·.1) = none := by rfl)
    (hs : swapsWithSole [.Tuple es k pos'] e pos.line X.env = pure false := by rfl) (hw : swappedStores [.Tuple es k pos'] e X.env = pure none := by rfl)
    (h1 : (assignEach [.Tuple es k pos'] X.env).map (·.2) = [assign (.Tuple es k pos') X.env] := by rfl) : JS X ca W nf (.Assign [.Tuple es k pos'] e pos) (tAsg te (gTup X.K n gs)) (sAsgF c mo fs n m) := by
  refine ⟨ps_asg he.pe (pg_tup hc h.pgs hn hst) hs hw h1, fun S0 ρ s σ H E t hp => ?_⟩
  refine he.ev _ _ _ _ _ _ t ((wS (nf := nf) E).bind hp fun l s1 _ v H1 ρ1 t1 n1 r1 hp1 => (wS (nf := nf) E).toVal t1 r1 hp1 fun d s2 t2 n2 r2 hp2 => ?_)
  cases d with
  | tup ds =>
    have hp2 : PostS ⟨X.K, ca, X.w⟩ W nf S0 ρ1 s2 σ H1 ((if ds.length = n then setFs c mo fs ds else stk) s2) E := hp2
    by_cases hl : ds.length = n
    · rw [if_pos hl] at hp2
      obtain ⟨a, vs, rfl, hs, rr, _⟩ := br_tup (.inl r2)
      exact ⟨a, vs, rfl, hs, by rw [rr.length]; exact hl, h.ev _ _ _ _ _ _ _ _ t2 rr hp2⟩
    · rw [if_neg hl] at hp2; exact hp2.elim
  | _ => exact hp2.elim
/-! ### a, b = x, y by names -/
def sPar (i j : Nat) (mA : M (List Loc)) : M Fl := bnd mA fun ls => bnd (vals ls) fun ds => fun s => match ds with
  | [d1, d2] => (match gN i d1 s with | none => .stuck | some s' => (match gN j d2 s' with | none => .stuck | some s2 => .ok .nx s2))
  | _ => .stuck
theorem js_par {i j : Nat} {x y : Str} {a b : Expr} {tA : TA} {mA : M (List Loc)} {px py pt : Pos} {kt k2 pt2} (hc : X.calm = true) (hN : X.N.Nodup) (hi : X.N[i]? = some x) (hj : X.N[j]? = some y) (hij : i ≠ j)
    (hx : X.env.scope.names.lookup x = some .local) (hy : X.env.scope.names.lookup y = some .local) (hA : JA X ca W [a, b] tA mA)
    (hw : swappedStores [.Tuple [.Name x px, .Name y py] kt pt] (.Tuple [a, b] k2 pt2) X.env = pure (some [x, y]))
    (hs : swapsWithSole [.Tuple [.Name x px, .Name y py] kt pt] (.Tuple [a, b] k2 pt2) pos.line X.env = pure false := by rfl) (hni : nf ≤ i := by decide) (hnj : nf ≤ j := by decide) :
    JS X ca W nf (.Assign [.Tuple [.Name x px, .Name y py] kt pt] (.Tuple [a, b] k2 pt2) pos) (tPar i j tA) (sPar i j mA) := by
  refine ⟨ps_par hc hN hi hj hij hx hy hA.pa hw hs, fun S0 ρ s σ H E t hp => ?_⟩
  refine hA.ev _ _ _ _ _ _ t ((wS (nf := nf) E).bind hp fun ls s1 _ vs H1 ρ1 t1 n1 r1 hp1 => (wS (nf := nf) E).vals t1 r1 hp1 fun ds s2 t2 n2 r2 hp2 => ?_)
  match ds, hp2 with
  | [d1, d2], hp2 =>
    have hp2 : PostS ⟨X.K, ca, X.w⟩ W nf S0 ρ1 s2 σ H1 (match gN i d1 s2 with | none => .stuck | some s' => (match gN j d2 s' with | none => .stuck | some s2 => .ok .nx s2)) E := hp2
    cases r2 with
    | @cons v _ _ _ rv rr =>
      cases rr with
      | @cons w _ _ _ rw rz =>
        cases rz
        refine ⟨v, w, rfl, ?_⟩
        cases z1 : gN i d1 s2 with
        | none => rw [z1] at hp2; exact hp2.elim
        | some s3 =>
          rw [z1] at hp2
          have hp2 : PostS ⟨X.K, ca, X.w⟩ W nf S0 ρ1 s2 σ H1 (match gN j d2 s3 with | none => .stuck | some s2 => .ok .nx s2) E := hp2
          refine ev_name (G := ⟨X.K, ca, X.w⟩) (nf := nf) hni S0 ρ1 s2 σ H1 v d1 s3 (fun σ' H' => E.nx (σ'.set j (some w)) H') t2 rv z1 fun σ3 t3 n3 f3 => ?_
          cases z2 : gN j d2 s3 with
          | none => rw [z2] at hp2; exact hp2.elim
          | some s4 =>
            rw [z2] at hp2
            refine ev_name (G := ⟨X.K, ca, X.w⟩) (nf := nf) hnj S0 ρ1 s3 σ3 H1 w d2 s4 E.nx t3 (rw.mono n3.k n3.p) z2 fun σ4 t4 n4 f4 => ?_
            exact hp2 σ4 H1 ρ1 t4 (n3.trans n4) (f3.trans f4)
  | [], hp2 => exact hp2.elim
  | [_], hp2 => exact hp2.elim
  | _ :: _ :: _ :: _, hp2 => exact hp2.elim
end
end Mi

namespace Mi
open PySem PySem.Spec PyProof.Rows L2
/-! ### keys that are tuples of ints and texts -/
def keysD : List D → Option (List Key)
  | [] => some []
  | d :: ds => match keyD d, keysD ds with | some k, some ks => some (k :: ks) | _, _ => none
def keyTD : D → Option (List Key)
  | .tup (.int i :: ds) => (keysD ds).map (.inl i :: ·)
  | _ => none
section
variable {G : Gc} {W : Addr → Prop} {ρ : List Addr} {H : Hp}
theorem keys_reps : ∀ {vs : List V} {ds : List D} {ks : List Key}, Reps G W ρ H vs ds → keysD ds = some ks → vs = ks.map kV
  | _, _, _, .nil, e => by cases e; rfl
  | _, d :: ds, ks, .cons r t, e => by
    unfold keysD at e
    cases z : keyD d with
    | none => rw [z] at e; cases e
    | some k =>
      cases z2 : keysD ds with
      | none => rw [z, z2] at e; cases e
      | some ks' =>
        rw [z, z2] at e
        cases e
        rw [key_br (.inl r) z, keys_reps t z2]; rfl
theorem keyT_br {v : V} {d : D} {k : List Key} (h : BR G W ρ H v d) (e : keyTD d = some k) : ∃ b, v = .ref b ∧ H b = some (.tup (k.map kV)) ∧ ¬ W b := by
  cases d with
  | tup ds =>
    cases ds with
    | nil => cases e
    | cons d0 ds =>
      cases d0 with
      | int i =>
        have e : (keysD ds).map (Sum.inl i :: ·) = some k := e
        obtain ⟨ks, z, rfl⟩ := Option.map_eq_some_iff.mp e
        have fin : ∀ {vs : List V}, Reps G W ρ H vs (.int i :: ds) → vs = (Sum.inl i :: ks).map kV := fun {vs} r => by
          cases r with
          | cons r t => cases r; rw [keys_reps t z]; rfl
        rcases h with h | ⟨a, _, h⟩
        · cases h with
          | tup h n r => exact ⟨_, rfl, by rw [h, fin r], n⟩
          | tupK h y r => cases y
        · cases h
      | _ => cases e
  | _ => cases e
def inTD (neg : Bool) (dx dy : D) : Option D := match dy with
  | .dit kvs => (keyTD dx).map fun k => .bl (neg ^^ hasK kvs k)
  | _ => none
theorem look_isSome {κ α : Type} [DecidableEq κ] (kvs : List (κ × α)) (k : κ) : (lookK kvs k).isSome = hasK kvs k := by
  unfold lookK hasK
  induction kvs with
  | nil => rfl
  | cons p r ih =>
    by_cases c : p.1 = k
    · simp [List.find?, c]
    · simp only [List.find?, c, decide_false, List.any_cons, Bool.false_or]; exact ih
theorem look_repsT {κ : Type} [DecidableEq κ] {vs : List (κ × V)} {ds : List (κ × D)} {k : κ} (e : vs.map (·.1) = ds.map (·.1)) (r : Reps G W ρ H (vs.map (·.2)) (ds.map (·.2))) :
    (valV vs k = none ∧ lookK ds k = none) ∨ ∃ v d, valV vs k = some v ∧ lookK ds k = some d ∧ Rep G W ρ H v d := by
  induction vs generalizing ds with
  | nil =>
    cases ds with
    | nil => exact .inl ⟨rfl, rfl⟩
    | cons _ _ => cases e
  | cons p vs ih =>
    cases ds with
    | nil => cases e
    | cons q ds =>
      obtain ⟨k1, v⟩ := p
      obtain ⟨k2, d⟩ := q
      rw [List.map_cons, List.map_cons] at e
      injection e with e1 e2
      have e1 : k1 = k2 := e1
      subst e1
      cases r with
      | cons r t =>
        by_cases c : k1 = k
        · exact .inr ⟨v, d, by simp [valV, List.find?, c], by simp [lookK, List.find?, c], r⟩
        · rcases ih e2 t with ⟨z1, z2⟩ | ⟨v', d', z1, z2, z3⟩
          · exact .inl ⟨by simpa [valV, List.find?, c] using z1, by simpa [lookK, List.find?, c] using z2⟩
          · exact .inr ⟨v', d', by simpa [valV, List.find?, c] using z1, by simpa [lookK, List.find?, c] using z2, z3⟩
theorem sp_inT {neg : Bool} : Sp2 G (rInDic neg) (inTD neg) := by
  intro W ρ H x y dx dy d Q tk bx bby e q
  cases dy with
  | dit kvs =>
    have e : (keyTD dx).map (fun k => D.bl (neg ^^ hasK kvs k)) = some d := e
    obtain ⟨k, z, rfl⟩ := Option.map_eq_some_iff.mp e
    obtain ⟨b, rfl, hb, _⟩ := keyT_br bx z
    obtain ⟨a, vs, rfl, ha, k1, r⟩ := br_dit bby
    refine ⟨a, valV vs k, rfl, DGet.t ha hb, ?_⟩
    have : (valV vs k).isSome = hasK kvs k := by
      rw [← look_isSome]
      rcases look_repsT (k := k) k1 r with ⟨z1, z2⟩ | ⟨v, d', z1, z2, _⟩
      · rw [z1, z2]; rfl
      · rw [z1, z2]; rfl
    rw [this]
    exact q _ _ .refl .bl
  | _ => cases e
/-- d[k], there -/
def rIxDic : R2 := fun x y H Q => ∃ a v, x = .ref a ∧ DGet H a y (some v) ∧ Q v H
def ixDD (dx dy : D) : Option D := match dx with
  | .dic kvs => (keyD dy).bind (lookK kvs)
  | .dit kvs => (keyTD dy).bind (lookK kvs)
  | _ => none
theorem sp_ixD : Sp2 G rIxDic ixDD := by
  intro W ρ H x y dx dy d Q tk bx bby e q
  cases dx with
  | dic kvs =>
    have e : (keyD dy).bind (lookK kvs) = some d := e
    obtain ⟨k, z, e⟩ := Option.bind_eq_some_iff.mp e
    obtain rfl := key_br bby z
    obtain ⟨a, vs, rfl, ha, k1, r⟩ := br_dic bx
    rcases look_repsT (k := k) k1 r with ⟨_, z2⟩ | ⟨v, d', z1, z2, z3⟩
    · rw [z2] at e; cases e
    · rw [z2] at e; cases e
      exact ⟨a, v, rfl, .inl ⟨vs, k, ha, rfl, z1.symm⟩, q _ _ .refl z3⟩
  | dit kvs =>
    have e : (keyTD dy).bind (lookK kvs) = some d := e
    obtain ⟨k, z, e⟩ := Option.bind_eq_some_iff.mp e
    obtain ⟨b, rfl, hb, _⟩ := keyT_br bby z
    obtain ⟨a, vs, rfl, ha, k1, r⟩ := br_dit bx
    rcases look_repsT (k := k) k1 r with ⟨_, z2⟩ | ⟨v, d', z1, z2, z3⟩
    · rw [z2] at e; cases e
    · rw [z2] at e; cases e
      exact ⟨a, v, rfl, by have := DGet.t (k := k) ha hb; rw [z1] at this; exact this, q _ _ .refl z3⟩
  | _ => cases e
def setTD : D → D → D → Option D
  | .dit kvs, k, d => match keyTD k with | some j => if kvs.length < lim then some (.dit (putD kvs j d)) else none | none => none
  | _, _, _ => none
theorem sp_setT : SpSet G rSetU setTD := by
  intro Wd ρ H a i v c di dv c' Q wa oc bi rv e q
  cases c with
  | dit kvs =>
    have e : (match keyTD di with | some j => if kvs.length < lim then some (D.dit (putD kvs j dv)) else none | none => none) = some c' := e
    cases z : keyTD di with
    | none => rw [z] at e; cases e
    | some j =>
      rw [z] at e
      have e : (if kvs.length < lim then some (D.dit (putD kvs j dv)) else none) = some c' := e
      by_cases hl : kvs.length < lim
      · rw [if_pos hl] at e
        cases e
        cases oc with
        | @dit vs _ h k r =>
          obtain ⟨b, rfl, hb, _⟩ := keyT_br bi z
          have hlen : vs.length = kvs.length := by have := congrArg List.length k; simpa using this
          obtain ⟨k2, r2⟩ := put_reps (k := j) rv k r
          exact .inr ⟨a, _, rfl, DPut.t h hb (lim_lt (by rw [hlen]; exact hl)), q _ fun S0 kp => .dit upd_same k2 (r2.mono kp (List.prefix_refl _))⟩
      · rw [if_neg hl] at e; cases e
  | _ => cases e
end
section
variable {X : Cx} {ca : Nat → Addr} {W : WX} {o i : Expr} {to ti : TE} {mo mi : M Loc} {pos : Pos}
theorem pe_ixD (hu : X.A.units + 1 < cLine) (ho : PE X o to) (hi : PE X i ti) (hs : NoSl i) : PE X (.Subscript o i pos) (tOp rIxDic to ti) := by
  have h := pe_dget (pos := pos) hu ho hi hs
  exact h
theorem je_ixD (hu : X.A.units + 1 < cLine) (ho : JE X ca W o to mo) (hi : JE X ca W i ti mi) (hs : NoSl i := by intro _ _; rfl) : JE X ca W (.Subscript o i pos) (tOp rIxDic to ti) (op2 ixDD mo mi) :=
  ⟨pe_ixD hu ho.pe hi.pe hs, ev_op2 sp_ixD ho.ev hi.ev⟩
end
end Mi

namespace Mi
open PySem PySem.Spec PyProof.Rows L2
/-! ### dicts whose keys are tuples of ints, texts and None -/
def DP (p : NestedKey × Addr × V) (q : NestedKey × Addr × Value) : Prop := p.1 = q.1 ∧ p.2.1 = q.2.1 ∧ RelV p.2.2 q.2.2
def atV (xs : List (NestedKey × Addr × V)) (k : NestedKey) : Option (Addr × V) := (xs.find? fun x => decide (x.1 = k)).map (·.2)
def putV (xs : List (NestedKey × Addr × V)) (k : NestedKey) (a : Addr) (v : V) : List (NestedKey × Addr × V) := if (atV xs k).isSome then xs.map (fun x => if x.1 = k then (x.1, x.2.1, v) else x) else xs ++ [(k, a, v)]
theorem at_DP {xs : List (NestedKey × Addr × V)} {ys : List (NestedKey × Addr × Value)} (h : Paired DP xs ys) (k : NestedKey) : (atV xs k = none ∧ atKey ys k = none) ∨ ∃ b v r, atV xs k = some (b, v) ∧ atKey ys k = some (b, r) ∧ RelV v r := by
  induction h with
  | nil => exact .inl ⟨rfl, rfl⟩
  | @cons p q ps qs hpq t ih =>
    obtain ⟨k1, b1, v1⟩ := p
    obtain ⟨k2, b2, r2⟩ := q
    obtain ⟨e1, e2, e3⟩ := hpq
    have e1 : k1 = k2 := e1
    have e2 : b1 = b2 := e2
    subst e1 e2
    by_cases c : k1 = k
    · exact .inr ⟨b1, v1, r2, by simp [atV, List.find?, c], by simp [atKey, List.find?, c], e3⟩
    · rcases ih with ⟨z1, z2⟩ | ⟨b, v, r, z1, z2, z3⟩
      · exact .inl ⟨by simpa [atV, List.find?, c] using z1, by simpa [atKey, List.find?, c] using z2⟩
      · exact .inr ⟨b, v, r, by simpa [atV, List.find?, c] using z1, by simpa [atKey, List.find?, c] using z2, z3⟩
theorem put_DP {xs : List (NestedKey × Addr × V)} {ys : List (NestedKey × Addr × Value)} {k : NestedKey} {b : Addr} {v : V} {r : Value} (h : Paired DP xs ys) (rv : RelV v r) : Paired DP (putV xs k b v) (storedH ys k b r) := by
  have hs : (atV xs k).isSome = (atKey ys k).isSome := by
    rcases at_DP h k with ⟨z1, z2⟩ | ⟨_, _, _, z1, z2, _⟩ <;> rw [z1, z2] <;> rfl
  unfold putV storedH
  rw [hs]
  split
  · rename_i hz
    clear hs hz
    induction h with
    | nil => exact .nil
    | @cons p q ps qs hpq t ih =>
      refine .cons ?_ ih
      obtain ⟨e1, e2, e3⟩ := hpq
      by_cases c : p.1 = k
      · have c2 : q.1 = k := by rw [← e1]; exact c
        simp only [c, if_true, putAt, c2]
        exact ⟨rfl, e2, rv⟩
      · have c2 : ¬ q.1 = k := by rw [← e1]; exact c
        simp only [c, if_false, putAt, c2]
        exact ⟨e1, e2, e3⟩
  · rename_i hz
    clear hs hz
    induction h with
    | nil => exact .cons ⟨rfl, rfl, rv⟩ .nil
    | cons hpq t ih => exact .cons hpq ih
theorem putV_len {xs : List (NestedKey × Addr × V)} {k : NestedKey} {b : Addr} {v : V} : (putV xs k b v).length ≤ xs.length + 1 := by
  unfold putV; split <;> simp
theorem putV_mem {xs : List (NestedKey × Addr × V)} {k : NestedKey} {b : Addr} {v : V} {x : NestedKey × Addr × V} (h : x ∈ putV xs k b v) : (∃ y ∈ xs, x.1 = y.1 ∧ x.2.1 = y.2.1) ∨ (x.1 = k ∧ x.2.1 = b) := by
  unfold putV at h
  split at h
  · obtain ⟨y, hy, e⟩ := List.mem_map.mp h
    refine .inl ⟨y, hy, ?_⟩
    split at e <;> subst e <;> exact ⟨rfl, rfl⟩
  · rcases List.mem_append.mp h with h | h
    · exact .inl ⟨x, h, rfl, rfl⟩
    · simp only [List.mem_singleton] at h; subst h; exact .inr ⟨rfl, rfl⟩
theorem nest_all {h : Heap} : ∀ {us : List V} {its : List Value} {ks : List NestedKey}, Vals us its → nksV us = some ks → NestedAll h ks its ∧ NestedKey.depthAll ks = 0
  | _, _, _, .nil, e => by cases e; exact ⟨.nil, rfl⟩
  | u :: us, it :: its, ks, .cons r t, e => by
    unfold nksV at e
    cases z : nkV u with
    | none => rw [z] at e; cases e
    | some k =>
      cases z2 : nksV us with
      | none => rw [z, z2] at e; cases e
      | some ks' =>
        rw [z, z2] at e
        cases e
        obtain ⟨q1, q2⟩ := nest_all t z2
        have : NestedIs h k it ∧ NestedKey.depth k = 0 := by
          cases u with
          | int i => cases z; obtain ⟨tk, rfl⟩ := r; exact ⟨.int _ _, rfl⟩
          | str x => cases z; obtain ⟨tk, rfl⟩ := r; exact ⟨.text _ _, rfl⟩
          | non => cases z; obtain rfl : it = Value.none := r; exact ⟨.none, rfl⟩
          | _ => cases z
        exact ⟨.cons this.1 q1, by rw [NestedKey.depthAll, this.2, q2]; rfl⟩
theorem kt_is {P : Program} {w : World} {W : Addr → Prop} {H : Hp} {h : Heap} {k : NestedKey} {b : Addr} (ok : HOk P w H h) (t : KTup W H k b) : (nestedKind P w).is h k b := by
  obtain ⟨us, ks, e, _, q, rfl⟩ := t
  obtain ⟨_, its, r, o, e1, e2, n, e3⟩ := (show ObjOk P w H h b (.tup us) from ok b _ e)
  obtain ⟨q1, q2⟩ := nest_all (h := h) r q
  refine ⟨.tup e1 e2 e3 (by simpa using q1), ?_⟩
  rw [NestedKey.depth, q2]
  decide
theorem dp_mem {xs : List (NestedKey × Addr × V)} {ys : List (NestedKey × Addr × Value)} (h : Paired DP xs ys) : ∀ y ∈ ys, ∃ x ∈ xs, x.1 = y.1 ∧ x.2.1 = y.2.1 := by
  induction h with
  | nil => intro y hy; cases hy
  | cons hpq t ih =>
    intro y hy
    rcases List.mem_cons.mp hy with rfl | hy
    · exact ⟨_, List.mem_cons_self, hpq.1, hpq.2.1⟩
    · obtain ⟨x, hx, e⟩ := ih y hy
      exact ⟨x, List.mem_cons_of_mem _ hx, e⟩
theorem dp_keys {xs : List (NestedKey × Addr × V)} {ys : List (NestedKey × Addr × Value)} (h : Paired DP xs ys) : xs.map (·.1) = ys.map (·.1) := by
  induction h with
  | nil => rfl
  | cons hpq t ih => rw [List.map_cons, List.map_cons, ih, hpq.1]
theorem dn_of {P : Program} {w : World} {W : Addr → Prop} {H : Hp} {h : Heap} {a : Addr} {xs : List (NestedKey × Addr × V)} (ok : HOk P w H h) (e : H a = some (dnO w a xs)) (hk : ∀ x ∈ xs, KTup W H x.1 x.2.1) :
    xs.length ≤ sizeLine ∧ (a == sysModules) = false ∧ ∃ ys, Paired DP xs ys ∧ h.DictOfH (nestedKind P w) a ys := by
  obtain ⟨⟨z, hd, nd, ys, pr, o, es, ep, e1, e2, e3, e4⟩, _⟩ := (show ObjOk P w H h a (dnO w a xs) from ok a _ e)
  have pr : Paired DP xs ys := pr
  refine ⟨z, hd, ys, pr, o, es, ep, e1, e2, e3, e4, fun y hy => ?_, by rw [← dp_keys pr]; exact nd⟩
  obtain ⟨x, hx, k1, k2⟩ := dp_mem pr y hy
  have := kt_is ok (hk x hx)
  rw [k1, k2] at this
  exact this
theorem dn_ok {P : Program} {w : World} {H : Hp} {h : Heap} {a : Addr} {xs : List (NestedKey × Addr × V)} {ys : List (NestedKey × Addr × Value)} (z : xs.length ≤ sizeLine) (hd : (a == sysModules) = false) (pr : Paired DP xs ys) (hm : h.DictOfH (nestedKind P w) a ys) : ObjOk P w H h a (dnO w a xs) := by
  obtain ⟨o, es, ep, e1, e2, e3, e4, _, nd⟩ := hm
  refine ⟨⟨z, hd, by rw [dp_keys pr]; exact nd, ys, pr, o, es, ep, e1, e2, e3, e4⟩, ⟨o, e1⟩, ?_⟩
  rintro h1 h2 ⟨z, hd, nd, ys, pr, o, es, ep, e1, e2, e3, e4⟩ k
  exact ⟨z, hd, nd, ys, pr, o, es, ep, k _ e1, e2, e3, e4⟩
def rInN (w : World) (neg : Bool) : R2 := fun x y H Q => ∃ (W : Addr → Prop) (b a : Addr) (k : NestedKey) (xs : List (NestedKey × Addr × V)), x = .ref b ∧ y = .ref a ∧ KTup W H k b ∧ H a = some (dnO w a xs) ∧ (∀ x ∈ xs, KTup W H x.1 x.2.1) ∧ Q (.bl (neg ^^ (atV xs k).isSome)) H
section
variable {X : Cx}
theorem op_inN (hu : X.A.units + 64 + 1 < cLine) : OpR X (compareOp .In) (rInN X.w false) := by
  intro pins s σ H x y v u Q I rx ry h
  obtain ⟨W, b, a, k, xs, rfl, rfl, hb, ha, hk, q⟩ := h
  obtain rfl : v = Value.ref b := rx
  obtain rfl : u = Value.ref a := ry
  obtain ⟨z, hd, ys, pr, dm⟩ := dn_of I.hok ha hk
  refine wpAny_in_heap (knd := nestedKind X.prog X.w) (show X.A.units + 1 + 8 < cLine by omega) (kt_is I.hok hb) hd dm ⟨.bl (atV xs k).isSome, H, I.tok _, ?_, by simpa using q⟩
  rcases at_DP pr k with ⟨z1, z2⟩ | ⟨_, _, _, z1, z2, _⟩ <;> rw [z1, z2] <;> rfl
theorem op_notInN (hu : X.A.units + 64 + 1 < cLine) : OpR X (compareOp .NotIn) (rInN X.w true) := by
  intro pins s σ H x y v u Q I rx ry h
  obtain ⟨W, b, a, k, xs, rfl, rfl, hb, ha, hk, q⟩ := h
  obtain rfl : v = Value.ref b := rx
  obtain rfl : u = Value.ref a := ry
  obtain ⟨z, hd, ys, pr, dm⟩ := dn_of I.hok ha hk
  refine notIn_keyed (knd := nestedKind X.prog X.w) (kvs := pairsH ys) (show X.A.units + 1 + 8 < cLine by omega) (kt_is I.hok hb) hd ⟨ys, dm, rfl⟩ ⟨.bl (!(atV xs k).isSome), H, I.tok _, ?_, by simpa using q⟩
  rw [valueAt_pairsH]
  rcases at_DP pr k with ⟨z1, z2⟩ | ⟨_, _, _, z1, z2, _⟩ <;> rw [z1, z2] <;> rfl
def rIxN (w : World) : R2 := fun x y H Q => ∃ (W : Addr → Prop) (b a : Addr) (k : NestedKey) (xs : List (NestedKey × Addr × V)) (c : Addr) (v : V), x = .ref a ∧ y = .ref b ∧ KTup W H k b ∧ H a = some (dnO w a xs) ∧ (∀ x ∈ xs, KTup W H x.1 x.2.1) ∧ atV xs k = some (c, v) ∧ Q v H
theorem pe_ixN {o i : Expr} {td ty : TE} {pos : Pos} (hu : X.A.units + 64 + 1 < cLine) (ho : PE X o td) (hi : PE X i ty) (hs : NoSl i) : PE X (.Subscript o i pos) (tOp (rIxN X.w) td ty) := by
  refine ⟨fun pins s σ H Q I h => ?_⟩
  refine subD_of PySem.F.slot_dict_getitem.lookup hs (thn (ho.run pins s σ H _ I h) fun u s1 ⟨x, H1, I1, rx, q1⟩ => thn (hi.run pins s1 σ H1 _ I1 q1) fun iv s2 ⟨y, H2, I2, ry, W, b, a, k, xs, c, v, ex, ey, hb, ha, hk, e, q2⟩ => ?_)
  subst ex ey
  obtain rfl : u = Value.ref a := rx
  obtain rfl : iv = Value.ref b := ry
  obtain ⟨z, hd, ys, pr, dm⟩ := dn_of I2.hok ha hk
  rcases at_DP pr k with ⟨z1, z2⟩ | ⟨c', v', r, z1, z2, z3⟩
  · rw [z1] at e; cases e
  · rw [z1] at e; cases e
    exact ⟨dm.typeIs, wpAny_getItem_heap (knd := nestedKind X.prog X.w) (show X.A.units + 1 + 8 < cLine by omega) (kt_is I2.hok hb) dm z2 ⟨v, H2, I2.tok _, z3, q2⟩⟩
def rSetN (w : World) : TSet := fun o i v H Q => ∃ (W : Addr → Prop) (b a : Addr) (k : NestedKey) (xs : List (NestedKey × Addr × V)), o = .ref a ∧ i = .ref b ∧ KTup W H k b ∧ H a = some (dnO w a xs) ∧ (∀ x ∈ xs, KTup W H x.1 x.2.1) ∧ xs.length < sizeLine ∧ Q (upd H a (dnO w a (putV xs k b v)))
theorem set_N (hu : X.A.units + 64 + 1 < cLine) : PSet X (rSetN X.w) := by
  intro pins s σ H o i v ov iv u Q I ro ri rv h
  obtain ⟨W, b, a, k, xs, rfl, rfl, hb, ha, hk, hl, q⟩ := h
  obtain rfl : ov = Value.ref a := ro
  obtain rfl : iv = Value.ref b := ri
  obtain ⟨z, hd, ys, pr, dm⟩ := dn_of I.hok ha hk
  have hz : ys.length ≤ sizeLine := by rw [← Paired.length pr]; exact z
  refine wpAny_setItem_heap (knd := nestedKind X.prog X.w) (hsz := hz) (show X.A.units + 1 + 8 < cLine by omega) (kt_is I.hok hb) dm fun h' dm' hs => ⟨_, ?_, q⟩
  have dm2 := dm'
  obtain ⟨q0, _, _, hq, _⟩ := dm2
  exact d_write I (by rw [ha]; exact True.intro) hs ⟨q0, hq⟩ (dn_ok (by have := putV_len (xs := xs) (k := k) (b := b) (v := v); omega) hd (put_DP pr rv) dm')
def tDNewN (w : World) : TE := fun _ H Q => ∀ p, H p = none → Q (.ref p) (upd H p (dnO w p []))
theorem pe_dnewN {pos : Pos} : PE X (.Dict [] [] pos) (tDNewN X.w) := ⟨fun pins s σ H Q I h => by
  refine wpAny_Dict_empty ?_
  have he : (s.heap.objs.size == sysModules) = false := beq_eq_false_iff_ne.mpr (Ne.symm (Nat.ne_of_lt I.big))
  exact ⟨.ref s.heap.objs.size, _, I.laid (o := dnO X.w s.heap.objs.size []) (t' := s.toks) (fun _ _ => Heap.get?_push_of_some _) (Nat.le_refl _) (dn_ok (by decide) he .nil (Heap.DictOfH.new s.heap)), rfl, h _ (I.hok.fresh (Nat.le_refl _))⟩⟩
end
/-! their mirrors -/
def nkD : D → Option NestedKey
  | .int i => some (.num i)
  | .str x => some (.text x)
  | .non => some .none
  | _ => none
def nksD : List D → Option (List NestedKey)
  | [] => some []
  | d :: ds => match nkD d, nksD ds with | some k, some ks => some (k :: ks) | _, _ => none
/-- (an int, ..) -/
def nkTD : D → Option NestedKey
  | .tup (.int i :: ds) => (nksD ds).map fun ks => .tup (.num i :: ks)
  | _ => none
section
variable {G : Gc} {W : Addr → Prop} {ρ : List Addr} {H : Hp}
theorem nk_rep {v : V} {d : D} {k : NestedKey} (h : Rep G W ρ H v d) (e : nkD d = some k) : nkV v = some k := by
  cases h <;> first | exact e | cases e
theorem nks_reps : ∀ {vs : List V} {ds : List D} {ks : List NestedKey}, Reps G W ρ H vs ds → nksD ds = some ks → nksV vs = some ks
  | _, _, _, .nil, e => by cases e; rfl
  | _, d :: ds, ks, .cons r t, e => by
    unfold nksD at e
    cases z : nkD d with
    | none => rw [z] at e; cases e
    | some k =>
      cases z2 : nksD ds with
      | none => rw [z, z2] at e; cases e
      | some ks' =>
        rw [z, z2] at e
        cases e
        unfold nksV
        rw [nk_rep r z, nks_reps t z2]
theorem nkT_br {v : V} {d : D} {k : NestedKey} (h : BR G W ρ H v d) (e : nkTD d = some k) : ∃ b, v = .ref b ∧ KTup W H k b := by
  cases d with
  | tup ds =>
    cases ds with
    | nil => cases e
    | cons d0 ds =>
      cases d0 with
      | int i =>
        have e : (nksD ds).map (fun ks => NestedKey.tup (.num i :: ks)) = some k := e
        obtain ⟨ks, z, rfl⟩ := Option.map_eq_some_iff.mp e
        rcases h with h | ⟨a, _, h⟩
        · cases h with
          | @tup a vs _ h n r =>
            refine ⟨a, rfl, vs, _, h, n, nks_reps (ds := .int i :: ds) r ?_, rfl⟩
            show (match nkD (.int i), nksD ds with | some k, some ks => some (k :: ks) | _, _ => none) = _
            rw [z]; rfl
          | tupK h y r => cases y
        · cases h
      | _ => cases e
  | _ => cases e
theorem at_repsN {vs : List (NestedKey × Addr × V)} {ds : List (NestedKey × D)} {k : NestedKey} (e : vs.map (·.1) = ds.map (·.1)) (r : Reps G W ρ H (vs.map (·.2.2)) (ds.map (·.2))) :
    (atV vs k = none ∧ lookK ds k = none) ∨ ∃ c v d, atV vs k = some (c, v) ∧ lookK ds k = some d ∧ Rep G W ρ H v d := by
  induction vs generalizing ds with
  | nil =>
    cases ds with
    | nil => exact .inl ⟨rfl, rfl⟩
    | cons _ _ => cases e
  | cons p vs ih =>
    cases ds with
    | nil => cases e
    | cons q ds =>
      obtain ⟨k1, c1, v⟩ := p
      obtain ⟨k2, d⟩ := q
      rw [List.map_cons, List.map_cons] at e
      injection e with e1 e2
      have e1 : k1 = k2 := e1
      subst e1
      cases r with
      | cons r t =>
        by_cases c : k1 = k
        · exact .inr ⟨c1, v, d, by simp [atV, List.find?, c], by simp [lookK, List.find?, c], r⟩
        · rcases ih e2 t with ⟨z1, z2⟩ | ⟨c', v', d', z1, z2, z3⟩
          · exact .inl ⟨by simpa [atV, List.find?, c] using z1, by simpa [lookK, List.find?, c] using z2⟩
          · exact .inr ⟨c', v', d', by simpa [atV, List.find?, c] using z1, by simpa [lookK, List.find?, c] using z2, z3⟩
def inND (neg : Bool) (dx dy : D) : Option D := match dy with
  | .din kvs => (nkTD dx).map fun k => .bl (neg ^^ hasK kvs k)
  | _ => none
theorem sp_inN {neg : Bool} : Sp2 G (rInN G.w neg) (inND neg) := by
  intro W ρ H x y dx dy d Q tk bx bby e q
  cases dy with
  | din kvs =>
    have e : (nkTD dx).map (fun k => D.bl (neg ^^ hasK kvs k)) = some d := e
    obtain ⟨k, z, rfl⟩ := Option.map_eq_some_iff.mp e
    obtain ⟨b, rfl, hb⟩ := nkT_br bx z
    obtain ⟨a, vs, rfl, ha, hk, k1, r⟩ := br_din bby
    refine ⟨W, b, a, k, vs, rfl, rfl, hb, ha, hk, ?_⟩
    have : (atV vs k).isSome = hasK kvs k := by
      rw [← look_isSome]
      rcases at_repsN (k := k) k1 r with ⟨z1, z2⟩ | ⟨c, v, d', z1, z2, _⟩
      · rw [z1, z2]; rfl
      · rw [z1, z2]; rfl
    rw [this]
    exact q _ _ .refl .bl
  | _ => cases e
def ixND (dx dy : D) : Option D := match dx with
  | .din kvs => (nkTD dy).bind (lookK kvs)
  | _ => none
theorem sp_ixN : Sp2 G (rIxN G.w) ixND := by
  intro W ρ H x y dx dy d Q tk bx bby e q
  cases dx with
  | din kvs =>
    have e : (nkTD dy).bind (lookK kvs) = some d := e
    obtain ⟨k, z, e⟩ := Option.bind_eq_some_iff.mp e
    obtain ⟨b, rfl, hb⟩ := nkT_br bby z
    obtain ⟨a, vs, rfl, ha, hk, k1, r⟩ := br_din bx
    rcases at_repsN (k := k) k1 r with ⟨_, z2⟩ | ⟨c, v, d', z1, z2, z3⟩
    · rw [z2] at e; cases e
    · rw [z2] at e; cases e
      exact ⟨W, b, a, k, vs, c, v, rfl, rfl, hb, ha, hk, z1, q _ _ .refl z3⟩
  | _ => cases e
theorem putN_reps {k : NestedKey} {b : Addr} {v : V} {d : D} (r : Rep G W ρ H v d) {vs : List (NestedKey × Addr × V)} {ds : List (NestedKey × D)} (e : vs.map (·.1) = ds.map (·.1)) (rs : Reps G W ρ H (vs.map (·.2.2)) (ds.map (·.2))) :
    (putV vs k b v).map (·.1) = (putD ds k d).map (·.1) ∧ Reps G W ρ H ((putV vs k b v).map (·.2.2)) ((putD ds k d).map (·.2)) := by
  have hany : (atV vs k).isSome = (ds.any fun kv => decide (kv.1 = k)) := by
    have := look_isSome ds k
    unfold hasK at this
    rw [← this]
    rcases at_repsN (k := k) e rs with ⟨z1, z2⟩ | ⟨c, v, d', z1, z2, _⟩
    · rw [z1, z2]; rfl
    · rw [z1, z2]; rfl
  unfold putV putD
  rw [hany]
  by_cases h : (ds.any fun kv => decide (kv.1 = k)) = true
  · rw [if_pos h, if_pos h]
    clear h hany
    induction vs generalizing ds with
    | nil =>
      cases ds with
      | nil => exact ⟨rfl, .nil⟩
      | cons _ _ => cases e
    | cons p vs ih =>
      cases ds with
      | nil => cases e
      | cons q ds =>
        obtain ⟨k1, c1, v1⟩ := p
        obtain ⟨k2, d2⟩ := q
        rw [List.map_cons, List.map_cons] at e
        injection e with e1 e2
        have e1 : k1 = k2 := e1
        subst e1
        cases rs with
        | cons r1 t =>
          obtain ⟨i1, i2⟩ := ih e2 t
          by_cases c : k1 = k
          · simp only [List.map_cons, c, if_true]
            exact ⟨by rw [i1], .cons r i2⟩
          · simp only [List.map_cons, c, if_false]
            exact ⟨by rw [i1], .cons r1 i2⟩
  · rw [if_neg h, if_neg h]
    refine ⟨by simp [e], ?_⟩
    rw [List.map_append, List.map_append]
    exact rs.append (.cons r .nil)
def setND : D → D → D → Option D
  | .din kvs, k, d => match nkTD k with | some j => if kvs.length < lim then some (.din (putD kvs j d)) else none | none => none
  | _, _, _ => none
theorem sp_setN : SpSet G (rSetN G.w) setND := by
  intro Wd ρ H a i v c di dv c' Q wa oc bi rv e q
  cases c with
  | din kvs =>
    have e : (match nkTD di with | some j => if kvs.length < lim then some (D.din (putD kvs j dv)) else none | none => none) = some c' := e
    cases z : nkTD di with
    | none => rw [z] at e; cases e
    | some j =>
      rw [z] at e
      have e : (if kvs.length < lim then some (D.din (putD kvs j dv)) else none) = some c' := e
      by_cases hl : kvs.length < lim
      · rw [if_pos hl] at e
        cases e
        cases oc with
        | @din vs _ h hk k r =>
          obtain ⟨b, rfl, hb⟩ := nkT_br bi z
          have hlen : vs.length = kvs.length := by have := congrArg List.length k; simpa using this
          obtain ⟨k2, r2⟩ := putN_reps (k := j) (b := b) rv k r
          refine ⟨Wd, b, a, j, vs, rfl, rfl, hb, h, hk, lim_lt (by rw [hlen]; exact hl), q _ fun S0 kp => .din upd_same (fun x hx => ?_) k2 (r2.mono kp (List.prefix_refl _))⟩
          rcases putV_mem hx with ⟨y, hy, e1, e2⟩ | ⟨e1, e2⟩
          · rw [e1, e2]; exact (hk y hy).mono kp
          · rw [e1, e2]; exact hb.mono kp
      · rw [if_neg hl] at e; cases e
  | _ => cases e
end
section
variable {X : Cx} {ca : Nat → Addr} {W : WX} {o i : Expr} {to ti : TE} {mo mi : M Loc} {pos : Pos}
theorem je_ixN (hu : X.A.units + 64 + 1 < cLine) (ho : JE X ca W o to mo) (hi : JE X ca W i ti mi) (hs : NoSl i := by intro _ _; rfl) : JE X ca W (.Subscript o i pos) (tOp (rIxN X.w) to ti) (op2 ixND mo mi) :=
  ⟨pe_ixN hu ho.pe hi.pe hs, ev_op2 sp_ixN ho.ev hi.ev⟩
theorem jn_dicN : JN X ca W (.Dict [] [] pos) (tDNewN X.w) (ret (.din [])) := ⟨pe_dnewN, fun S0 ρ s σ H Q t hp p n => by
  obtain ⟨t1, k1, nw⟩ := t.laid (o := dnO X.w p []) n
  exact hp p _ ρ t1 k1 (List.prefix_refl _) nw (.din upd_same (fun x hx => by cases hx) rfl .nil)⟩
end
end Mi

namespace Mi
open PySem PySem.Spec PyProof.Rows L2
/-! ### {k: v for ..} whose keys are tuples -/
theorem d_dictSetT {X : Cx} {pins : List (Addr × Obj)} {σ : L2.St} {H : Hp} {s : Shared} {E : Value → Shared → Prop} {D b : Addr} {kvs : List (List Key × V)} {k : List Key} {v : V} {r : Value} {Q : Unit → Shared → Prop} (hu : X.A.units + 1 < cLine) (I : Inv X pins σ H s) (e : H D = some (.dT kvs)) (eb : H b = some (.tup (k.map kV))) (l : kvs.length < sizeLine)
    (rv : RelV v r) (h : ∀ s', Inv X pins σ (upd H D (.dT (putK kvs k v))) s' → Q () s') : wpAny (model X.prog X.w) X.A (dictSet D (.ref b) r) Q E s := by
  obtain ⟨z, hd, xs, rel, dd⟩ := dt_of I.hok e
  have hz : xs.length ≤ sizeLine := by rw [← Paired.length rel]; exact z
  have hl : (putK kvs k v).length ≤ sizeLine := by have := length_putK kvs k v; omega
  refine wpAny_dictSet_heap (knd := tupleKind (mixKind X.prog X.w)) (hsz := hz) (show X.A.units < cLine by omega) (key_of I.hok eb) dd fun h' dd' hs => h _ ?_
  obtain ⟨q, es, ep, hq, h2, h3, h4, _, h5⟩ := dd'
  exact d_write I (by rw [e]; trivial) hs ⟨q, hq⟩ ⟨hl, hd, _, (rel.put k eb rv).keeps fun c ys ec => by rw [upd_ne (ne_of ec e fun z => nomatch z)]; exact ec, q, es, ep, hq, h2, h3, h4, h5⟩
def tDcT (wi : TI) (g : TG) (tt : TT) (tk tv : TE) (vs : List Nat) : TE := fun σ H Q => wi σ H fun J H1 => ∀ D, H1 D = none → ∃ Wn : Nat → Nat → Hp → Prop, (∃ m, Wn 0 m (upd H1 D (.dT []))) ∧ ∀ i m H, Wn i m H →
  (J.stop i H ∧ Q (.ref D) H) ∨ (J.go i H ∧ ∃ Nn : Hp → Prop, (∀ H', Nn H' → ∃ m', m' < m ∧ Wn (i + 1) m' H') ∧ ∀ x H', J.yld i H x H' → g x (wipe σ vs) H' fun σ2 H2 => wipe σ2 vs = wipe σ vs ∧ tt σ2 H2 fun b H3 =>
    if b = true then tk σ2 H3 fun y H4 => tv σ2 H4 fun z H5 => ∃ kvs k b, y = .ref b ∧ H5 b = some (.tup (k.map kV)) ∧ H5 D = some (.dT kvs) ∧ kvs.length < sizeLine ∧ Nn (upd H5 D (.dT (putK kvs k z))) else Nn H3)
section
variable {X : Cx}
theorem pe_dcT {kx vx tg iter : Expr} {ifs : List Expr} {scope : Scope} {own : List (Str × Nat)} {pos : Pos} {wi : TI} {g : TG} {tt : TT} {tk tv : TE} (hu : X.A.units + 1 < cLine) (hc : X.calm = true) (hN : X.N.Nodup) (hi : PI X tg iter wi) (ok : BlkOk X.N X.env.scope scope own)
    (hg : ∀ s H C cl fp, PG (Blk X scope s H C cl fp) tg g) (ht : ∀ s H C cl fp, PTs (Blk X scope s H C cl fp) ifs tt) (hk : ∀ s H C cl fp, PE (Blk X scope s H C cl fp) kx tk) (he : ∀ s H C cl fp, PE (Blk X scope s H C cl fp) vx tv) (hs : ∀ x, foldedSetIterable iter X.env x = pure x := by intro _; rfl) :
    PE X (.DictComp kx vx [⟨tg, iter, ifs, 0⟩] scope pos) (tDcT wi g tt tk tv (own.map (·.2))) := by
  refine ⟨fun pins s σ H Q I h => ?_⟩
  rw [arm_eval_DictComp]
  have hfr : ∀ y ∈ scope.names, y.2 = .free → ∃ c, X.env.cells.lookup y.1 = some c := fun y hy e => (ok.free y hy e).elim (fun k => I.ok.has _ (.inl k)) fun k => I.ok.has _ (.inr k)
  refine wpAny_comprehension_free (use := none) rfl hs (closure_ok hfr) ok.kind (fun y hy e => by rw [ok.uniq y hy, e]) (thn (hi.run pins s σ H _ I h) fun xv u1 hx => thn hx fun itv u2 ⟨it, fp, tn, J, H2, e, I2, T, st2, f2, q⟩ => ?_)
  subst e
  refine wpAny_newObj_type (newEnv_comp ?_)
  generalize eD : u2.heap.objs.size = D
  obtain ⟨Wn, ⟨m0, w0⟩, turn⟩ := q D (I2.hok.fresh (Nat.le_of_eq eD))
  generalize e3 : ({ u2 with heap := u2.heap.push { cls := .type "dict", data := .dict #[] } } : Shared) = u3
  have h3 : u3.heap = u2.heap.push { cls := .type "dict", data := .dict #[] } := by rw [← e3]
  have I3 : Inv X pins σ (upd H2 D (.dT [])) u3 := by
    rw [← e3]
    exact I2.laid (t' := u2.toks) (fun b o => Heap.get?_push_of_some _) (Nat.le_of_eq eD) (by rw [← eD]; exact dt_empty u2.heap I2.big)
  have f3 : ∀ b ∈ fp, FpOk X pins (upd H2 D (.dT [])) b ∧ b < u3.heap.objs.size := fun b hb => by
    obtain ⟨o, e, _⟩ := T.obj _ _ st2 b hb
    have hlt := Heap.lt_size e
    exact ⟨⟨by rw [upd_ne (by rw [← eD]; exact Nat.ne_of_lt hlt)]; exact (f2 b hb).1, (f2 b hb).2⟩, by rw [h3, Heap.size_push]; exact Nat.lt_succ_of_lt hlt⟩
  have st3 : tn 0 u3.heap := T.keep _ _ _ st2 fun b _ o e => by rw [h3]; exact Heap.get?_push_of_some _ e
  have I4 := block_start I3 ok hN f3
  generalize hcs : cellsFrom (u3.heap.objs.size + 1) scope.names (cloFrom X.env.cells scope.names []) = cl at I4 ⊢
  have pg : PG (X.blk u3 (upd H2 D (.dT [])) scope (compEnvC scope cl u3.heap.objs.size X.env) fp) tg g := hg u3 (upd H2 D (.dT [])) u3.heap.objs.size cl fp
  have pt : PTs (X.blk u3 (upd H2 D (.dT [])) scope (compEnvC scope cl u3.heap.objs.size X.env) fp) ifs tt := ht u3 (upd H2 D (.dT [])) u3.heap.objs.size cl fp
  have pk : PE (X.blk u3 (upd H2 D (.dT [])) scope (compEnvC scope cl u3.heap.objs.size X.env) fp) kx tk := hk u3 (upd H2 D (.dT [])) u3.heap.objs.size cl fp
  have pe : PE (X.blk u3 (upd H2 D (.dT [])) scope (compEnvC scope cl u3.heap.objs.size X.env) fp) vx tv := he u3 (upd H2 D (.dT [])) u3.heap.objs.size cl fp
  have nfp : ∀ b ∈ fp, (upd H2 D (.dT [])) b = none := fun b hb => (f3 b hb).1.1
  generalize hce : compEnvC scope cl u3.heap.objs.size X.env = ce at I4 pg pt pk pe
  have cL : ce.locals = u3.heap.objs.size := by rw [← hce]; rfl
  show codeAny _ _ (.compStart (.DictComp kx vx [⟨tg, iter, ifs, 0⟩] scope pos) 0 (.ref it) (.ref D) (compEnvC scope cl u3.heap.objs.size X.env)) _ { u3 with heap := pushCells (u3.heap.push { cls := .type "dict", data := .dict #[] }) scope.names }
  rw [hce]
  generalize eH : upd H2 D (.dT []) = H3 at I3 I4 pg pt pk pe w0 nfp f3
  generalize e4 : ({ u3 with heap := pushCells (u3.heap.push { cls := .type "dict", data := .dict #[] }) scope.names } : Shared) = u4 at I4 ⊢
  have st4 : tn 0 u4.heap := T.keep _ _ _ st3 fun b _ o e => by rw [← e4]; exact pushCells_keeps _ _ _ _ (Heap.get?_push_of_some _ e)
  have stat : ∀ {σ' : L2.St} {H' : Hp} {s' : Shared}, Inv (X.blk u3 H3 scope ce fp) [] σ' H' s' → (∀ b ∈ fp, H' b = none) → ∀ b ∈ fp, FpOk (X.blk u3 H3 scope ce fp) [] H' b := fun I' hn b hb =>
    have z := I'.ok.exf b hb
    ⟨hn b hb, z.1, I'.ok.exfs b hb, .inl hb, fun x c e => z.2 x c e, fun p hp => absurd (show p ∈ ([] : List (Addr × Obj)) ++ [] from hp) (by simp)⟩
  refine (fun loop => codeAny_compStart_dict loop (T.self X.A 0 _ _ _ st4 loop)) ?_
  refine compLoop_anyD (fun n s' => ∃ i H', Inv (X.blk u3 H3 scope ce fp) [] (wipe σ (own.map (·.2))) H' s' ∧ tn i s'.heap ∧ (∀ b ∈ fp, H' b = none) ∧ Wn i n H') ?_ m0 ⟨0, H3, I4, st4, nfp, w0⟩
  rintro n u5 ⟨i, H5, I5, st5, n5, w5⟩
  rcases turn i n H5 w5 with ⟨stop, qq⟩ | ⟨go, Nn, hNn, step⟩
  · refine thnF (T.done (X.blk u3 H3 scope ce fp) rfl rfl rfl hc i [] u5 _ H5 (fun _ _ => False) I5 (stat I5 n5) st5 stop) fun r u6 ⟨hr, I6⟩ => ?_
    subst hr
    have I7 : Inv X pins σ H5 u6 := I3.call' (ch := fp) I6.os I6.base I6.hok I6.bare fun b hb => let z := (f3 b hb).1.2; ⟨z.2.2.1, z.1, z.2.2.2.1, z.2.2.2.2⟩
    obtain ⟨m, hn, _⟩ := I6.loc
    have nC : H5 u3.heap.objs.size = none := by rw [← cL]; exact I6.free
    have hn : u6.heap.Ns u3.heap.objs.size m := by rw [← cL]; exact hn
    obtain ⟨f0, f1, _, f4, f5, f6⟩ := I3.fpOk (Nat.le_refl _) nC
    exact ⟨m, hn, fun h'' sb => ⟨.ref D, H5, I7.turned (t' := u6.toks) (fun b o hb e => (sb.2 b hb).trans e) f0 f1 f4 f5 f6, rfl, qq⟩⟩
  · refine thnF (T.item (X.blk u3 H3 scope ce fp) rfl rfl rfl hc i [] u5 _ H5 (fun _ _ => False) I5 (stat I5 n5) st5 go) fun r u6 ⟨u, hr, h6⟩ => ?_
    subst hr
    refine thnF h6 fun _ u7 ⟨x, H7, I7, r7, y7, st7, n7⟩ => ?_
    refine thnF (pg.run _ u7 _ H7 x u _ (I7.pinned (stat I7 n7) (T.obj _ _ st7)) r7 (step x H7 y7)) fun _ u8 ⟨σ8, H8, I8, hw8, q8⟩ => thnF (pt.run _ u8 σ8 H8 _ I8 q8) fun b u9 ⟨H9, I9, q9⟩ => ?_
    have fin : ∀ {s' : Shared} {H' : Hp}, Inv (X.blk u3 H3 scope ce fp) ([] ++ pinsAt fp u7.heap) σ8 H' s' → Nn H' → ∃ m, m < n ∧ ∃ i H', Inv (X.blk u3 H3 scope ce fp) [] (wipe σ (own.map (·.2))) H' s' ∧ tn i s'.heap ∧ (∀ b ∈ fp, H' b = none) ∧ Wn i m H' := fun {s' H'} I' nx => by
      obtain ⟨m', hm, w'⟩ := hNn H' nx
      have pin' : ∀ b ∈ fp, ∀ o, u7.heap.get? b = some o → s'.heap.get? b = some o ∧ H' b = none := fun b hb o e => (fun z => ⟨z.1, z.2.1⟩) (I'.pin (b, o) (List.mem_append_right _ (List.mem_append_right _ (mem_pinsAt hb e))))
      refine ⟨m', hm, i + 1, H', (I'.unpinned (pins := [])).weak (by rw [← hw8, wipe_length]) (fun j v e => by rw [← hw8] at e; exact (wipe_some e).1), T.keep _ _ _ st7 fun b hb o e => (pin' b hb o e).1, fun b hb => ?_, w'⟩
      obtain ⟨o, e, _⟩ := T.obj _ _ st7 b hb
      exact (pin' b hb o e).2
    cases b with
    | false =>
      rw [if_neg Bool.false_ne_true] at q9
      rw [if_neg Bool.false_ne_true]
      exact fin I9 q9
    | true =>
      rw [if_pos rfl] at q9
      rw [if_pos rfl]
      refine thnF (pk.run _ u9 σ8 H9 _ I9 q9) fun z u10 ⟨yk, H10, I10, r10, q10⟩ => thnF (pe.run _ u10 σ8 H10 _ I10 q10) fun z2 u11 ⟨yv, H11, I11, r11, kvs, k, b, ek, hb, hD11, hz11, nx⟩ => ?_
      subst ek
      obtain rfl : z = Value.ref b := r10
      exact d_dictSetT (X := X.blk u3 H3 scope ce fp) hu I11 hD11 hb hz11 r11 fun u12 I12 => fin I12 nx
end
end Mi

namespace Mi
open PySem PySem.Spec PyProof.Rows L2
/-! ### dict comprehensions, their mirrors -/
def rDcK : TSet := fun o y z H N => ∃ D kvs k, o = .ref D ∧ y = kV k ∧ H D = some (.dK kvs) ∧ kvs.length < sizeLine ∧ N (upd H D (.dK (putK kvs k z)))
def rDcT : TSet := fun o y z H N => ∃ D kvs k b, o = .ref D ∧ y = .ref b ∧ H b = some (.tup (k.map kV)) ∧ H D = some (.dT kvs) ∧ kvs.length < sizeLine ∧ N (upd H D (.dT (putK kvs k z)))
def setKD : D → D → D → Option D
  | .dic kvs, k, d => match keyD k with | some j => if kvs.length < lim then some (.dic (putD kvs j d)) else none | none => none
  | _, _, _ => none
def tDcG (o0 : HO) (r : TSet) (wi : TI) (g : TG) (tt : TT) (tk tv : TE) (vs : List Nat) : TE := fun σ H Q => wi σ H fun J H1 => ∀ D, H1 D = none → ∃ Wn : Nat → Nat → Hp → Prop, (∃ m, Wn 0 m (upd H1 D o0)) ∧ ∀ i m H, Wn i m H →
  (J.stop i H ∧ Q (.ref D) H) ∨ (J.go i H ∧ ∃ Nn : Hp → Prop, (∀ H', Nn H' → ∃ m', m' < m ∧ Wn (i + 1) m' H') ∧ ∀ x H', J.yld i H x H' → g x (wipe σ vs) H' fun σ2 H2 => wipe σ2 vs = wipe σ vs ∧ tt σ2 H2 fun b H3 =>
    if b = true then tk σ2 H3 fun y H4 => tv σ2 H4 fun z H5 => r (.ref D) y z H5 Nn else Nn H3)
theorem rDcK_eq {D : Addr} {y z : V} {H : Hp} {N : Hp → Prop} : rDcK (.ref D) y z H N = ∃ kvs k, y = kV k ∧ H D = some (.dK kvs) ∧ kvs.length < sizeLine ∧ N (upd H D (.dK (putK kvs k z))) := by
  apply propext
  constructor
  · rintro ⟨D', kvs, k, e, h⟩; cases e; exact ⟨kvs, k, h⟩
  · rintro ⟨kvs, k, h⟩; exact ⟨D, kvs, k, rfl, h⟩
theorem rDcT_eq {D : Addr} {y z : V} {H : Hp} {N : Hp → Prop} : rDcT (.ref D) y z H N = ∃ kvs k b, y = .ref b ∧ H b = some (.tup (k.map kV)) ∧ H D = some (.dT kvs) ∧ kvs.length < sizeLine ∧ N (upd H D (.dT (putK kvs k z))) := by
  apply propext
  constructor
  · rintro ⟨D', kvs, k, b, e, h⟩; cases e; exact ⟨kvs, k, b, h⟩
  · rintro ⟨kvs, k, b, h⟩; exact ⟨D, kvs, k, b, rfl, h⟩
theorem tDcG_K {wi : TI} {g : TG} {tt : TT} {tk tv : TE} {vs : List Nat} : tDcG (.dK []) rDcK wi g tt tk tv vs = tDc wi g tt tk tv vs := by
  unfold tDcG tDc
  simp only [rDcK_eq]
theorem tDcG_T {wi : TI} {g : TG} {tt : TT} {tk tv : TE} {vs : List Nat} : tDcG (.dT []) rDcT wi g tt tk tv vs = tDcT wi g tt tk tv vs := by
  unfold tDcG tDcT
  simp only [rDcT_eq]
theorem sp_dcK {G : Gc} : SpSet G rDcK setKD := by
  intro Wd ρ H a i v c di dv c' Q wa oc bi rv e q
  cases c with
  | dic kvs =>
    have e : (match keyD di with | some j => if kvs.length < lim then some (D.dic (putD kvs j dv)) else none | none => none) = some c' := e
    cases z : keyD di with
    | none => rw [z] at e; cases e
    | some j =>
      rw [z] at e
      have e : (if kvs.length < lim then some (D.dic (putD kvs j dv)) else none) = some c' := e
      by_cases hl : kvs.length < lim
      · rw [if_pos hl] at e
        cases e
        obtain ⟨vs, h, k, r⟩ := or_dic oc
        obtain rfl := key_br bi z
        have hlen : vs.length = kvs.length := by have := congrArg List.length k; simpa using this
        obtain ⟨k2, r2⟩ := put_reps (k := j) rv k r
        exact ⟨a, vs, j, rfl, rfl, h, lim_lt (by rw [hlen]; exact hl), q _ fun S0 kp => .dic upd_same k2 (r2.mono kp (List.prefix_refl _))⟩
      · rw [if_neg hl] at e; cases e
  | _ => cases e
theorem sp_dcT {G : Gc} : SpSet G rDcT setTD := by
  intro Wd ρ H a i v c di dv c' Q wa oc bi rv e q
  cases c with
  | dit kvs =>
    have e : (match keyTD di with | some j => if kvs.length < lim then some (D.dit (putD kvs j dv)) else none | none => none) = some c' := e
    cases z : keyTD di with
    | none => rw [z] at e; cases e
    | some j =>
      rw [z] at e
      have e : (if kvs.length < lim then some (D.dit (putD kvs j dv)) else none) = some c' := e
      by_cases hl : kvs.length < lim
      · rw [if_pos hl] at e
        cases e
        cases oc with
        | @dit vs _ h k r =>
          obtain ⟨b, rfl, hb, _⟩ := keyT_br bi z
          have hlen : vs.length = kvs.length := by have := congrArg List.length k; simpa using this
          obtain ⟨k2, r2⟩ := put_reps (k := j) rv k r
          exact ⟨a, vs, j, b, rfl, rfl, hb, h, lim_lt (by rw [hlen]; exact hl), q _ fun S0 kp => .dit upd_same k2 (r2.mono kp (List.prefix_refl _))⟩
      · rw [if_neg hl] at e; cases e
  | _ => cases e
def dcF (f : D → D → D → Option D) (I : Itd) (tg : TgF) (tt : M Bool) (tk tv : M Loc) (vs : List Nat) : Nat → D → Nat → M D
  | 0, _, _ => stk
  | n + 1, acc, i => bnd (itN I i) fun o => match o with
    | none => ret acc
    | some d => fun s => if freeOf s.e vs = true then match tg d ⟨wipeE s.e vs, s.t⟩ with
      | none => .stuck
      | some s1 => match tt s1 with
        | .ok true s2 => match (tk s2).bind toVal with
          | .ok k s3 => match (tv s3).bind toVal with
            | .ok d s4 => if freeOf s4.e vs = true then (match f acc k d with | some acc' => dcF f I tg tt tk tv vs n acc' (i + 1) ⟨backE s.e s4.e vs, s4.t⟩ | none => .stuck) else .stuck
            | _ => .stuck
          | _ => .stuck
        | .ok false s2 => if freeOf s2.e vs = true then dcF f I tg tt tk tv vs n acc (i + 1) ⟨backE s.e s2.e vs, s2.t⟩ else .stuck
        | _ => .stuck
      else .stuck
def nDc (d0 : D) (f : D → D → D → Option D) (mi : M Itd) (tg : TgF) (tt : M Bool) (tk tv : M Loc) (vs : List Nat) : M D := bnd mi fun I => dcF f I tg tt tk tv vs lim d0 0
section
variable {G : Gc} {W : WX} {wi : TI} {mi : M Itd} {g : TG} {a : TgF} {tt : TT} {mt : M Bool} {tk tv : TE} {mk mv : M Loc}
theorem wipe_wipe {σ : L2.St} {vs : List Nat} : wipe (wipe σ vs) vs = wipe σ vs := by
  have all : ∀ (τ : L2.St) (j : Nat) (ws : List Nat), j ∈ ws → ∀ (x : Option V), (wipe τ ws)[j]? = some x → x = none := fun τ j ws => by
    induction ws with
    | nil => intro h; cases h
    | cons w ws ih =>
      intro h x q
      unfold wipe at q
      rcases getset q with ⟨_, z⟩ | ⟨ne, q⟩
      · exact z.symm
      · exact ih ((List.mem_cons.mp h).resolve_left ne) x q
  apply List.ext_getElem?
  intro j
  by_cases hj : j ∈ vs
  · have l1 : (wipe (wipe σ vs) vs).length = (wipe σ vs).length := by rw [wipe_length]
    cases q1 : (wipe (wipe σ vs) vs)[j]? with
    | none =>
      rw [List.getElem?_eq_none_iff] at q1
      rw [l1] at q1
      exact (List.getElem?_eq_none_iff.mpr q1).symm
    | some x1 =>
      have h1 := all _ j vs hj x1 q1
      have hl : j < (wipe σ vs).length := by rw [← l1]; exact (List.getElem?_eq_some_iff.mp q1).1
      rw [List.getElem?_eq_getElem hl]
      have h2 := all _ j vs hj _ (List.getElem?_eq_getElem hl)
      rw [h1, h2]
  · rw [wipe_out hj]
theorem ev_dcG {vs : List Nat} {o0 : HO} {d0 : D} {r : TSet} {f : D → D → D → Option D} (h0 : ∀ W ρ H D, ORep G W ρ (upd H D o0) D d0) (sp : SpSet G r f) (hi : Ev G W (IRel G) wi mi) (hg : EvG G 0 g a) (gw : GW g vs) (ht : Ev G W0 BRel tt mt) (hk : Ev G W0 (LRep G) tk mk) (hv : Ev G W0 (LRep G) tv mv)
    (hlen : ∀ d s s', a d s = some s' → s'.e.length = s.e.length) : EvN G W (tDcG o0 r wi g tt tk tv vs) (nDc d0 f mi a mt mk mv vs) := by
  intro S0 ρ0 s0 σ H0 Q t0 hp
  refine hi _ _ _ _ _ _ t0 ((wN Q).bind hp fun I s1 _ J H1 ρ1 t1 n1 r1 hp1 D nD => ?_)
  obtain ⟨tD, kD, nwD⟩ := t1.laid (o := o0) nD (orep_not (h0 (fun _ => False) ρ1 H1 D))
  refine ⟨fun i m H => ∃ ρ s acc, Sat G (S1 S0 D) ρ s σ H ∧ ItOk G (Wa (S1 S0 D) ρ s.e σ) ρ H J I ∧ ORep G (Wa (S1 S0 D) ρ s.e σ) ρ H D acc ∧ ¬ Wa S0 ρ s.e σ D ∧
      Kp S0 (Wa S0 ρ1 s1.e σ) H1 (Wa (S1 S0 D) ρ s.e σ) H ∧ ρ1 <+: ρ ∧ PostN G W S0 ρ1 s1 σ H1 (dcF f I a mt mk mv vs m acc i s) Q,
    ⟨lim, ρ1, s1, d0, tD, r1.mono kD (List.prefix_refl _), h0 _ _ _ _, nwD, kD, List.prefix_refl _, hp1⟩, ?_⟩
  rintro i m H ⟨ρ, s, acc, t, ok, oD, nw, k, p, hp⟩
  obtain ⟨od, hD⟩ := oD.some
  cases m with
  | zero => exact hp.elim
  | succ m =>
    unfold dcF at hp
    have hp : PostN G W S0 ρ1 s1 σ H1 ((itN I i s).bind _) Q := hp
    rcases itN_seq t ok i with z | ⟨z, st⟩ | ⟨d, z, go, y⟩
    · rw [z] at hp; exact hp.elim
    · rw [z] at hp
      exact .inl ⟨st, hp D H ρ t k p nw oD⟩
    · rw [z] at hp
      refine .inr ⟨go, fun H' => ∃ m', m' < m + 1 ∧ ∃ ρ s acc, Sat G (S1 S0 D) ρ s σ H' ∧ ItOk G (Wa (S1 S0 D) ρ s.e σ) ρ H' J I ∧ ORep G (Wa (S1 S0 D) ρ s.e σ) ρ H' D acc ∧ ¬ Wa S0 ρ s.e σ D ∧
        Kp S0 (Wa S0 ρ1 s1.e σ) H1 (Wa (S1 S0 D) ρ s.e σ) H' ∧ ρ1 <+: ρ ∧ PostN G W S0 ρ1 s1 σ H1 (dcF f I a mt mk mv vs m' acc (i + 1) s) Q, fun H' n => n, fun x H' hy => ?_⟩
      obtain ⟨ex, rx⟩ := y x H' hy
      obtain ⟨t, kpg⟩ := t.grow ex
      have ok := ok.mono kpg (List.prefix_refl _)
      have hD0 := hD
      have hD := ex D _ hD
      have oD := oD.mono kpg (List.prefix_refl _) (hD.trans hD0.symm)
      have k : Kp S0 (Wa S0 ρ1 s1.e σ) H1 (Wa (S1 S0 D) ρ s.e σ) H' := k.trans ⟨kpg.keep, kpg.wn, fun b o w e => kpg.s0 b o (.inl w) e⟩
      have hp : PostN G W S0 ρ1 s1 σ H1 (if freeOf s.e vs = true then match a d ⟨wipeE s.e vs, s.t⟩ with
        | none => .stuck
        | some s1 => match mt s1 with
          | .ok true s2 => match (mk s2).bind toVal with
            | .ok k s3 => match (mv s3).bind toVal with
              | .ok d s4 => if freeOf s4.e vs = true then (match f acc k d with | some acc' => dcF f I a mt mk mv vs m acc' (i + 1) ⟨backE s.e s4.e vs, s4.t⟩ | none => .stuck) else .stuck
              | _ => .stuck
            | _ => .stuck
          | .ok false s2 => if freeOf s2.e vs = true then dcF f I a mt mk mv vs m acc (i + 1) ⟨backE s.e s2.e vs, s2.t⟩ else .stuck
          | _ => .stuck
        else .stuck) Q := hp
      by_cases f0 : freeOf s.e vs = true
      · rw [if_pos f0] at hp
        have tw := t.wipe (vs := vs) f0
        have hww := wa_wipe (S0 := S1 S0 D) (ρ := ρ) (σ := σ) f0
        cases ea : a d ⟨wipeE s.e vs, s.t⟩ with
        | none => rw [ea] at hp; exact hp.elim
        | some s2 =>
          rw [ea] at hp
          refine gw x _ _ _ (hg _ _ ⟨wipeE s.e vs, s.t⟩ _ _ _ _ _ _ tw (by rw [hww]; exact rx) ea fun σ2 t2 n2 _ hw2 => ?_)
          have hw2 : wipe σ2 vs = wipe (wipe σ vs) vs := hw2
          rw [wipe_wipe] at hw2
          refine ⟨hw2, ?_⟩
          have n2' : Kp (S1 S0 D) (Wa (S1 S0 D) ρ s.e σ) H' (Wa (S1 S0 D) ρ s2.e σ2) H' := by have := n2.k; rw [hww] at this; exact this
          have len2 : s2.e.length = s.e.length := (hlen _ _ _ ea).trans (wipeE_len vs)
          -- the frame as it was, what is new stands
          have bk : ∀ {s5 : S} {H5 : Hp} {ρ5 : List Addr}, Sat G (S1 S0 D) ρ5 s5 σ2 H5 → freeOf s5.e vs = true → Kp (S1 S0 D) (Wa (S1 S0 D) ρ s.e σ) H' (Wa (S1 S0 D) ρ5 s5.e σ2) H5 → ρ <+: ρ5 →
              Sat G (S1 S0 D) ρ5 ⟨backE s.e s5.e vs, s5.t⟩ σ H5 ∧ Wa (S1 S0 D) ρ5 (backE s.e s5.e vs) σ = Wa (S1 S0 D) ρ5 s5.e σ2 ∧ ¬ Wa S0 ρ5 (backE s.e s5.e vs) σ D ∧ Kp S0 (Wa S0 ρ1 s1.e σ) H1 (Wa (S1 S0 D) ρ5 (backE s.e s5.e vs) σ) H5 := by
            intro s5 H5 ρ5 t5 f5 kk pp
            have hl5 : s5.e.length = s.e.length := by rw [t5.len, ← t2.len]; exact len2
            have tb := t.back2 f0 t5 f5 hw2 hl5 kk pp
            have hWb := wa_back (S0 := S1 S0 D) (ρ := ρ5) (s := s5) (e0 := s.e) f0 f5 hw2
            refine ⟨tb, hWb, ?_, ?_⟩
            · intro w
              rcases w with w | w | ⟨j, d', e1, e2⟩
              · exact nw (.inl w)
              · exact tb.rs D w (.inr rfl)
              · obtain ⟨b, e3, _, _, nb⟩ := tb.own j d' e1
                rw [e2] at e3; cases e3
                exact nb (.inr rfl)
            · rw [hWb]
              exact k.trans ⟨kk.keep, kk.wn, fun b o w e => kk.s0 b o (.inl w) e⟩
          refine ht _ _ _ _ _ _ t2 ?_
          cases em : mt s2 with
          | stuck => simp only [em] at hp; exact hp.elim
          | exc x s3 => simp only [em] at hp; exact hp.elim
          | ok b s3 =>
            intro b' H3 ρ3 t3 n3 r3
            obtain rfl : b' = b := r3
            have hs3 : H3 D = some od := n3.k.s0 D _ (.inr rfl) hD
            cases b' with
            | false =>
              simp only [em] at hp
              rw [if_neg Bool.false_ne_true]
              by_cases f3 : freeOf s3.e vs = true
              · rw [if_pos f3] at hp
                have kk := n2'.trans n3.k
                obtain ⟨tb, hWb, nb, kb⟩ := bk t3 f3 kk n3.p
                refine ⟨m, Nat.lt_succ_self _, ρ3, ⟨backE s.e s3.e vs, s3.t⟩, acc, tb, ?_, ?_, nb, kb, p.trans n3.p, hp⟩
                · show ItOk G (Wa (S1 S0 D) ρ3 (backE s.e s3.e vs) σ) ρ3 H3 J I
                  rw [hWb]; exact ok.mono kk n3.p
                · show ORep G (Wa (S1 S0 D) ρ3 (backE s.e s3.e vs) σ) ρ3 H3 D acc
                  rw [hWb]; exact oD.mono kk n3.p (hs3.trans hD.symm)
              · rw [if_neg f3] at hp; exact hp.elim
            | true =>
              simp only [em] at hp
              rw [if_pos rfl]
              refine hk _ _ _ _ _ _ t3 ?_
              cases ek : mk s3 with
              | stuck => simp only [ek, Res.bind] at hp; exact hp.elim
              | exc x s4 => simp only [ek, Res.bind] at hp; exact hp.elim
              | ok l s4 =>
                intro v H4 ρ4 t4 n4 r4
                simp only [ek, Res.bind] at hp
                rcases toVal_ok t4 r4 with z5 | ⟨d5, s5, z5, t5, n5, r5⟩
                · simp only [z5] at hp; exact hp.elim
                · simp only [z5] at hp
                  refine hv _ _ _ _ _ _ t5 ?_
                  cases ev : mv s5 with
                  | stuck => simp only [ev] at hp; exact hp.elim
                  | exc x s6 => simp only [ev] at hp; exact hp.elim
                  | ok l6 s6 =>
                    intro v6 H6 ρ6 t6 n6 r6
                    simp only [ev] at hp
                    rcases toVal_ok t6 r6 with z7 | ⟨d7, s7, z7, t7, n7, r7⟩
                    · simp only [z7] at hp; exact hp.elim
                    · simp only [z7] at hp
                      by_cases f7 : freeOf s7.e vs = true
                      · rw [if_pos f7] at hp
                        cases ef : f acc d5 d7 with
                        | none => simp only [ef] at hp; exact hp.elim
                        | some acc' =>
                          simp only [ef] at hp
                          have kk := ((((n2'.trans n3.k).trans n4.k).trans n5.k).trans n6.k).trans n7.k
                          have pp : ρ <+: ρ6 := ((n3.p.trans n4.p).trans n5.p).trans n6.p
                          have hs6 : H6 D = some od := n6.k.s0 D _ (.inr rfl) (n4.k.s0 D _ (.inr rfl) hs3)
                          obtain ⟨tb, hWb, nb, kb⟩ := bk t7 f7 kk pp
                          have oD6 := oD.mono kk pp (hs6.trans hD.symm)
                          have r5' := (r5.mono n6.k n6.p).mono n7.k n7.p
                          rw [← hWb] at oD6 r5' r7
                          refine sp (Wa (S1 S0 D) ρ6 (backE s.e s7.e vs) σ) ρ6 H6 D v v6 acc d5 d7 acc' _ (.inl (.inr rfl)) oD6 (.inl r5') r7 ef fun o' on => ?_
                          have wD : Wa (S1 S0 D) ρ6 (backE s.e s7.e vs) σ D := .inl (.inr rfl)
                          have nt := orep_not (on S0 (kp_mut wD fun h => nb (.inl h)))
                          obtain ⟨tu, ku⟩ := Sat.updS1 (o := o') tb nb nt
                          refine ⟨m, Nat.lt_succ_self _, ρ6, ⟨backE s.e s7.e vs, s7.t⟩, acc', tu, ?_, on _ ku, nb, kb.trans ku, p.trans pp, hp⟩
                          have ok6 := ok.mono kk pp
                          rw [← hWb] at ok6
                          exact ok6.mono ku (List.prefix_refl _)
                      · rw [if_neg f7] at hp; exact hp.elim
      · rw [if_neg f0] at hp; exact hp.elim
end
section
variable {X : Cx} {ca : Nat → Addr} {W : WX} {kx vx tg iter : Expr} {ifs : List Expr} {scope : Scope} {own : List (Str × Nat)} {pos : Pos} {wi : TI} {mi : M Itd} {g : TG} {a : TgF} {tt : TT} {mt : M Bool} {tk tv : TE} {mk mv : M Loc}
theorem jn_dcK (hc : X.calm = true) (hN : X.N.Nodup) (hi : JI X ca W tg iter wi mi) (ok : BlkOk X.N X.env.scope scope own) (hg : ∀ s H C cl fp, JG (Blk X scope s H C cl fp) ca 0 tg g a) (gw : GW g (own.map (·.2))) (hlen : ∀ d s s', a d s = some s' → s'.e.length = s.e.length)
    (ht : ∀ s H C cl fp, JTs (Blk X scope s H C cl fp) ca W0 ifs tt mt) (hk : ∀ s H C cl fp, JE (Blk X scope s H C cl fp) ca W0 kx tk mk) (he : ∀ s H C cl fp, JE (Blk X scope s H C cl fp) ca W0 vx tv mv) (hs : ∀ x, foldedSetIterable iter X.env x = pure x := by intro _; rfl) :
    JN X ca W (.DictComp kx vx [⟨tg, iter, ifs, 0⟩] scope pos) (tDcG (.dK []) rDcK wi g tt tk tv (own.map (·.2))) (nDc (.dic []) setKD mi a mt mk mv (own.map (·.2))) := by
  refine ⟨?_, fun S0 ρ s σ H Q t hp => ?_⟩
  · rw [tDcG_K]
    exact pe_dc hc hN hi.pi ok (fun s H C cl fp => (hg s H C cl fp).pg) (fun s H C cl fp => (ht s H C cl fp).pts) (fun s H C cl fp => (hk s H C cl fp).pe) (fun s H C cl fp => (he s H C cl fp).pe) hs
  · exact ev_dcG (fun _ _ _ _ => .dic upd_same rfl .nil) sp_dcK hi.ev ((hg X.s_0 H 0 [] []).ev) gw ((ht X.s_0 H 0 [] []).ev) ((hk X.s_0 H 0 [] []).ev) ((he X.s_0 H 0 [] []).ev) hlen S0 ρ s σ H Q t hp
theorem jn_dcT (hu : X.A.units + 1 < cLine) (hc : X.calm = true) (hN : X.N.Nodup) (hi : JI X ca W tg iter wi mi) (ok : BlkOk X.N X.env.scope scope own) (hg : ∀ s H C cl fp, JG (Blk X scope s H C cl fp) ca 0 tg g a) (gw : GW g (own.map (·.2))) (hlen : ∀ d s s', a d s = some s' → s'.e.length = s.e.length)
    (ht : ∀ s H C cl fp, JTs (Blk X scope s H C cl fp) ca W0 ifs tt mt) (hk : ∀ s H C cl fp, JE (Blk X scope s H C cl fp) ca W0 kx tk mk) (he : ∀ s H C cl fp, JE (Blk X scope s H C cl fp) ca W0 vx tv mv) (hs : ∀ x, foldedSetIterable iter X.env x = pure x := by intro _; rfl) :
    JN X ca W (.DictComp kx vx [⟨tg, iter, ifs, 0⟩] scope pos) (tDcG (.dT []) rDcT wi g tt tk tv (own.map (·.2))) (nDc (.dit []) setTD mi a mt mk mv (own.map (·.2))) := by
  refine ⟨?_, fun S0 ρ s σ H Q t hp => ?_⟩
  · rw [tDcG_T]
    exact pe_dcT hu hc hN hi.pi ok (fun s H C cl fp => (hg s H C cl fp).pg) (fun s H C cl fp => (ht s H C cl fp).pts) (fun s H C cl fp => (hk s H C cl fp).pe) (fun s H C cl fp => (he s H C cl fp).pe) hs
  · exact ev_dcG (fun _ _ _ _ => .dit upd_same rfl .nil) sp_dcT hi.ev ((hg X.s_0 H 0 [] []).ev) gw ((ht X.s_0 H 0 [] []).ev) ((hk X.s_0 H 0 [] []).ev) ((he X.s_0 H 0 [] []).ev) hlen S0 ρ s σ H Q t hp
end
end Mi

namespace Mi
open PySem PySem.Spec PyProof.Rows L2
/-! ### for k in x[j]: a dict that a tuple holds -/
def sForKx (i : Nat) (j : Int) (tg : TgF) (body : M Fl) : M Fl := fun s => match s.e[i]? with
  | some (.val (.tup ds)) => (match atI ds j with | some (.dic kvs) => keysF (kvs.map (·.1)) tg body lim 0 s | _ => .stuck)
  | _ => .stuck
section
variable {nf i : Nat} {j : Int} {X : Cx} {ca : Nat → Addr} {W : WX} {tg eb : Expr} {body : List Stmt} {g : TG} {a : TgF} {tb : TS} {mb : M Fl} {pos p pc : Pos} {x : Str}
theorem js_forKx (hpo : PassesOwn (model X.prog X.w) X.A X.env X.xe) (hc : X.calm = true) (hx : X.N[i]? = some x) (hv : Vis X.env.scope x) (hj : PE X eb (tC (.int j))) (hg : JG X ca nf tg g a) (hb : JB X ca W nf body tb mb) (hsl : PlainIx eb := by intro _ _; rfl)
    (hs : ∀ u, foldedSetIterable (.Subscript (.Name x p) eb pc) X.env u = pure u := by intro _; rfl) (hdb : (x == ("__debug__" : Str)) = false := by decide) (hcd : (x == ("__classdict__" : Str)) = false := by decide) :
    JS X ca W nf (.For tg (.Subscript (.Name x p) eb pc) body [] pos) (fun D σ H => tLock (tFor (iKeys (tOp (rIx X.K) (tVar i) (tC (.int j)))) g tb) D σ H ∨ tFor (iKeys (tOp (rIx X.K) (tVar i) (tC (.int j)))) g tb D σ H) (sForKx i j a mb) := by
  have ps := ps_for hpo hc (pi_keys (pe_ix (pos := pc) ix_seq (pe_var (pos := p) hx hv hdb hcd) hj hsl)) hg.pg hb.pss hs (pos := pos)
  refine ⟨⟨fun pins s σ H D I h => h.elim (fun h => (ps_lock ps).run pins s σ H D I h) (fun h => ps.run pins s σ H D I h)⟩, fun S0 ρ s σ H E t hp => ?_⟩
  unfold sForKx at hp
  cases e0 : s.e[i]? with
  | none => simp only [e0] at hp; exact hp.elim
  | some sl =>
    cases sl with
    | val dd =>
      cases dd with
      | tup ds =>
        simp only [e0] at hp
        cases e1 : atI ds j with
        | none => simp only [e1] at hp; exact hp.elim
        | some d1 =>
          cases d1 with
          | dic kvs =>
            simp only [e1] at hp
            obtain ⟨v, ev, rv⟩ := t.val i _ e0
            obtain ⟨ta, vs0, rfl, hst, rr, _⟩ := br_tup (.inl rv)
            obtain ⟨v1, e2, r1⟩ := reps_at rr e1
            cases r1 with
            | @dic d vs _ h n e r =>
              rw [← e] at hp
              rcases h with h | ⟨od, h⟩
              · refine .inl ⟨d, .dK vs, h, trivial, fun od => ?_⟩
                have t1 := t.sw (sw_lock (od := od) h) n
                have hb1 : upd (upd H d (.frz od (.dK vs))) d (.dK vs) = H := upd_back h
                have hst' : SqT X.K (upd H d (.frz od (.dK vs))) ta vs0 := by
                  rcases hst with hst | hst
                  · exact .inl ((sw_lock (od := od) h).rdx hst (by intro _ z; cases z) (by intro _ _ z; cases z))
                  · exact .inr hst
                refine ⟨_, ev, .inr (.inl ⟨ta, vs0, j, _, rfl, rfl, hst', e2, d, od, rfl, .inl ⟨vs, upd_same, ?_⟩⟩)⟩
                refine keys_core (L := fun H' => upd H' d (.dK vs)) (E := E) (D := ⟨fun σ' H' => H' d = some (.frz od (.dK vs)) ∧ E.nx σ' (upd H' d (.dK vs)), fun v H' => H' d = some (.frz od (.dK vs)) ∧ E.rt v (upd H' d (.dK vs)), fun σ' H' => H' d = some (.frz od (.dK vs)) ∧ E.bk σ' (upd H' d (.dK vs)), fun σ' H' => H' d = some (.frz od (.dK vs)) ∧ E.ct σ' (upd H' d (.dK vs))⟩) hg hb (fun h1 w1 t1 => t1.sw (sw_loose h1) w1) (fun h1 w1 x1 => ?_) (fun h1 r1 => r1.sw (sw_loose h1)) (fun σ' H' h1 q => ⟨h1, q⟩) (fun v' H' h1 q => ⟨h1, q⟩) t1 upd_same n (by
                  show PostS ⟨X.K, ca, X.w⟩ W nf S0 ρ s σ (upd (upd H d (.frz od (.dK vs))) d (.dK vs)) _ E
                  rw [hb1]; exact hp)
                rename_i ρa ea σa Ha ρb eb σb Hb
                have hq : upd (upd Ha d (.dK vs)) d (.frz od (.dK vs)) = Ha := upd_back h1
                exact (nx_loose (od := od) (H := upd Ha d (.dK vs)) upd_same w1 (by rw [hq]; exact x1)).2.2
              · refine .inr ⟨_, ev, .inr (.inl ⟨ta, vs0, j, _, rfl, rfl, hst, e2, d, od, rfl, .inl ⟨vs, h, ?_⟩⟩)⟩
                exact keys_core (L := fun H' => H') (E := E) hg hb (fun _ _ t1 => t1) (fun _ _ x1 => x1) (fun _ r1 => r1) (fun _ _ _ q => q) (fun _ _ _ q => q) t h n hp
          | _ => simp only [e1] at hp; exact hp.elim
      | _ => simp only [e0] at hp; exact hp.elim
    | own dd => simp only [e0] at hp; exact hp.elim
    | no => simp only [e0] at hp; exact hp.elim
end
/-! ### list(range(n)), list(a dict), sorted(ints) -/
def nRng (m : M Loc) : M D := bnd m fun l => fun s => match l with
  | .val (.int n) => if 0 ≤ n ∧ n ≤ 1000000 then .ok (.lst ((List.range n.toNat).map fun (i : Nat) => .int (i : Int))) s else .stuck
  | _ => .stuck
def sortI (ns : List Int) : List Int := ns.mergeSort (fun a b => decide (a ≤ b))
theorem sortI_perm {ns : List Int} : (sortI ns).Perm ns := List.mergeSort_perm _ _
theorem sortI_le {ns : List Int} : (sortI ns).Pairwise (· ≤ ·) := by
  have h := List.pairwise_mergeSort (le := fun a b : Int => decide (a ≤ b)) (fun a b c h1 h2 => decide_eq_true (Int.le_trans (of_decide_eq_true h1) (of_decide_eq_true h2))) (fun a b => by simp; omega) ns
  exact h.imp fun h => of_decide_eq_true h
theorem sortI_uniq {ns ms : List Int} (p : ms.Perm ns) (q : ms.Pairwise (· ≤ ·)) : ms = sortI ns :=
  List.Perm.eq_of_pairwise (fun a b _ _ h1 h2 => Int.le_antisymm h1 h2) q sortI_le (p.trans sortI_perm.symm)
def sortD : List D → Option (List D)
  | [.lst ds] => (intsD ds).map fun ns => (sortI ns).map .int
  | [.lck ds] => (intsD ds).map fun ns => (sortI ns).map .int
  | _ => none
def listKD : List D → Option (List D)
  | [.dic kvs] => some (kvs.map fun kv => kD kv.1)
  | _ => none
section
variable {G : Gc} {W : Addr → Prop} {ρ : List Addr} {H : Hp}
theorem ints_reps : ∀ (ns : List Int), Reps G W ρ H (ns.map V.int) (ns.map D.int)
  | [] => .nil
  | n :: ns => .cons .int (ints_reps ns)
theorem sp_sortI : SpCN G (rSortedI G.K) sortD := by
  intro W ρ H xs ds es Q tk b e q
  have fin : ∀ {a : Addr} {vs : List V} {ds : List D}, SqL G.K H a vs → Reps G W ρ H vs ds → (intsD ds).map (fun ns => (sortI ns).map D.int) = some es → rSortedI G.K [.ref a] H Q := fun {a vs ds} hs r e => by
    obtain ⟨ns, z, rfl⟩ := Option.map_eq_some_iff.mp e
    have := reps_ints r z
    subst this
    refine ⟨a, ns, rfl, hs, fun ns' p pm pw n => ?_⟩
    rw [sortI_uniq pm pw]
    exact q p _ n (ints_reps _)
  match ds, e with
  | [.lst ds], e => obtain ⟨x, rfl, b1⟩ := brs1 b; obtain ⟨a, vs, rfl, h, r⟩ := br_lst b1; exact fin (.inl (.inl h)) r e
  | [.lck ds], e => obtain ⟨x, rfl, b1⟩ := brs1 b; obtain ⟨a, vs, rfl, h, r⟩ := br_lck b1; exact fin h r e
theorem reps_keys : ∀ {vs : List (Key × V)} {ds : List (Key × D)}, vs.map (·.1) = ds.map (·.1) → Reps G W ρ H (vs.map fun kv => kV kv.1) (ds.map fun kv => kD kv.1)
  | [], [], _ => .nil
  | [], _ :: _, e => by cases e
  | _ :: _, [], e => by cases e
  | (k, v) :: vs, (k', d) :: ds, e => by
    rw [List.map_cons, List.map_cons] at e
    injection e with e1 e2
    have e1 : k = k' := e1
    subst e1
    exact .cons (rep_kD k) (reps_keys e2)
theorem sp_listK : SpCN G (fun xs H Q => ∃ (a : Addr) (kvs : List (Key × V)), xs = [.ref a] ∧ Rd H a (.dK kvs) ∧ ∀ p, H p = none → Q (.ref p) (upd H p (.lst (kvs.map fun kv => kV kv.1)))) listKD := by
  intro W ρ H xs ds es Q tk b e q
  match ds, e with
  | [.dic ds], e => obtain ⟨x, rfl, b1⟩ := brs1 b; obtain ⟨a, vs, rfl, h, k, r⟩ := br_dic b1; cases e; exact ⟨a, vs, rfl, h, fun p n => q p _ n (reps_keys k)⟩
end
section
variable {X : Cx} {ca : Nat → Addr} {W : WX} {e : Expr} {te : TE} {tA : TA} {m : M Loc} {pos p p2 pos2 : Pos}
theorem jn_listRng (hc : X.calm = true) (hg : Gl X "list") (hm : X.mg "list" = none) (hg2 : Gl X "range") (hm2 : X.mg "range" = none) (he : JE X ca W e te m) (na : starEach [.Call (.Name "range" p2) [e] [] pos2] X.env = (false, eval (.Call (.Name "range" p2) [e] [] pos2) X.env) :: starEach [] X.env := by rfl)
    (nb : starEach [e] X.env = (false, eval e X.env) :: starEach [] X.env := by rfl) : JN X ca W (.Call (.Name "list" p) [.Call (.Name "range" p2) [e] [] pos2] [] pos) (tLstRg (tRg1 te)) (nRng m) := by
  refine ⟨pe_listRg hc hg hm (prg_1 hg2 hm2 he.pe nb) na, fun S0 ρ s σ H Q t hp => ?_⟩
  refine he.ev _ _ _ _ _ _ t ((wN Q).bind hp fun l s1 _ v H1 ρ1 t1 n1 r1 hp1 => ?_)
  cases l with
  | own k => exact hp1.elim
  | val d =>
    cases d with
    | int n =>
      obtain rfl := br_int (.inl (show Rep ⟨X.K, ca, X.w⟩ _ _ _ v (.int n) from r1))
      have hp1 : PostN ⟨X.K, ca, X.w⟩ W S0 ρ1 s1 σ H1 (if 0 ≤ n ∧ n ≤ 1000000 then .ok (.lst ((List.range n.toNat).map fun (i : Nat) => .int (i : Int))) s1 else .stuck) Q := hp1
      by_cases h : 0 ≤ n ∧ n ≤ 1000000
      · rw [if_pos h] at hp1
        refine ⟨n, rfl, ⟨by omega, by omega, by omega, by omega, by omega⟩, fun q nq => laid_lst (X := W) t1 ?_ hp1 nq⟩
        have e : rgV 0 n = ((List.range n.toNat).map fun (i : Nat) => (i : Int)).map V.int := by
          unfold rgV
          rw [Int.sub_zero, List.map_map]
          refine List.map_congr_left fun k _ => ?_
          show V.int (0 + (k : Int)) = V.int k
          rw [Int.zero_add]
        have e2 : ((List.range n.toNat).map fun (i : Nat) => D.int (i : Int)) = ((List.range n.toNat).map fun (i : Nat) => (i : Int)).map D.int := by rw [List.map_map]; rfl
        rw [e, e2]
        exact ints_reps _
      · rw [if_neg h] at hp1; exact hp1.elim
    | _ => exact hp1.elim
end
end Mi

namespace Mi
open PySem PySem.Spec PyProof.Rows L2
/-! ### a comprehension within another one -/
def relS (sc1 sc0 : Scope) : Scope := { sc1 with names := sc1.names.map fun (n, k) => if (k == .free && sc0.kind == .function && sc0.names.lookup n == some .cell) then (n, .cell) else (n, k) }
theorem blkOk_nest {X : Cx} {s : Shared} {H : Hp} {C : Addr} {cl : List (Str × Addr)} {fp : List Addr} {scope1 scope sc : Scope} {own : List (Str × Nat)} {N : List Str} (hN : X.N = N) (he : X.env.scope = sc) (h : blkC N (relS scope1 sc) scope own = true) :
    BlkOk (Blk X scope1 s H C cl fp).N (Blk X scope1 s H C cl fp).env.scope scope own := by
  subst hN he
  exact blkOk_by h
end Mi

namespace Mi
open PySem PySem.Spec PyProof.Rows L2
/-! ### a + b as a new thing -/
def Sp2N (G : Gc) (r : R2) (f : D → D → Option (List D)) : Prop := ∀ (W : Addr → Prop) (ρ : List Addr) (H : Hp) (x y : V) (dx dy : D) (es : List D) (Q : VK), Tk W H → BR G W ρ H x dx → BR G W ρ H y dy → f dx dy = some es →
  (∀ p vs, H p = none → Reps G W ρ H vs es → Q (.ref p) (upd H p (.lst vs))) → r x y H Q
def nO2 (f : D → D → Option (List D)) (ma mb : M Loc) : M D := bnd ma fun x => bnd mb fun y => bnd (cont x) fun dx => bnd (cont y) fun dy => fun s => match f dx dy with | some es => .ok (.lst es) s | none => .stuck
def catL : D → D → Option (List D)
  | .lst a, .lst b => if a.length + b.length ≤ lim then some (a ++ b) else none
  | _, _ => none
theorem sp_catL {G : Gc} : Sp2N G (rAddU G.K) catL := by
  intro W ρ H x y dx dy d Q tk bx bby e q
  cases dx with
  | lst i =>
    cases dy with
    | lst j =>
      by_cases h : i.length + j.length ≤ lim
      · rw [show catL (.lst i) (.lst j) = some (i ++ j) from if_pos h] at e
        cases e
        obtain ⟨a, vs, rfl, h1, r1⟩ := br_lst bx
        obtain ⟨b, us, rfl, h2, r2⟩ := br_lst bby
        exact .inr (.inl ⟨a, b, vs, us, rfl, rfl, h1, h2, lim_line (by rw [r1.length, r2.length]; exact h), fun p n => q p _ n (r1.append r2)⟩)
      · rw [show catL (.lst i) (.lst j) = none from if_neg h] at e; cases e
    | _ => cases e
  | _ => cases e
theorem ev_nO2 {G : Gc} {W : WX} {r : R2} {f : D → D → Option (List D)} {ta tb : TE} {ma mb : M Loc} (sp : Sp2N G r f) (ha : Ev G W (LRep G) ta ma) (hb : Ev G W (LRep G) tb mb) : EvN G W (tOp r ta tb) (nO2 f ma mb) := by
  intro S0 ρ s σ H Q t hp
  refine ha _ _ _ _ _ _ t ((wN Q).bind hp fun x s1 _ v H1 ρ1 t1 n1 r1 hp1 => ?_)
  refine hb _ _ _ _ _ _ t1 ((wN Q).bind hp1 fun y s2 _ u H2 ρ2 t2 n2 r2 hp2 => ?_)
  have r1' := stab_L r1 n2.k n2.p
  refine (wN Q).cont t2 r1' hp2 fun dx bx _ hp3 => (wN Q).cont t2 r2 hp3 fun dy b2 _ hp4 => ?_
  cases e : f dx dy with
  | none => simp only [e] at hp4; exact hp4.elim
  | some es =>
    simp only [e] at hp4
    exact sp _ _ _ _ _ _ _ _ _ t2.tk bx b2 e fun p us n r => laid_lst (X := W) t2 r hp4 n
theorem jn_op {op : Operator} {r : R2} {f : D → D → Option (List D)} (ho : OpR X (binaryOp op) r) (sp : Sp2N ⟨X.K, ca, X.w⟩ r f) (ha : JE X ca W a ta ma) (hb : JE X ca W b tb mb) : JN X ca W (.BinOp a op b pos) (tOp r ta tb) (nO2 f ma mb) :=
  ⟨(je_op (f := fun _ _ => none) ho (fun _ _ _ _ _ _ _ _ _ _ _ _ e _ => by cases e) ha hb).pe, ev_nO2 sp ha.ev hb.ev⟩
end Mi

/-! == of dicts of dicts: of tables with keys of ints and texts, or of tuples, whose values are flags -/
namespace PySem.W
open PySem PySem.Calls PyProof.Rows PyProof.V PySem.Spec
section
variable {prog : Program} {w : World} {K : Type} [DecidableEq K] {knd : HeapKind prog w K} {A : Around} {E : Value → Shared → Prop} {s : Shared}
/-- the rows of a table whose keys lie in the heap, held against another one -/
inductive TabHits (prog : Program) (w : World) {K : Type} [DecidableEq K] (A : Around) (s : Shared) (ys : List (K × Addr × Value)) : List (K × Addr × Value) → Bool → Prop
  | nil : TabHits prog w A s ys [] true
  | miss {x : K × Addr × Value} {r : List (K × Addr × Value)} : atKey ys x.1 = none → TabHits prog w A s ys (x :: r) false
  | hit {x : K × Addr × Value} {p : Addr × Value} {r : List (K × Addr × Value)} {e b : Bool} : atKey ys x.1 = some p → SeqAt.EqP prog w A s x.2.2 p.2 e → TabHits prog w A s ys r b → TabHits prog w A s ys (x :: r) (e && b)
theorem TabHits.miss_of {ys : List (K × Addr × Value)} {x : K × Addr × Value} {r : List (K × Addr × Value)} {c : Bool} (h : TabHits prog w A s ys (x :: r) c) (e : atKey ys x.1 = none) : c = false := by
  cases h with
  | miss _ => rfl
  | hit q _ _ => rw [e] at q; cases q
theorem TabHits.hit_of {ys : List (K × Addr × Value)} {x : K × Addr × Value} {p : Addr × Value} {r : List (K × Addr × Value)} {c : Bool} (h : TabHits prog w A s ys (x :: r) c) (e : atKey ys x.1 = some p) : ∃ b d, SeqAt.EqP prog w A s x.2.2 p.2 b ∧ TabHits prog w A s ys r d ∧ c = (b && d) := by
  cases h with
  | miss q => rw [e] at q; cases q
  | hit q k l => rw [e] at q; cases q; exact ⟨_, _, k, l, rfl⟩
theorem tab_same {nm : String} {a b : Addr} {xs ys : List (K × Addr × Value)} {r : Bool} {Q : Bool → Shared → Prop} (room : knd.room A) (ha : (a == sysModules) = false) (hb : (b == sysModules) = false) (da : s.heap.DictOfH knd a xs) (db : s.heap.DictOfH knd b ys)
    (hits : xs.length = ys.length → TabHits prog w A s ys xs r) (h : Q (xs.length == ys.length && r) s) : wpAny (model prog w) A (Builtin.Dict.samePairs nm a b) Q E s := by
  obtain ⟨o1, es, m1, g1, _, d1, e1, i1, n1⟩ := da
  obtain ⟨o2, fs, m2, g2, _, d2, e2, i2, n2⟩ := db
  have z1 := size_of_entries e1
  have z2 := size_of_entries e2
  rw [← z1, ← z2] at h hits
  unfold Builtin.Dict.samePairs Builtin.Dict.showsAll
  rw [if_neg (by rw [ha]; simp), if_neg (by rw [hb]; simp)]
  refine wpAny_bind (wpAny_pure (wpAny_bind (wpAny_pure (wpAny_bind (wpAny_dictEntries g1 d1 (wpAny_bind (wpAny_dictEntries g2 d2 ?_)))))))
  by_cases hz : es.size = fs.size
  · have h2 : Q r s := by simpa [hz] using h
    have hh := hits hz
    rw [if_neg (by simp [hz])]
    refine wpAny_bind (wpAny_dictEpoch g1 d1 (wpAny_bind ?_))
    simp only [Std.Legacy.Range.forIn_eq_forIn_range', Std.Legacy.Range.size, Nat.sub_zero, Nat.add_sub_cancel, Nat.div_one]
    refine wpAny_forIn_list _ (fun rest q t => t = s ∧ q = (none, ()) ∧ ∃ i, rest = List.range' i (es.size - i) ∧ i ≤ es.size ∧ TabHits prog w A s ys (xs.drop i) r) _ ?_ ?_ _ _ ⟨rfl, rfl, 0, by simp, Nat.zero_le _, hh⟩
    · rintro i rest q t ⟨rfl, rfl, j, hr, hj, hp⟩
      have jl : j < es.size := by
        by_cases c : j < es.size
        · exact c
        · have z : es.size - j = 0 := by omega
          rw [z] at hr; cases hr
      have e3 : es.size - j = (es.size - (j + 1)) + 1 := by omega
      rw [e3, List.range'_succ] at hr
      obtain ⟨rfl, rfl⟩ := List.cons.inj hr
      have il : i < xs.length := by omega
      obtain ⟨x, hx⟩ : ∃ x, xs[i]? = some x := ⟨_, List.getElem?_eq_getElem il⟩
      have xm := List.mem_of_getElem? hx
      have dr : xs.drop i = x :: xs.drop (i + 1) := by
        rw [List.drop_eq_getElem_cons il]
        have := List.getElem?_eq_getElem il
        rw [hx] at this
        cases this; rfl
      rw [dr] at hp
      refine wpAny_bind (wpAny_dictEntries g1 d1 ?_)
      rw [entry_at e1 i, hx]
      refine wpAny_bind (wpAny_holding (wpAny_bind (wpAny_dictFind_heap room (i1 x xm) g2 d2 e2 i2 n2 (fun hn => ?_) fun j p hj => ?_)))
      · have er := hp.miss_of (atKey_none_of_get hn)
        rw [er] at h2
        refine wpAny_pure ?_
        simp only [Bool.not_false, if_true]
        exact wpAny_pure (wpAny_pure h2)
      · obtain ⟨c, d, q1, q2, er⟩ := hp.hit_of (atKey_of_get n2 hj)
        refine wpAny_bind (wpAny_dictEntries g2 d2 ?_)
        rw [entry_at e2 j, hj]
        refine wpAny_holding (q1 _ _ ?_)
        cases c
        · rw [er] at h2
          simp only [Bool.not_false, if_true]
          exact wpAny_pure (wpAny_pure h2)
        · rw [Bool.true_and] at er
          rw [← er] at q2
          simp only [Bool.not_true, Bool.false_eq_true, if_false]
          refine wpAny_bind (wpAny_dictEpoch g1 d1 ?_)
          rw [if_neg (by simp)]
          exact wpAny_pure ⟨rfl, rfl, i + 1, rfl, jl, q2⟩
    · rintro q t ⟨rfl, rfl, j, hr, hj, hp⟩
      have e3 : j = es.size := by
        by_cases c : j < es.size
        · have z : es.size - j = (es.size - (j + 1)) + 1 := by omega
          rw [z, List.range'_succ] at hr; cases hr
        · omega
      rw [e3, z1, List.drop_length] at hp
      cases hp
      exact wpAny_pure h2
  · rw [if_pos (by simpa using hz)]
    have z3 : (es.size == fs.size) = false := by simpa using hz
    rw [z3] at h
    exact wpAny_bind (wpAny_rule (wpAny_pure h))
theorem tab_rc {a b : Addr} {xs ys : List (K × Addr × Value)} {r : Bool} (room : knd.room A.in1) (hu : A.units < cLine) (ha : (a == sysModules) = false) (hb : (b == sysModules) = false) (da : s.heap.DictOfH knd a xs) (db : s.heap.DictOfH knd b ys)
    (hits : xs.length = ys.length → TabHits prog w A.in1 s ys xs r) (E Q : Value → Shared → Prop) (h : Q (.bool (xs.length == ys.length && r)) s) : wpAny (model prog w) A (richCompare .Eq (.ref a) (.ref b)) Q E s := by
  have ta := da.typeIs
  have tb := db.typeIs
  refine wpAny_richCompare_same_room (op := .Eq) ta tb PySem.F.slot_dict_eq (wpAny_call_entry PySem.F.slot_dict_eq ta PySem.F.entry_dict_eq ?_ (PySem.F.args_dict_eq_2 _ _)) hu
  show wpAny _ _ (do let p ← Builtin.Dict.dictSlotArgs "__eq__" ⟨[.ref a, .ref b], []⟩; _) _ _ s
  unfold Builtin.Dict.dictSlotArgs
  refine wpAny_bind (wpAny_bind (wpAny_notOrdered_dict ta ?_))
  show wpAny _ _ (pure (Value.ref a, Value.ref b)) _ _ _
  refine wpAny_pure (wpAny_bind (wpAny_isInstance tb PySem.F.sub_dict_dict ?_))
  rw [if_neg (by simp)]
  refine wpAny_bind (wpAny_pure (wpAny_bind (wpAny_pure (wpAny_bind (tab_same room ha hb da db hits ?_)))))
  exact wpAny_pure ⟨_, rfl, nofun, by simpa using h⟩
end
end PySem.W
namespace Mi
open PySem PySem.Spec PyProof.Rows L2
def vB {κ : Type} (p : κ × Bool) : κ × V := (p.1, .bl p.2)
def sameL {κ : Type} [DecidableEq κ] (ks ls : List (κ × Bool)) : Bool := decide (ks.length = ls.length) && ks.all fun p => decide (lookK ls p.1 = some p.2)
section
variable {κ α : Type} [DecidableEq κ]
theorem lookK_mem {ks : List (κ × α)} (nd : (ks.map (·.1)).Nodup) {p : κ × α} (h : p ∈ ks) : lookK ks p.1 = some p.2 := by
  induction ks with
  | nil => cases h
  | cons q r ih =>
    rw [List.map_cons, List.nodup_cons] at nd
    unfold lookK at ih ⊢
    rcases List.mem_cons.mp h with rfl | h
    · simp [List.find?_cons]
    · have ne : ¬ q.1 = p.1 := fun e => nd.1 (e ▸ List.mem_map.mpr ⟨p, h, rfl⟩)
      simp only [List.find?_cons, ne, decide_false]
      exact ih nd.2 h
theorem sameL_self {ks : List (κ × Bool)} (nd : (ks.map (·.1)).Nodup) : sameL ks ks = true := by
  unfold sameL
  simp only [decide_true, Bool.true_and, List.all_eq_true]
  exact fun p hp => decide_eq_true (lookK_mem nd hp)
theorem val_vB {ls : List (κ × Bool)} {k : κ} : valV (ls.map vB) k = (lookK ls k).map V.bl := by
  induction ls with
  | nil => rfl
  | cons p r ih =>
    unfold lookK at ih ⊢
    rw [List.map_cons]
    by_cases e : p.1 = k
    · rw [valV_pos (show (vB p).1 = k from e)]
      simp [List.find?_cons, e, vB]
    · rw [valV_neg (show ¬ (vB p).1 = k from e), ih]
      simp [List.find?_cons, e]
theorem vB_inj {ks ls : List (κ × Bool)} (h : ks.map vB = ls.map vB) : ks = ls := by
  induction ks generalizing ls with
  | nil => cases ls with | nil => rfl | cons _ _ => cases h
  | cons p r ih => cases ls with
    | nil => cases h
    | cons q s =>
      rw [List.map_cons, List.map_cons] at h
      injection h with h1 h2
      rw [ih h2]
      obtain ⟨a, b⟩ := p
      obtain ⟨c, d⟩ := q
      injection h1 with h1 h3
      injection h3 with h3
      rw [show a = c from h1, show b = d from h3]
end
theorem rd_fun {H : Hp} {a : Addr} {x y : List (Key × V)} (h : Rd H a (.dK x)) (g : Rd H a (.dK y)) : x = y := by
  rcases h with h | ⟨o, h⟩
  · rcases g with g | ⟨o', g⟩
    · rw [h] at g; cases g; rfl
    · rw [h] at g; cases g
  · rcases g with g | ⟨o', g⟩
    · rw [h] at g; cases g
    · rw [h] at g; cases g; rfl
section
variable {P : Program} {w : World} {A : Around} {s : Shared}
theorem hits_kB {ls : List (Key × Bool)} {vb : List (Key × Value)} (rb : KV (ls.map vB) vb) : ∀ {ks : List (Key × Bool)} {va : List (Key × Value)}, KV (ks.map vB) va → PySem.W.KeqHitsP P w A s vb va (ks.all fun p => decide (lookK ls p.1 = some p.2))
  | [], _, r => by unfold KV at r; cases r; exact .nil
  | p :: ks, _, r => by
    unfold KV at r
    rw [List.map_cons] at r
    cases r with
    | @cons _ q _ qs h t =>
      obtain ⟨k, v⟩ := q
      obtain ⟨h1, h2⟩ := h
      have h1 : p.1 = k := h1
      have h2 : v = .bool p.2 := h2
      subst h1 h2
      have ih := hits_kB rb (ks := ks) (va := qs) t
      have rv := rb.val p.1
      rw [val_vB] at rv
      cases c : lookK ls p.1 with
      | none =>
        rw [c] at rv
        have e : valueAt vb p.1 = none := by
          cases z : valueAt vb p.1 with
          | none => rfl
          | some _ => rw [z] at rv; exact rv.elim
        simp only [List.all_cons, c]
        exact .miss e
      | some b =>
        rw [c] at rv
        obtain ⟨y, e, ry⟩ := rv.some_of
        have ry : y = .bool b := ry
        subst ry
        have k := PySem.W.KeqHitsP.hit (prog := P) (w := w) (A := A) (s := s) e ((SeqAt.EqAt.bool_bool p.2 b).eqP) ih
        have e2 : (p.2 == b) = decide (lookK ls p.1 = some p.2) := by rw [c]; cases b <;> cases p.2 <;> rfl
        rw [e2] at k
        simp only [List.all_cons]
        exact k
theorem at_vB {H : Hp} {ls : List (List Key × Bool)} {ys : List (List Key × Addr × Value)} (r : KT H (ls.map vB) ys) (k : List Key) : (lookK ls k = none ∧ atKey ys k = none) ∨ ∃ b a, lookK ls k = some b ∧ atKey ys k = some (a, .bool b) := by
  induction ls generalizing ys with
  | nil => cases r; exact .inl ⟨rfl, rfl⟩
  | cons p ls ih =>
    rw [List.map_cons] at r
    cases r with
    | @cons _ q _ qs h t =>
      obtain ⟨k', a, v⟩ := q
      obtain ⟨h1, _, h2⟩ := h
      have h1 : p.1 = k' := h1
      have h2 : v = .bool p.2 := h2
      subst h1 h2
      by_cases e : p.1 = k
      · exact .inr ⟨p.2, a, by simp [lookK, List.find?_cons, e], by simp [atKey, List.find?_cons, e]⟩
      · rcases ih t with ⟨g1, g2⟩ | ⟨b, a', g1, g2⟩
        · exact .inl ⟨by rw [← g1]; simp [lookK, List.find?_cons, e], by rw [← g2]; simp [atKey, List.find?_cons, e]⟩
        · exact .inr ⟨b, a', by rw [← g1]; simp [lookK, List.find?_cons, e], by rw [← g2]; simp [atKey, List.find?_cons, e]⟩
theorem hits_tB {H : Hp} {ls : List (List Key × Bool)} {ys : List (List Key × Addr × Value)} (rb : KT H (ls.map vB) ys) : ∀ {ks : List (List Key × Bool)} {xs : List (List Key × Addr × Value)}, KT H (ks.map vB) xs → PySem.W.TabHits P w A s ys xs (ks.all fun p => decide (lookK ls p.1 = some p.2))
  | [], _, r => by cases r; exact .nil
  | p :: ks, _, r => by
    rw [List.map_cons] at r
    cases r with
    | @cons _ q _ qs h t =>
      obtain ⟨k, a, v⟩ := q
      obtain ⟨h1, _, h2⟩ := h
      have h1 : p.1 = k := h1
      have h2 : v = .bool p.2 := h2
      subst h1 h2
      have ih := hits_tB rb (ks := ks) (xs := qs) t
      rcases at_vB rb p.1 with ⟨g1, g2⟩ | ⟨b, a', g1, g2⟩
      · simp only [List.all_cons, g1]
        exact .miss g2
      · have k := PySem.W.TabHits.hit (prog := P) (w := w) (A := A) (s := s) (x := (p.1, a, .bool p.2)) g2 ((SeqAt.EqAt.bool_bool p.2 b).eqP) ih
        have e2 : (p.2 == b) = decide (lookK ls p.1 = some p.2) := by rw [g1]; cases b <;> cases p.2 <;> rfl
        rw [e2] at k
        simp only [List.all_cons]
        exact k
end
/-- two tables of flags: whether they are equal -/
inductive InEq (H : Hp) : V → V → Bool → Prop
  | k {a b : Addr} {ks ls : List (Key × Bool)} : Rd H a (.dK (ks.map vB)) → Rd H b (.dK (ls.map vB)) → (ks.map (·.1)).Nodup → InEq H (.ref a) (.ref b) (sameL ks ls)
  | t {a b : Addr} {ks ls : List (List Key × Bool)} : H a = some (.dT (ks.map vB)) → H b = some (.dT (ls.map vB)) → (ks.map (·.1)).Nodup → InEq H (.ref a) (.ref b) (sameL ks ls)
def rEqW : R2 := fun x y H Q => ∃ (a b : Addr) (ks ls : List (Key × V)) (f : Key → Bool), x = .ref a ∧ y = .ref b ∧ Rd H a (.dK ks) ∧ Rd H b (.dK ls) ∧ (∀ p ∈ ks, ∀ u, valV ls p.1 = some u → InEq H p.2 u (f p.1)) ∧ Q (.bl (decide (ks.length = ls.length) && ks.all fun p => (valV ls p.1).isSome && f p.1)) H
section
variable {X : Cx} {pins : List (Addr × Obj)} {σ : L2.St} {H : Hp} {s : Shared}
theorem beq_dec {m n : Nat} : (m == n) = decide (m = n) := by by_cases h : m = n <;> simp [h]
theorem inEq_run (I : Inv X pins σ H s) {x y : V} {e : Bool} (h : InEq H x y e) {v u : Value} (rx : RelV x v) (ry : RelV y u) {A : Around} (hu : A.units + 1 < cLine) : SeqAt.EqP X.prog X.w A s v u e := by
  cases h with
  | @k a b ks ls ha hb nd =>
    obtain rfl : v = Value.ref a := rx
    obtain rfl : u = Value.ref b := ry
    by_cases c : a = b
    · subst c
      have := vB_inj (rd_fun ha hb)
      subst this
      rw [sameL_self nd]
      exact (SeqAt.EqAt.same _).eqP
    · obtain ⟨_, ya, va, ra, da⟩ := dk_rd I.hok ha
      obtain ⟨_, yb, vb, rb, db⟩ := dk_rd I.hok hb
      refine SeqAt.eqP_refs c fun E Q q => PySem.W.rcP_dicts (knd := mixKind X.prog X.w) ya yb da db (by omega) (fun _ => hits_kB rb ra) E Q ?_
      have l1 : va.length = ks.length := by rw [← ra.length, List.length_map]
      have l2 : vb.length = ls.length := by rw [← rb.length, List.length_map]
      rw [l1, l2, beq_dec]
      exact q
  | @t a b ks ls ha hb nd =>
    obtain rfl : v = Value.ref a := rx
    obtain rfl : u = Value.ref b := ry
    by_cases c : a = b
    · subst c
      rw [ha] at hb
      injection hb with hb
      injection hb with hb
      have := vB_inj hb
      subst this
      rw [sameL_self nd]
      exact (SeqAt.EqAt.same _).eqP
    · obtain ⟨_, ya, xs, ra, da⟩ := dt_of I.hok ha
      obtain ⟨_, yb, ys, rb, db⟩ := dt_of I.hok hb
      refine SeqAt.eqP_refs c fun E Q q => PySem.W.tab_rc (knd := tupleKind (mixKind X.prog X.w)) (show A.units + 1 < cLine from hu) (by omega) ya yb da db (fun _ => hits_tB rb ra) E Q ?_
      have l1 : xs.length = ks.length := by have := Paired.length ra; rw [← this, List.length_map]
      have l2 : ys.length = ls.length := by have := Paired.length rb; rw [← this, List.length_map]
      rw [l1, l2, beq_dec]
      exact q
theorem hits_w (I : Inv X pins σ H s) {A : Around} (hu : A.units + 1 < cLine) {ls : List (Key × V)} {vb : List (Key × Value)} (rb : KV ls vb) {f : Key → Bool} {ks : List (Key × V)} {va : List (Key × Value)} (ra : KV ks va) :
    (∀ p ∈ ks, ∀ u, valV ls p.1 = some u → InEq H p.2 u (f p.1)) → PySem.W.KeqHitsP X.prog X.w A s vb va (ks.all fun p => (valV ls p.1).isSome && f p.1) := by
  unfold KV at ra
  induction ra with
  | nil => intro _; exact .nil
  | @cons p q ps qs h t ih =>
    intro hp
    obtain ⟨k, v⟩ := q
    obtain ⟨h1, h2⟩ := h
    have h1 : p.1 = k := h1
    subst h1
    have ih := ih fun p' hm => hp p' (List.mem_cons_of_mem _ hm)
    have rv := rb.val p.1
    cases c : valV ls p.1 with
    | none =>
      rw [c] at rv
      have e : valueAt vb p.1 = none := by
        cases z : valueAt vb p.1 with
        | none => rfl
        | some _ => rw [z] at rv; exact rv.elim
      simp only [List.all_cons, c]
      exact .miss e
    | some u =>
      rw [c] at rv
      obtain ⟨y, e, ry⟩ := rv.some_of
      have k := PySem.W.KeqHitsP.hit e (inEq_run I (hp p List.mem_cons_self u c) h2 ry hu) ih
      simp only [List.all_cons, c, Option.isSome_some, Bool.true_and]
      exact k
theorem op_eqW (hu : X.A.units + 64 + 1 < cLine) : OpR X (compareOp .Eq) rEqW := by
  intro pins s σ H x y v u Q I rx ry h
  obtain ⟨a, b, ks, ls, f, rfl, rfl, ha, hb, hp, q⟩ := h
  obtain rfl : v = Value.ref a := rx
  obtain rfl : u = Value.ref b := ry
  obtain ⟨_, ya, va, ra, da⟩ := dk_rd I.hok ha
  obtain ⟨_, yb, vb, rb, db⟩ := dk_rd I.hok hb
  refine PySem.W.rcP_dicts (knd := mixKind X.prog X.w) ya yb da db (by omega) (fun _ => hits_w I (show X.A.units + 1 + 1 < cLine by omega) rb ra hp) _ _ (fin_bl I q ?_)
  rw [← ra.length, ← rb.length, beq_dec]
end
def blsOf {κ : Type} : List (κ × D) → Option (List (κ × Bool))
  | [] => some []
  | (k, .bl b) :: r => (blsOf r).map ((k, b) :: ·)
  | _ => none
def sameO {κ : Type} [DecidableEq κ] (o p : Option (List (κ × Bool))) : Option Bool := match o, p with
  | some k, some l => if (k.map (·.1)).Nodup then some (sameL k l) else none
  | _, _ => none
def innD : D → D → Option Bool
  | .dic ks, .dic ls => sameO (blsOf ks) (blsOf ls)
  | .dit ks, .dit ls => sameO (blsOf ks) (blsOf ls)
  | _, _ => none
def okW (ls : List (Key × D)) (p : Key × D) : Bool := match lookK ls p.1 with | some u => (innD p.2 u).isSome | none => true
def hitW (ls : List (Key × D)) (p : Key × D) : Bool := match lookK ls p.1 with | some u => (innD p.2 u).getD false | none => false
def eqWD : D → D → Option D
  | .dic ks, .dic ls => if (ks.map (·.1)).Nodup ∧ ks.all (okW ls) = true then some (.bl (decide (ks.length = ls.length) && ks.all (hitW ls))) else none
  | _, _ => none
section
variable {G : Gc} {W : Addr → Prop} {ρ : List Addr} {H : Hp}
theorem bls_reps {κ : Type} : ∀ {ks : List (κ × D)} {vs : List (κ × V)} {bs : List (κ × Bool)}, blsOf ks = some bs → vs.map (·.1) = ks.map (·.1) → Reps G W ρ H (vs.map (·.2)) (ks.map (·.2)) → vs = bs.map vB
  | [], [], bs, h, _, _ => by cases h; rfl
  | [], _ :: _, _, _, e, _ => by cases e
  | _ :: _, [], _, _, e, _ => by cases e
  | (k, d) :: ks, (k', v) :: vs, bs, h, e, .cons r t => by
    rw [List.map_cons, List.map_cons] at e
    injection e with e1 e2
    have e1 : k' = k := e1
    subst e1
    cases d with
    | bl b =>
      have h : (blsOf ks).map ((k', b) :: ·) = some bs := h
      cases c : blsOf ks with
      | none => rw [c] at h; cases h
      | some cs =>
        rw [c] at h
        cases h
        have ih := bls_reps c e2 t
        have : v = .bl b := br_bl (.inl r)
        rw [List.map_cons, ← ih, this]; rfl
    | _ => cases h
theorem sameO_of {κ : Type} [DecidableEq κ] {o p : Option (List (κ × Bool))} {e : Bool} (h : sameO o p = some e) : ∃ k l, o = some k ∧ p = some l ∧ (k.map (·.1)).Nodup ∧ e = sameL k l := by
  cases o with
  | none => cases h
  | some k => cases p with
    | none => cases h
    | some l =>
      have h : (if (k.map (·.1)).Nodup then some (sameL k l) else none) = some e := h
      by_cases c : (k.map (·.1)).Nodup
      · rw [if_pos c] at h; cases h; exact ⟨k, l, rfl, rfl, c, rfl⟩
      · rw [if_neg c] at h; cases h
theorem inn_rep {d d2 : D} {e : Bool} (h : innD d d2 = some e) {v u : V} (r : Rep G W ρ H v d) (r2 : Rep G W ρ H u d2) : InEq H v u e := by
  cases d with
  | dic ks => cases d2 with
    | dic ls =>
      obtain ⟨k, l, h1, h2, nd, rfl⟩ := sameO_of (show sameO (blsOf ks) (blsOf ls) = some e from h)
      obtain ⟨a, vs, rfl, ha, k1, q1⟩ := br_dic (.inl r)
      obtain ⟨b, us, rfl, hb, k2, q2⟩ := br_dic (.inl r2)
      rw [bls_reps h1 k1 q1] at ha
      rw [bls_reps h2 k2 q2] at hb
      exact .k ha hb nd
    | _ => cases h
  | dit ks => cases d2 with
    | dit ls =>
      obtain ⟨k, l, h1, h2, nd, rfl⟩ := sameO_of (show sameO (blsOf ks) (blsOf ls) = some e from h)
      obtain ⟨a, vs, rfl, ha, k1, q1⟩ := br_dit (.inl r)
      obtain ⟨b, us, rfl, hb, k2, q2⟩ := br_dit (.inl r2)
      rw [bls_reps h1 k1 q1] at ha
      rw [bls_reps h2 k2 q2] at hb
      exact .t ha hb nd
    | _ => cases h
  | _ => cases h
theorem valV_mem {κ : Type} [DecidableEq κ] {ks : List (κ × V)} (nd : (ks.map (·.1)).Nodup) {p : κ × V} (h : p ∈ ks) : valV ks p.1 = some p.2 := lookK_mem nd h
theorem sp_eqW : Sp2 G rEqW eqWD := by
  intro W ρ H x y dx dy d Q tk bx bby e q
  cases dx with
  | dic ks =>
    cases dy with
    | dic ls =>
      have e : (if (ks.map (·.1)).Nodup ∧ ks.all (okW ls) = true then some (D.bl (decide (ks.length = ls.length) && ks.all (hitW ls))) else none) = some d := e
      by_cases h : (ks.map (·.1)).Nodup ∧ ks.all (okW ls) = true
      · rw [if_pos h] at e
        cases e
        obtain ⟨nd, ok⟩ := h
        rw [List.all_eq_true] at ok
        obtain ⟨a, vs, rfl, ha, k1, r1⟩ := br_dic bx
        obtain ⟨b, us, rfl, hb, k2, r2⟩ := br_dic bby
        have l1 : vs.length = ks.length := by have := congrArg List.length k1; simpa using this
        have l2 : us.length = ls.length := by have := congrArg List.length k2; simpa using this
        obtain ⟨f, hf⟩ : ∃ f : Key → Bool, f = fun k => match lookK ks k, lookK ls k with | some d, some u => (innD d u).getD false | _, _ => false := ⟨_, rfl⟩
        have f0 : ∀ k, lookK ls k = none → f k = false := fun k z => by rw [hf]; simp only [z]; cases lookK ks k <;> rfl
        have f1 : ∀ p ∈ ks, f p.1 = hitW ls p := fun p hp => by
          rw [hf]
          simp only [lookK_mem nd hp, hitW]
          cases lookK ls p.1 <;> rfl
        refine ⟨a, b, vs, us, f, rfl, rfl, ha, hb, fun p hp u hu => ?_, ?_⟩
        · rcases look_reps (k := p.1) k2 r2 with ⟨z, _⟩ | ⟨u', d2, z1, z2, z3⟩
          · rw [z] at hu; cases hu
          · rw [z1] at hu; cases hu
            have vm := valV_mem (by rw [k1]; exact nd) hp
            rcases look_reps (k := p.1) k1 r1 with ⟨z, _⟩ | ⟨v', d, y1, y2, y3⟩
            · rw [z] at vm; cases vm
            · rw [y1] at vm; cases vm
              have dm : (p.1, d) ∈ ks := by
                unfold lookK at y2
                cases c : ks.find? fun q => decide (q.1 = p.1) with
                | none => rw [c] at y2; cases y2
                | some q =>
                  rw [c] at y2
                  cases y2
                  have := List.find?_some c
                  have m := List.mem_of_find?_eq_some c
                  have e : q.1 = p.1 := by simpa using this
                  rw [← e]; exact m
              have o := ok _ dm
              unfold okW at o
              simp only [z2] at o
              obtain ⟨e, he⟩ := Option.isSome_iff_exists.mp o
              have fe : f p.1 = e := by rw [f1 _ dm]; simp only [hitW, z2, he, Option.getD_some]
              rw [fe]
              exact inn_rep he y3 z3
        · have e1 : (vs.all fun p => (valV us p.1).isSome && f p.1) = ks.all (hitW ls) := by
            have g : ∀ k, ((valV us k).isSome && f k) = f k := fun k => by
              rcases look_reps (k := k) k2 r2 with ⟨z, z2⟩ | ⟨u', d2, z1, z2, z3⟩
              · rw [z, f0 k z2]; rfl
              · rw [z1]; rfl
            have a1 : (vs.all fun p => (valV us p.1).isSome && f p.1) = (vs.map (·.1)).all f := by
              rw [List.all_map]
              congr 1
              funext p
              exact g p.1
            rw [a1, k1, List.all_map]
            rw [Bool.eq_iff_iff, List.all_eq_true, List.all_eq_true]
            exact ⟨fun h p hp => by rw [← f1 p hp]; exact h p hp, fun h p hp => by show f p.1 = true; rw [f1 p hp]; exact h p hp⟩
          rw [e1, l1, l2]
          exact q _ _ .refl .bl
      · rw [if_neg h] at e; cases e
    | _ => cases e
  | _ => cases e
end
end Mi

/-! dicts of the module from texts to texts: d[k], d.get(k, z); displays of texts; sorted(two texts) -/
namespace Mi
open PySem PySem.Spec PyProof.Rows L2
structure KMap (K : PySem.W.Frag) (w : World) (d : Addr) (kvs : List (Str × Str)) : Prop where
  at_ : ∃ es n, KDict K w d es n
  get : ∀ z, (lookK kvs z = none ∧ PySem.W.nsIn K d z = some none) ∨ ∃ v u, lookK kvs z = some v ∧ PySem.W.nsIn K d z = some (some u) ∧ RelV (.str v) u
def strV (e : DictEntry) : Option Str := match e.val with | .str x _ => some x | _ => none
theorem find_map {P : Params} : ∀ {es : List DictEntry} {kvs : List (Str × Str)} (z : Str), es.map He.keyOf = He.keysIn P (kvs.map (·.1)) → es.map strV = kvs.map (fun p => some p.2) → ((es.find? (·.key.isStr z)).bind strV) = lookK kvs z
  | [], [], z, _, _ => rfl
  | [], _ :: _, z, _, h => by cases h
  | _ :: _, [], z, _, h => by cases h
  | e :: es, (k, v) :: kvs, z, h, h2 => by
    have h : He.keyOf e :: es.map He.keyOf = _ := h
    rw [List.map_cons] at h h2
    injection h2 with h3 h4
    have h5 : es.map He.keyOf = He.keysIn P (kvs.map (·.1)) := by
      have := congrArg List.tail h
      exact this
    have h6 : e.key.isStr z = decide (k = z) := by
      have h7 : He.keyOf e = (He.keysIn P (k :: kvs.map (·.1))).head! := by
        have := congrArg List.head! h
        exact this
      have := (find_keyOf (P := P) (l := [e]) (ks := [k]) z (by
        show [He.keyOf e] = He.keysIn P [k]
        have := congrArg (List.take 1) h
        exact this)).1
      rw [List.find?_cons] at this
      cases c : e.key.isStr z with
      | true =>
        rw [c] at this
        by_cases q : k = z
        · simp [q]
        · have q2 : ¬ z = k := fun y => q y.symm
          simp [q2] at this
      | false =>
        rw [c] at this
        by_cases q : k = z
        · simp [q] at this
        · simp [q]
    unfold lookK
    rw [List.find?_cons, List.find?_cons, h6]
    by_cases q : k = z
    · simp only [q, decide_true, Option.bind_some, Option.map_some]
      exact h3
    · simp only [q, decide_false]
      exact find_map z h5 h4
theorem kmap_of {K : PySem.W.Frag} {w : World} {a : Addr} {kvs : List (Str × Str)} {es : Array DictEntry} {n : Nat} (l : K.lookup a = some ⟨.type "dict", none, .dict es n, #[]⟩) (b : (a == sysModules) = false) (h : es.toList.map He.keyOf = He.keysIn w.params (kvs.map (·.1))) (h2 : es.toList.map strV = kvs.map (fun p => some p.2)) : KMap K w a kvs := by
  have kw := kwords_of (w := w) l b h
  refine ⟨kw.at_, fun z => ?_⟩
  have hf := find_map (P := w.params) z h h2
  obtain ⟨r, h3, h4⟩ := kw.has z
  unfold PySem.W.nsIn at h3 ⊢
  rw [l] at h3 ⊢
  simp only at h3 ⊢
  cases e : es.toList.find? (·.key.isStr z) with
  | some y =>
    rw [e] at hf
    refine .inr ?_
    have hf : strV y = lookK kvs z := hf
    have hs : ∃ v, lookK kvs z = some v := by
      have m := List.mem_of_find?_eq_some e
      have : strV y ∈ es.toList.map strV := List.mem_map.mpr ⟨y, m, rfl⟩
      rw [h2] at this
      obtain ⟨p, _, hp⟩ := List.mem_map.mp this
      exact ⟨p.2, by rw [← hf, ← hp]⟩
    obtain ⟨v, hv⟩ := hs
    refine ⟨v, y.val, hv, rfl, ?_⟩
    rw [hv] at hf
    unfold strV at hf
    cases c : y.val with
    | str x t => rw [c] at hf; cases hf; exact ⟨t, rfl⟩
    | _ => rw [c] at hf; cases hf
  | none =>
    rw [e] at hf h3
    refine .inl ⟨hf.symm, ?_⟩
    have e5 := (find_keyOf z h).2
    simp only [e5]; rfl
def ixWD (kvs : List (Str × Str)) : D → Option D
  | .str z => (lookK kvs z).map .str
  | _ => none
def eIxW (kvs : List (Str × Str)) (m : M Loc) : M Loc := bnd m fun l => bnd (cont l) fun d => opt (ixWD kvs d)
def getWR (kvs : List (Str × Str)) (z : Loc) (d : D) (s : S) : Res Loc := match d with
  | .str k => match lookK kvs k with
    | some v => .ok (.val (.str v)) s
    | none => .ok z s
  | _ => .stuck
def eGetW (kvs : List (Str × Str)) (me mf : M Loc) : M Loc := bnd me fun x => bnd mf fun z => bnd (cont x) fun d => getWR kvs z d
def tKGet (K : PySem.W.Frag) (w : World) (d : Addr) (te tf : TE) : TE := fun σ H Q => te σ H fun y H1 => tf σ H1 fun z H2 => ∃ s, y = .str s ∧ ((∃ v u, PySem.W.nsIn K d s = some (some u) ∧ RelV v u ∧ Q v H2) ∨ (PySem.W.nsIn K d s = some none ∧ Q z H2))
section
variable {X : Cx} {ca : Nat → Addr} {W : WX} {e f : Expr} {te tf : TE} {m mf : M Loc} {pos pn apos cpos : Pos} {xn : Str} {d : Addr} {kvs : List (Str × Str)}
theorem ev_ixW (Kw : KMap X.K X.w d kvs) (he : Ev ⟨X.K, ca, X.w⟩ W (LRep ⟨X.K, ca, X.w⟩) te m) : Ev ⟨X.K, ca, X.w⟩ W (LRep ⟨X.K, ca, X.w⟩) (tOp (rIxD X.K X.w) (tC (.ref d)) te) (eIxW kvs m) := by
  intro S0 ρ s σ H Q t hp
  refine he _ _ _ _ _ _ t (post_bind hp fun l s1 _ v H1 ρ1 t1 n1 r1 hp1 => post_cont t1 r1 hp1 fun dd bd hp2 => post_opt t1 hp2 fun d' e' q => ?_)
  cases dd with
  | str z =>
    have e' : (lookK kvs z).map D.str = some d' := e'
    obtain rfl := br_str bd
    rcases Kw.get z with ⟨h1, _⟩ | ⟨v, u, h1, h2, h3⟩
    · rw [h1] at e'; cases e'
    · rw [h1] at e'
      cases e'
      obtain ⟨es, n, kd⟩ := Kw.at_
      exact ⟨d, z, .str v, rfl, rfl, ⟨es, n, u, kd.1, kd.2, h2, h3⟩, q _ _ .refl .str⟩
  | _ => cases e'
theorem je_ixW (Kw : KMap X.K X.w d kvs) (hg : Gl X xn) (hm : X.mg xn = some (.ref d)) (he : JE X ca W e te m) (hs : PlainIx e := by exact fun _ _ => rfl) (hd : (xn == ("__debug__" : Str)) = false := by decide) :
    JE X ca W (.Subscript (.Name xn pn) e pos) (tOp (rIxD X.K X.w) (tC (.ref d)) te) (eIxW kvs m) :=
  ⟨pe_ix ix_kdict (pe_glob hg hm rfl hd) he.pe hs, ev_ixW Kw he.ev⟩
theorem ev_getW (Kw : KMap X.K X.w d kvs) (he : Ev ⟨X.K, ca, X.w⟩ W (LRep ⟨X.K, ca, X.w⟩) te m) (hf : Ev ⟨X.K, ca, X.w⟩ W (LRep ⟨X.K, ca, X.w⟩) tf mf) : Ev ⟨X.K, ca, X.w⟩ W (LRep ⟨X.K, ca, X.w⟩) (tKGet X.K X.w d te tf) (eGetW kvs m mf) := by
  intro S0 ρ s σ H Q t hp
  refine he _ _ _ _ _ _ t (post_bind hp fun l s1 _ v H1 ρ1 t1 n1 r1 hp1 => ?_)
  refine hf _ _ _ _ _ _ t1 (post_bind hp1 fun l2 s2 _ v2 H2 ρ2 t2 n2 r2 hp2 => ?_)
  have r1 := stab_L r1 n2.k n2.p
  refine post_cont t2 r1 hp2 fun dd bd hp3 => ?_
  cases dd with
  | str z =>
    obtain rfl := br_str bd
    refine ⟨z, rfl, ?_⟩
    have hp3 : Post ⟨X.K, ca, X.w⟩ W (LRep ⟨X.K, ca, X.w⟩) S0 ρ2 s2 σ H2 (match lookK kvs z with | some v => .ok (.val (.str v)) s2 | none => .ok l2 s2) Q := hp3
    rcases Kw.get z with ⟨h1, h2⟩ | ⟨v, u, h1, h2, h3⟩
    · rw [h1] at hp3
      exact .inr ⟨h2, hp3 v2 H2 ρ2 t2 .refl r2⟩
    · rw [h1] at hp3
      exact .inl ⟨.str v, u, h2, h3, hp3 _ H2 ρ2 t2 .refl .str⟩
  | _ => exact hp3.elim
theorem pe_getW (Kw : KMap X.K X.w d kvs) (hg : Gl X xn) (hm : X.mg xn = some (.ref d)) (he : PE X e te) (hf : PE X f tf) (m : M2 X (.Name xn pn) "get" apos e f cpos) (hd : (xn == ("__debug__" : Str)) = false := by decide) : PE X (.Call (.Attribute (.Name xn pn) "get" apos) [e, f] [] cpos) (tKGet X.K X.w d te tf) := by
  obtain ⟨es, n, kd⟩ := Kw.at_
  have ho : PE X (.Name xn pn) (tC (.ref d)) := pe_glob hg hm rfl hd
  refine ⟨fun pins s σ H Q I h => ?_⟩
  refine wpAny_Call_method m.base m.few m.line PySem.F.plainAttrs_dict PySem.F.slot_dict_get PySem.F.type_dict_get (thn (ho.run pins s σ H (fun x H1 => x = .ref d ∧ H1 = H) I ⟨rfl, rfl⟩) fun u s1 ⟨x, H1, I1, rx, ex, eH⟩ => ?_)
  subst ex eH
  obtain rfl : u = Value.ref d := rx
  have mo := fun {s : Shared} (k : X.K.In s.heap) => PySem.W.mapOf_K (prog := X.prog) (w := X.w) k kd.1 kd.2
  refine ⟨(mo I1.kIn).typeIs, fun a q => ?_, ?_⟩
  · cases q
    exact ⟨_, I1.kIn _ _ kd.1, rfl⟩
  rw [m.trees]
  refine Calls.callWith_builtin rfl (Calls.evalArgs_plain (Calls.spliced_cons (thn (he.run pins s1 σ _ _ I1 h) fun iv s2 ⟨y, H2, I2, ry, q2⟩ => Calls.spliced_cons (thn (hf.run pins s2 σ H2 _ I2 q2) fun fv s3 ⟨z, H3, I3, rz, q3⟩ => Calls.spliced_nil ?_))))
  obtain ⟨k, rfl, q3⟩ := q3
  obtain ⟨tk, rfl⟩ := (show ∃ t, iv = Value.str k t from ry)
  have mm := mo I3.kIn
  refine call_meetsIn PySem.F.slot_dict_get mm.typeIs PySem.F.entry_dict_get (PySem.F.args_dict_get_3 _ _ _) (meets_dict_get_default (PySem.strKind X.prog X.w) d (strKind_is X.prog X.w k tk) kd.low fv) ⟨_, mm, ?_⟩
  rcases q3 with ⟨v, u, h1, h2, q3⟩ | ⟨h1, q3⟩
  · rw [PySem.W.find_K kd.1 h1]
    exact ⟨v, H3, I3.tok _, h2, q3⟩
  · rw [PySem.W.find_K kd.1 h1]
    exact ⟨z, H3, I3.tok _, rz, q3⟩
theorem je_getW (Kw : KMap X.K X.w d kvs) (hg : Gl X xn) (hm : X.mg xn = some (.ref d)) (he : JE X ca W e te m) (hf : JE X ca W f tf mf) (hb : attributeBase (.Name xn pn) "get" X.env (eval (.Name xn pn) X.env) = eval (.Name xn pn) X.env := by rfl)
    (h2 : ((backTo cpos (starEach [e, f] X.env)).all (fun x => !x.1) && (backToKw cpos (keywordEach [] X.env)).all (fun x => x.1.isSome) && decide (([e, f] : List Expr).length + ([] : List Keyword).length + (if ([] : List Keyword).isEmpty then 0 else 1) < 30)) = true := by rfl) (h3 : (apos.endLine == cpos.line) = true := by rfl) (h4 : backTo cpos (starEach [e, f] X.env) = [(false, eval e X.env), (false, eval f X.env)] := by rfl)
    (hd : (xn == ("__debug__" : Str)) = false := by decide) : JE X ca W (.Call (.Attribute (.Name xn pn) "get" apos) [e, f] [] cpos) (tKGet X.K X.w d te tf) (eGetW kvs m mf) :=
  ⟨pe_getW Kw hg hm he.pe hf.pe ⟨hb, h2, h3, h4⟩ hd, ev_getW Kw he.ev hf.ev⟩
/-! ### {"a": "b", ..} -/
def strT (kvs : List (Str × Str)) : List (TE × TE) := kvs.map fun p => (tC (.str p.1), tC (.str p.2))
def ndS (kvs : List (Str × Str)) : Bool := decide ((kvs.map (·.1)).Nodup)
theorem tp_str {σ : L2.St} {H : Hp} {Q : List (V × V) → Hp → Prop} : ∀ {kvs : List (Str × Str)}, Q (kvs.map fun p => (V.str p.1, V.str p.2)) H → tPairs (strT kvs) σ H Q
  | [], h => h
  | p :: r, h => tp_str (kvs := r) (Q := fun ps H3 => Q ((V.str p.1, V.str p.2) :: ps) H3) h
theorem merge_new : ∀ {more kvs : List (Key × V)}, (kvs.map (·.1) ++ more.map (·.1)).Nodup → mergeK kvs more = kvs ++ more
  | [], kvs, _ => by simp [mergeK]
  | p :: r, kvs, h => by
    have h0 : valV kvs p.1 = none := by
      have : p.1 ∉ kvs.map (·.1) := fun hm => by
        have := (List.nodup_append.mp h).2.2 _ hm p.1 (by simp)
        exact this rfl
      unfold valV
      cases c : kvs.find? fun q => decide (q.1 = p.1) with
      | none => rfl
      | some q =>
        have e := List.find?_some c
        have e : q.1 = p.1 := by simpa using e
        exact absurd (List.mem_map.mpr ⟨q, List.mem_of_find?_eq_some c, e⟩) this
    show mergeK (putK kvs p.1 p.2) r = _
    rw [putK_new _ h0, merge_new (by simpa using h)]
    simp
theorem reps_txts {G : Gc} {W : Addr → Prop} {ρ : List Addr} {H : Hp} : ∀ (kvs : List (Str × Str)), Reps G W ρ H ((kvs.map fun p => ((Sum.inr p.1 : Key), V.str p.2)).map (·.2)) ((kvs.map fun p => ((Sum.inr p.1 : Key), D.str p.2)).map (·.2))
  | [] => .nil
  | _ :: r => .cons .str (reps_txts r)
theorem jn_dsp {keys : List (Option Expr)} {values : List Expr} (h : PPs X pos keys values (strT kvs)) (hn : ndS kvs = true) (h15 : kvs.length ≤ 15) (hall : keys.all (·.isSome) = true := by rfl) (hl : keys.length = values.length := by rfl) (h0 : keys ≠ [] := by exact fun z => nomatch z) (h16 : keys.length ≤ 15 := by decide) :
    JN X ca W (.Dict keys values pos) (tDisp (strT kvs)) (ret (.dic (kvs.map fun p => (Sum.inr p.1, .str p.2)))) := by
  refine ⟨pe_disp h hall hl h0 h16, fun S0 ρ s σ H Q t hp p n => tp_str ⟨upd_same, kvs.map fun p => (Sum.inr p.1, .str p.2), by rw [List.map_map]; rfl, by rw [List.length_map]; exact h15, ?_⟩⟩
  have nd : ((([] : List (Key × V)).map (·.1)) ++ (kvs.map fun p => ((Sum.inr p.1 : Key), V.str p.2)).map (·.1)).Nodup := by
    have hn : (kvs.map (·.1)).Nodup := of_decide_eq_true hn
    rw [List.map_nil, List.nil_append, List.map_map]
    have : ((fun (x : Key × V) => x.1) ∘ fun (p : Str × Str) => ((Sum.inr p.1 : Key), V.str p.2)) = Sum.inr ∘ (·.1) := rfl
    rw [this, ← List.map_map]
    exact hn.map (f := Sum.inr) fun a b h e => h (Sum.inr.inj e)
  rw [merge_new nd, List.nil_append, upd_upd]
  obtain ⟨t1, k1, nw⟩ := t.laid (o := .dK (kvs.map fun p => ((Sum.inr p.1 : Key), V.str p.2))) n
  refine hp p _ ρ t1 k1 (List.prefix_refl _) nw (.dic upd_same (by rw [List.map_map, List.map_map]; rfl) (reps_txts kvs))
/-! ### sorted of at most two texts -/
end
def sortS2 : List D → Option (List D)
  | [.lst []] => some []
  | [.lst [.str a]] => some [.str a]
  | [.lst [.str a, .str b]] => if sortedS [a, b] = true ∧ sortedS [b, a] = false then some [.str a, .str b] else if sortedS [b, a] = true ∧ sortedS [a, b] = false then some [.str b, .str a] else none
  | _ => none
section
variable {G : Gc}
theorem perm1 {α : Type} {ys : List α} {a : α} (h : ys.Perm [a]) : ys = [a] := by
  have hl := h.length_eq
  match ys, hl with
  | [b], _ => rw [show b = a by simpa using h.mem_iff (a := b)]
theorem perm2 {α : Type} {ys : List α} {a b : α} (h : ys.Perm [a, b]) : ys = [a, b] ∨ ys = [b, a] := by
  have hl := h.length_eq
  match ys, hl with
  | [c, d], _ =>
    have hc := (h.mem_iff (a := c)).mp (by simp)
    rcases List.mem_cons.mp hc with rfl | hc
    · have := perm1 ((List.perm_cons c).mp h)
      rw [this]; exact .inl rfl
    · have : c = b := by simpa using hc
      subst this
      have := perm1 ((List.perm_cons c).mp (h.trans (List.Perm.swap c a [])))
      rw [this]; exact .inr rfl
theorem reps_sv {W : Addr → Prop} {ρ : List Addr} {H : Hp} : ∀ {ws : List Str} {vs : List V}, Reps G W ρ H vs (ws.map .str) → vs = ws.map V.str
  | [], _, r => by cases r; rfl
  | w :: r2, _, r => by
    cases r with
    | cons r3 t => rw [List.map_cons, ← reps_sv t, br_str (.inl r3)]
theorem reps_sm {W : Addr → Prop} {ρ : List Addr} {H : Hp} : ∀ (rs : List Str), Reps G W ρ H (rs.map V.str) (rs.map D.str)
  | [] => .nil
  | _ :: r => .cons .str (reps_sm r)
theorem sp_sort2 : SpCN G (rSortedS G.K) sortS2 := by
  intro W ρ H xs ds es Q tk b e q
  have key : ∀ (ws : List Str) (rs : List Str), ds = [.lst (ws.map .str)] → ws.length < 64 → es = rs.map .str → (∀ ys : List Str, ys.Perm ws → sortedS ys = true → ys = rs) → rSortedS G.K xs H Q := by
    intro ws rs hd hl he hu
    subst hd he
    obtain ⟨x, rfl, b1⟩ := brs1 b
    obtain ⟨a, vs, rfl, h, r⟩ := br_lst b1
    have hv := reps_sv r
    refine ⟨a, ws, rfl, .inl (.inl (by rw [← hv]; exact h)), hl, fun ys p hp hs n => ?_⟩
    rw [hu ys hp hs]
    exact q p _ n (reps_sm rs)
  match ds, e with
  | [.lst []], e => cases e; exact key [] [] rfl (by decide) rfl fun ys hp _ => List.perm_nil.mp hp
  | [.lst [.str a]], e => cases e; exact key [a] [a] rfl (by simp) rfl fun ys hp _ => perm1 hp
  | [.lst [.str a, .str c]], e =>
    have e : (if sortedS [a, c] = true ∧ sortedS [c, a] = false then some [D.str a, .str c] else if sortedS [c, a] = true ∧ sortedS [a, c] = false then some [D.str c, .str a] else none) = some es := e
    by_cases h1 : sortedS [a, c] = true ∧ sortedS [c, a] = false
    · rw [if_pos h1] at e
      cases e
      refine key [a, c] [a, c] rfl (by simp) rfl fun ys hp hs => ?_
      rcases perm2 hp with rfl | rfl
      · rfl
      · rw [h1.2] at hs; cases hs
    · rw [if_neg h1] at e
      by_cases h2 : sortedS [c, a] = true ∧ sortedS [a, c] = false
      · rw [if_pos h2] at e
        cases e
        refine key [a, c] [c, a] rfl (by simp) rfl fun ys hp hs => ?_
        rcases perm2 hp with rfl | rfl
        · rw [h2.2] at hs; cases hs
        · rfl
      · rw [if_neg h2] at e; cases e
end
end Mi

namespace Mi
open PySem PySem.Spec PyProof.Rows L2
/-! ### a == b, a != b: a of an own class with __eq__, b of any class -/
theorem nf_bi {K : PySem.W.Frag} {C : Addr} {s : String} {l : List Value} (e : fastBuiltinMro s = some l) (h : (l.all fun v => match v with | .type _ => true | _ => false) = true) : PySem.W.notFirst K C (.type s) = true := by
  have : l.contains (Value.ref C) = false := by
    rw [Bool.eq_false_iff]
    intro z
    rw [List.contains_iff_exists_mem_beq] at z
    obtain ⟨v, hv, z⟩ := z
    have h1 := List.all_eq_true.mp h v hv
    have := eq_of_beq z
    subst this
    cases h1
  show (_ || PySem.W.subIn K (.type s) (.ref C) == some false) = true
  have e2 : PySem.W.subIn K (.type s) (.ref C) = some false := by
    show (fastBuiltinMro s).map _ = _
    rw [e]
    show some (l.contains (Value.ref C)) = _
    rw [this]
  rw [e2]
  simp
def othB : String → Bool := fun s => s == "NoneType" || s == "bool" || s == "int" || s == "str" || s == "tuple" || s == "list" || s == "dict"
theorem othB_ok {K : PySem.W.Frag} {C : Addr} {s : String} (h : othB s = true) : PySem.W.notFirst K C (.type s) = true := by
  simp only [othB, Bool.or_eq_true, beq_iff_eq] at h
  rcases h with (((((h | h) | h) | h) | h) | h) | h <;> (subst h; exact nf_bi (by rfl) (by decide +kernel))
theorem othB_sub {K : PySem.W.Frag} {C : Addr} {s : String} (h : othB s = true) : PySem.W.subIn K (.type s) (.ref C) = some false := by
  have := othB_ok (K := K) (C := C) h
  rcases Bool.or_eq_true_iff.mp this with e | e
  · exact absurd (eq_of_beq e) (fun z => nomatch z)
  · exact eq_of_beq e
theorem nf_sub {K : PySem.W.Frag} {C C2 : Addr} (h : PySem.W.subIn K (.ref C2) (.ref C) = some false) : PySem.W.notFirst K C (.ref C2) = true := by
  show (_ || (PySem.W.subIn K (.ref C2) (.ref C) == some false)) = true
  rw [h]; simp
theorem kit_no {K : PySem.W.Frag} {C : Addr} {t : Value} (h1 : PySem.W.isClsIn K C = true) (h2 : PySem.W.typeIn K (.ref C) = some (.type "type")) (h3 : PySem.W.subIn K t (.ref C) = some false) (hn : t ≠ .ref C) : PySem.W.kitOne K t (.ref C) = some false := by
  unfold PySem.W.kitOne
  rw [if_neg (by simpa using hn)]
  show (if _ then _ else _) = _
  refine (if_pos ?_).trans h3
  rw [h2]
  have : (PySem.W.clsIn K C).isSome = true := h1
  rw [this]
  simp
theorem kit_bi {K : PySem.W.Frag} {C : Addr} {s : String} (h1 : PySem.W.isClsIn K C = true) (h2 : PySem.W.typeIn K (.ref C) = some (.type "type")) (h : othB s = true) : PySem.W.kitOne K (.type s) (.ref C) = some false :=
  kit_no h1 h2 (othB_sub h) fun z => nomatch z
theorem kit_cl {K : PySem.W.Frag} {C C2 : Addr} (h1 : PySem.W.isClsIn K C = true) (h2 : PySem.W.typeIn K (.ref C) = some (.type "type")) (h3 : PySem.W.subIn K (.ref C2) (.ref C) = some false) (h4 : PySem.W.subIn K (.ref C) (.ref C) = some true) : PySem.W.kitOne K (.ref C2) (.ref C) = some false :=
  kit_no h1 h2 h3 fun z => by cases z; rw [h3] at h4; cases h4
def rO (K : PySem.W.Frag) (neg : Bool) (C : Addr) (sp : Sp) : R2 := fun x y H2 Q => ∃ a dx fs t, x = .ref a ∧ H2 a = some (.ins C dx fs) ∧ TyX K H2 y t ∧ PySem.W.notFirst K C t = true ∧
  sp [x, y] H2 (fun v H3 => ∃ k, v = .bl k ∧ Q (.bl (if neg then !k else k)) H3) (fun _ _ _ => False)
section
variable {X : Cx} {ca : Nat → Addr} {W : WX} {e o a b : Expr} {ta tb te to : TE} {m mo ma mb : M Loc} {pos p apos cpos : Pos} {c k : Nat} {f : Addr} {fd : FuncData} {ps : List Str} {g : List D → M D} {sp : Sp}
theorem op_neO2 {C : Addr} (q : EqOwn X.K C f) (F : FnOk X.prog X.w X.K X.mg X.base (L2.CX X.prog X.w) k f fd ps sp) (hr : Room (k + 1) X.A) (hbn : Binds X.K fd ps []) : OpR X (compareOp .NotEq) (rO X.K true C sp) := by
  intro pins s2 σ H2 x y v u Q I2 r1 r2 ⟨a, dx, fs, t, ex, ea, ty, nf, q2⟩
  subst ex
  obtain rfl : v = Value.ref a := r1
  obtain ⟨mA, J, _⟩ := ins_get I2.hok ea
  obtain ⟨od, J, _⟩ := J.look
  obtain ⟨P, kx, hP, _⟩ := kit_of I2 r2 ty
  refine PySem.W.ne_own (tb := t) I2.kIn J (kx.ty _ _ I2.kIn hP) nf q.ne q.eq q.fn q.ob (hu_of hr) ?_
  have e0 : Env0 X.prog X.w X.K X.mg X.base X.A.in1 X.stack s2 H2 := by
    have e := I2.env0
    exact ⟨e.frames, e.mod, e.bs, e.bsz, e.funs, e.frf, e.hok, e.bare⟩
  have hl := F.len _ _ _ _ q2
  have r2 : Vals [V.ref a, y] [Value.ref a, u] := .cons rfl (.cons r2 .nil)
  refine wpAny_call (codeAny_mono (F.run X.A.in1 X.stack s2 H2 ⟨[.ref a, u], []⟩ [.ref a, u] [.ref a, y] _ (fun _ _ _ => False) hr.in1 e0 (by
    have := hbn s2 [.ref a, u] I2.kIn (by simpa using hl)
    simpa using this) r2 q2) fun r s' hq => ?_)
  cases r with
  | error e =>
    obtain ⟨_, _, _, _, _, _, _, _, _, _, _, _, z⟩ := hq
    exact z.elim
  | ok fl =>
    cases fl with
    | ret w =>
      obtain ⟨z, H', I', rz, k, ez, qq⟩ := I2.after hq
      subst ez
      cases rz
      exact ⟨k, rfl, .bl (!k), H', I', rfl, qq⟩
    | next => exact False.elim hq
    | brk => exact False.elim hq
    | cont => exact False.elim hq
theorem op_eqO2 {C : Addr} (q : EqOwn X.K C f) (F : FnOk X.prog X.w X.K X.mg X.base (L2.CX X.prog X.w) k f fd ps sp) (hr : Room (k + 1) X.A) (hbn : Binds X.K fd ps []) : OpR X (compareOp .Eq) (rO X.K false C sp) := by
  intro pins s2 σ H2 x y v u Q I2 r1 r2 ⟨a, dx, fs, t, ex, ea, ty, nf, q2⟩
  subst ex
  obtain rfl : v = Value.ref a := r1
  obtain ⟨mA, J, _⟩ := ins_get I2.hok ea
  obtain ⟨od, J, _⟩ := J.look
  obtain ⟨P, kx, hP, _⟩ := kit_of I2 r2 ty
  obtain ⟨m, hF⟩ := I2.fr
  have hr : Room k X.A := hr.mono (Nat.le_succ k)
  show wpAny (model X.prog X.w) X.A (richCompare .Eq _ u) _ _ s2
  refine PySem.W.cmp_K (op := .Eq) (tb := t) hr.units0 hF I2.ok.mod.kin J (kx.ty _ _ I2.kIn hP) nf q.eq q.fn ?_
  have e0 : Env0 X.prog X.w X.K X.mg X.base X.A X.stack s2 H2 := by
    have e := I2.env0
    exact ⟨e.frames, e.mod, e.bs, e.bsz, e.funs, e.frf, e.hok, e.bare⟩
  have hl := F.len _ _ _ _ q2
  have r2 : Vals [V.ref a, y] [Value.ref a, u] := .cons rfl (.cons r2 .nil)
  refine wpAny_call (codeAny_mono (F.run X.A X.stack s2 H2 ⟨[.ref a, u], []⟩ [.ref a, u] [.ref a, y] _ (fun _ _ _ => False) hr e0 (by
    have := hbn s2 [.ref a, u] I2.kIn (by simpa using hl)
    simpa using this) r2 q2) fun r s' hq => ?_)
  cases r with
  | error e =>
    obtain ⟨_, _, _, _, _, _, _, _, _, _, _, _, z⟩ := hq
    exact z.elim
  | ok fl =>
    cases fl with
    | ret w =>
      obtain ⟨z, H', I', rz, k, ez, qq⟩ := I2.after hq
      subst ez
      cases rz
      exact ⟨.bl k, H', I', rfl, qq⟩
    | next => exact False.elim hq
    | brk => exact False.elim hq
    | cont => exact False.elim hq
def ngL (neg : Bool) (l : Loc) : M Loc := fun s => match l with | .val (.bl k) => .ok (.val (.bl (if neg then !k else k))) s | _ => .stuck
def eO (neg : Bool) (c : Nat) (oth : String ⊕ Nat → Bool) (g : List D → M D) (ma mb : M Loc) : M Loc := bnd ma fun x => bnd mb fun y => bnd (toVal x) fun dx => bnd (toVal y) fun dy => fun s =>
  if (isCls c dx s && (tyN dy).any oth) = true then (callP g [dx, dy] s).bind (ngL neg) else .stuck
theorem ev_O {neg : Bool} {oth : String ⊕ Nat → Bool} (ho : ∀ k, oth k = true → (∀ c', k = .inr c' → ClF X.K (ca c')) ∧ PySem.W.notFirst X.K (ca c) (tyT ca k) = true) (ha : Ev ⟨X.K, ca, X.w⟩ W (LRep ⟨X.K, ca, X.w⟩) ta ma) (hb : Ev ⟨X.K, ca, X.w⟩ W (LRep ⟨X.K, ca, X.w⟩) tb mb) : Ev ⟨X.K, ca, X.w⟩ W (LRep ⟨X.K, ca, X.w⟩) (tOp (rO X.K neg (ca c) (spM ⟨X.K, ca, X.w⟩ 2 g)) ta tb) (eO neg c oth g ma mb) := by
  intro S0 ρ s σ H Q t hp
  refine ha _ _ _ _ _ _ t (post_bind hp fun l s1 _ v H1 ρ1 t1 n1 r1 hp1 => ?_)
  refine hb _ _ _ _ _ _ t1 (post_bind hp1 fun l2 s2 _ u H2 ρ2 t2 n2 r2 hp2 => ?_)
  have r1 := stab_L r1 n2.k n2.p
  refine post_toVal t2 r1 hp2 fun dx s3 t3 n3 r3 hp3 => ?_
  have r2' : LRep ⟨X.K, ca, X.w⟩ (Wa S0 ρ2 s3.e σ) ρ2 H2 σ u l2 := stab_L r2 n3.k n3.p
  refine post_toVal t3 r2' hp3 fun dy s4 t4 n4 r4 hp4 => ?_
  have r3 := r3.mono n4.k n4.p
  have hp4 : Post ⟨X.K, ca, X.w⟩ W (LRep ⟨X.K, ca, X.w⟩) S0 ρ2 s4 σ H2 (if (isCls c dx s4 && (tyN dy).any oth) = true then (callP g [dx, dy] s4).bind (ngL neg) else .stuck) Q := hp4
  by_cases hc : (isCls c dx s4 && (tyN dy).any oth) = true
  · rw [if_pos hc] at hp4
    rw [Bool.and_eq_true] at hc
    obtain ⟨a, dx', fs, rfl, h⟩ := isCls_at t4 r3 hc.1
    obtain ⟨k, ek, ok⟩ : ∃ k, tyN dy = some k ∧ oth k = true := by
      cases z : tyN dy with
      | none => rw [z] at hc; cases hc.2
      | some k => rw [z] at hc; exact ⟨k, rfl, hc.2⟩
    obtain ⟨cf, nf⟩ := ho k ok
    refine ⟨a, dx', fs, tyT ca k, rfl, h, ty_br (.inl r4) ek cf, nf, ?_⟩
    refine call_post (X := W0) (n := 2) rfl t4 (.cons r3 (.cons r4 .nil)) ?_
    show Post ⟨X.K, ca, X.w⟩ W0 (LRep ⟨X.K, ca, X.w⟩) S0 ρ2 s4 σ H2 (callF g [dx, dy] s4) _
    unfold callF
    unfold callP at hp4
    cases e : g [dx, dy] ⟨[], s4.t⟩ with
    | ok d' s' =>
      simp only [e] at hp4 ⊢
      intro v H' ρ' t' n' r'
      have hp5 := hp4
      have hp5 : Post ⟨X.K, ca, X.w⟩ W (LRep ⟨X.K, ca, X.w⟩) S0 ρ2 s4 σ H2 (ngL neg (.val d') ⟨s4.e, s'.t⟩) Q := hp5
      cases d' with
      | bl k =>
        obtain rfl := br_bl (.inl (show Rep ⟨X.K, ca, X.w⟩ _ _ _ v (.bl k) from r'))
        exact ⟨k, rfl, hp5 _ H' ρ' t' n' .bl⟩
      | _ => exact hp5.elim
    | exc x s' => simp only [e] at hp4; exact hp4.elim
    | stuck => simp only [e] at hp4; exact hp4.elim
  · rw [if_neg hc] at hp4; exact hp4.elim
section
variable {oth : String ⊕ Nat → Bool}
theorem je_eqO2 (q : EqOwn X.K (ca c) f) (ho : ∀ k, oth k = true → (∀ c', k = .inr c' → ClF X.K (ca c')) ∧ PySem.W.notFirst X.K (ca c) (tyT ca k) = true) (F : FnOk X.prog X.w X.K X.mg X.base (L2.CX X.prog X.w) k f fd ps (spM ⟨X.K, ca, X.w⟩ 2 g)) (hr : Room (k + 1) X.A) (hbn : Binds X.K fd ps []) (ha : JE X ca W a ta ma) (hb : JE X ca W b tb mb) (hm : behindInMarks .Eq b = false) :
    JE X ca W (.Compare a [.Eq] [b] pos) (tOp (rO X.K false (ca c) (spM ⟨X.K, ca, X.w⟩ 2 g)) ta tb) (eO false c oth g ma mb) := ⟨pe_cmpR (op_eqO2 q F hr hbn) ha.pe hb.pe hm, ev_O ho ha.ev hb.ev⟩
theorem jt_eqO2 (q : EqOwn X.K (ca c) f) (ho : ∀ k, oth k = true → (∀ c', k = .inr c' → ClF X.K (ca c')) ∧ PySem.W.notFirst X.K (ca c) (tyT ca k) = true) (F : FnOk X.prog X.w X.K X.mg X.base (L2.CX X.prog X.w) k f fd ps (spM ⟨X.K, ca, X.w⟩ 2 g)) (hr : Room (k + 1) X.A) (hbn : Binds X.K fd ps []) (ha : JE X ca W a ta ma) (hb : JE X ca W b tb mb) (hm : behindInMarks .Eq b = false) :
    JT X ca W (.Compare a [.Eq] [b] pos) (tTest (tOp (rO X.K false (ca c) (spM ⟨X.K, ca, X.w⟩ 2 g)) ta tb)) (tstB (eO false c oth g ma mb)) := ⟨pt_cmpR (op_eqO2 q F hr hbn) ha.pe hb.pe hm, ev_tstB (ev_O ho ha.ev hb.ev)⟩
theorem je_neO2 (q : EqOwn X.K (ca c) f) (ho : ∀ k, oth k = true → (∀ c', k = .inr c' → ClF X.K (ca c')) ∧ PySem.W.notFirst X.K (ca c) (tyT ca k) = true) (F : FnOk X.prog X.w X.K X.mg X.base (L2.CX X.prog X.w) k f fd ps (spM ⟨X.K, ca, X.w⟩ 2 g)) (hr : Room (k + 1) X.A) (hbn : Binds X.K fd ps []) (ha : JE X ca W a ta ma) (hb : JE X ca W b tb mb) (hm : behindInMarks .NotEq b = false) :
    JE X ca W (.Compare a [.NotEq] [b] pos) (tOp (rO X.K true (ca c) (spM ⟨X.K, ca, X.w⟩ 2 g)) ta tb) (eO true c oth g ma mb) := ⟨pe_cmpR (op_neO2 q F hr hbn) ha.pe hb.pe hm, ev_O ho ha.ev hb.ev⟩
theorem jt_neO2 (q : EqOwn X.K (ca c) f) (ho : ∀ k, oth k = true → (∀ c', k = .inr c' → ClF X.K (ca c')) ∧ PySem.W.notFirst X.K (ca c) (tyT ca k) = true) (F : FnOk X.prog X.w X.K X.mg X.base (L2.CX X.prog X.w) k f fd ps (spM ⟨X.K, ca, X.w⟩ 2 g)) (hr : Room (k + 1) X.A) (hbn : Binds X.K fd ps []) (ha : JE X ca W a ta ma) (hb : JE X ca W b tb mb) (hm : behindInMarks .NotEq b = false) :
    JT X ca W (.Compare a [.NotEq] [b] pos) (tTest (tOp (rO X.K true (ca c) (spM ⟨X.K, ca, X.w⟩ 2 g)) ta tb)) (tstB (eO true c oth g ma mb)) := ⟨pt_cmpR (op_neO2 q F hr hbn) ha.pe hb.pe hm, ev_tstB (ev_O ho ha.ev hb.ev)⟩
end
end
/-! ### dict(a list of pairs), the keys unlike -/
def pairD : D → Option (Key × D)
  | .tup [.int i, d] => some (.inl i, d)
  | .tup [.str s, d] => some (.inr s, d)
  | _ => none
def pairsD : List D → Option (List (Key × D))
  | [] => some []
  | x :: xs => (pairD x).bind fun p => (pairsD xs).map (p :: ·)
def dictPD : List D → Option (List (Key × D))
  | [.lst ds] => (pairsD ds).bind fun ps => if (ps.map (·.1)).Nodup then some ps else none
  | _ => none
def SpCK (G : Gc) (r : List V → Hp → VK → Prop) (f : List D → Option (List (Key × D))) : Prop := ∀ (W : Addr → Prop) (ρ : List Addr) (H : Hp) (xs : List V) (ds : List D) (es : List (Key × D)) (Q : VK), Tk W H → BRs G W ρ H xs ds → f ds = some es →
  (∀ p vs, H p = none → vs.map (·.1) = es.map (·.1) → Reps G W ρ H (vs.map (·.2)) (es.map (·.2)) → Q (.ref p) (upd H p (.dK vs))) → r xs H Q
def nCK (f : List D → Option (List (Key × D))) (ma : M (List Loc)) : M D := bnd ma fun ls => bnd (conts ls) fun ds => fun s => match f ds with | some es => .ok (.dic es) s | none => .stuck
section
variable {G : Gc} {W : WX} {X : Cx} {ca : Nat → Addr} {e : Expr} {es : List Expr} {tA : TA} {mA : M (List Loc)} {pos p : Pos}
theorem ev_nCK {r : List V → Hp → VK → Prop} {f : List D → Option (List (Key × D))} (sp : SpCK G r f) (ha : Ev G W (LReps G) tA mA) : EvN G W (tCB r tA) (nCK f mA) := by
  intro S0 ρ s σ H Q t hp
  refine ha _ _ _ _ _ _ t ((wN Q).bind hp fun ls s1 _ vs H1 ρ1 t1 n1 r1 hp1 => (wN Q).conts t1 r1 hp1 fun ds bs hp2 => ?_)
  cases e : f ds with
  | none => simp only [e] at hp2; exact hp2.elim
  | some es =>
    simp only [e] at hp2
    refine sp _ _ _ _ _ _ _ t1.tk bs e fun p us n k r => ?_
    obtain ⟨t2, k2, nw⟩ := t1.laid (o := .dK us) n
    exact hp2 p _ ρ1 t2 k2 (List.prefix_refl _) nw (.dic upd_same k (r.mono k2 (List.prefix_refl _)))
theorem jn_callTyK {x : Str} {T : String} {r : List V → Hp → VK → Prop} {f : List D → Option (List (Key × D))} (hc : CallR X (.type T) r) (sp : SpCK ⟨X.K, ca, X.w⟩ r f) (hg : Gl X x) (hm : X.mg x = none) (hv : bootBuiltins x = some (.type T)) (ha : JA X ca W (e :: es) tA mA) (hn : x ≠ "__name__" := by decide) (hdb : (x == ("__debug__" : Str)) = false := by decide)
    (he : starEach (e :: es) X.env = (false, eval e X.env) :: starEach es X.env := by rfl) (hpl : (backTo pos (starEach es X.env)).any (·.1) = false := by rfl) : JN X ca W (.Call (.Name x p) (e :: es) [] pos) (tCB r tA) (nCK f mA) :=
  ⟨pe_callTy hc hg hm hv ha.pa hn hdb he hpl, ev_nCK sp ha.ev⟩
def rDictP (K : PySem.W.Frag) : List V → Hp → VK → Prop := fun xs H Q => ∃ (a : Addr) (ps : List Addr) (kvs : List (Key × V)), xs = [.ref a] ∧ SqL K H a (ps.map V.ref) ∧ Paired (fun p kv => SqT K H p [kV kv.1, kv.2]) ps kvs ∧
    ∀ p, H p = none → Q (.ref p) (upd H p (.dK (mergeK [] kvs)))
theorem pairs_reps {W : Addr → Prop} {ρ : List Addr} {H : Hp} : ∀ {vs : List V} {ds : List D} {es : List (Key × D)}, Reps G W ρ H vs ds → pairsD ds = some es →
    ∃ (ps : List Addr) (kvs : List (Key × V)), vs = ps.map V.ref ∧ Paired (fun p kv => SqT G.K H p [kV kv.1, kv.2]) ps kvs ∧ kvs.map (·.1) = es.map (·.1) ∧ Reps G W ρ H (kvs.map (·.2)) (es.map (·.2)) := by
  intro vs ds
  induction ds generalizing vs with
  | nil => intro es r h; cases r; cases h; exact ⟨[], [], rfl, .nil, rfl, .nil⟩
  | cons d ds ih =>
    intro es r h
    cases r with
    | cons r1 r2 =>
      obtain ⟨p, e1, h⟩ := Option.bind_eq_some_iff.mp h
      obtain ⟨es', e2, rfl⟩ := Option.map_eq_some_iff.mp h
      obtain ⟨ps, kvs, rfl, pr, hk, hr⟩ := ih r2 e2
      unfold pairD at e1
      split at e1
      · cases e1
        obtain ⟨a, us, rfl, hs, rr, _⟩ := br_tup (.inl r1)
        cases rr with
        | cons q1 q2 => cases q2 with
          | cons q2 q3 =>
            cases q3
            obtain rfl := br_int (.inl q1)
            exact ⟨a :: ps, (.inl _, _) :: kvs, rfl, .cons hs pr, by simp [hk], .cons q2 hr⟩
      · cases e1
        obtain ⟨a, us, rfl, hs, rr, _⟩ := br_tup (.inl r1)
        cases rr with
        | cons q1 q2 => cases q2 with
          | cons q2 q3 =>
            cases q3
            obtain rfl := br_str (.inl q1)
            exact ⟨a :: ps, (.inr _, _) :: kvs, rfl, .cons hs pr, by simp [hk], .cons q2 hr⟩
      · cases e1
theorem sp_dictP : SpCK G (rDictP G.K) dictPD := by
  intro W ρ H xs ds es Q tk b e q
  match ds, e with
  | [.lst ds], e =>
    obtain ⟨x, rfl, b1⟩ := brs1 b
    obtain ⟨a, vs, rfl, h, r⟩ := br_lst b1
    obtain ⟨ps, e1, e⟩ := Option.bind_eq_some_iff.mp e
    by_cases hn : (ps.map (·.1)).Nodup
    · rw [if_pos hn] at e
      cases e
      obtain ⟨as, kvs, rfl, pr, hk, hr⟩ := pairs_reps r e1
      refine ⟨a, as, kvs, rfl, .inl (.inl h), pr, fun p n => ?_⟩
      have nd : ((([] : List (Key × V)).map (·.1)) ++ kvs.map (·.1)).Nodup := by rw [List.map_nil, List.nil_append, hk]; exact hn
      rw [merge_new nd, List.nil_append]
      exact q p kvs n hk hr
    · rw [if_neg hn] at e; cases e
end
end Mi


namespace Mi
open PySem PySem.Spec PyProof.Rows L2
def KEPT_WORDS_ws : List Str := [("x" : Str), ("y" : Str), ("true" : Str), ("not" : Str), ("and" : Str), ("or" : Str), ("each" : Str), ("some" : Str)]
def oth_Tongue : String ⊕ Nat → Bool := fun k => match k with | .inl s => othB s | .inr j => (j == 0 || j == 1)
theorem oth_Tongue_ok {K : PySem.W.Frag} {ca : Nat → Addr} (f0 : ClF K (ca 0)) (f1 : ClF K (ca 1)) (n1 : PySem.W.subIn K (.ref (ca 1)) (.ref (ca 0)) = some false) : ∀ k, oth_Tongue k = true → (∀ c', k = .inr c' → ClF K (ca c')) ∧ PySem.W.notFirst K (ca 0) (tyT ca k) = true := by
  intro k h
  cases k with
  | inl s => exact ⟨(fun c z => nomatch z), othB_ok h⟩
  | inr j =>
    have h : (j == 0 || j == 1) = true := h
    simp only [Bool.or_eq_true, beq_iff_eq] at h
    rcases h with h | h
    · subst h; exact ⟨(fun c z => by cases z; exact f0), by show PySem.W.notFirst K (ca 0) (.ref (ca 0)) = true; simp [PySem.W.notFirst]⟩
    · subst h; exact ⟨(fun c z => by cases z; exact f1), nf_sub n1⟩
def isa_own_Tongue : String ⊕ Nat → Option Bool := fun k => match k with | .inl s => (if othB s = true then some false else none) | .inr 0 => some true | .inr 1 => some false | .inr _ => none
theorem isa_own_Tongue_ok {K : PySem.W.Frag} {ca : Nat → Addr} (f0 : ClF K (ca 0)) (f1 : ClF K (ca 1)) (z1 : PySem.W.isClsIn K (ca 0) = true) (z2 : PySem.W.typeIn K (.ref (ca 0)) = some (.type "type")) (z3 : PySem.W.subIn K (.ref (ca 0)) (.ref (ca 0)) = some true) (n1 : PySem.W.subIn K (.ref (ca 1)) (.ref (ca 0)) = some false) : ∀ k b, isa_own_Tongue k = some b → (∀ c, k = .inr c → ClF K (ca c)) ∧ PySem.W.kitOne K (tyT ca k) (.ref (ca 0)) = some b := by
  intro k b h
  cases k with
  | inl s =>
    have h : (if othB s = true then some false else none) = some b := h
    by_cases e : othB s = true
    · rw [if_pos e] at h; cases h; exact ⟨(fun c z => nomatch z), kit_bi z1 z2 e⟩
    · rw [if_neg e] at h; cases h
  | inr j =>
    match j, h with
    | 0, h => cases h; exact ⟨(fun c e => by cases e; exact f0), if_pos (by simp [tyT])⟩
    | 1, h => cases h; exact ⟨(fun c e => by cases e; exact f1), kit_cl z1 z2 n1 z3⟩
    | m + 2, h => cases h

def isa_bool : String ⊕ Nat → Option Bool := fun k => match k with | .inl s => ([("NoneType", false), ("bool", true), ("int", false), ("str", false), ("tuple", false), ("list", false), ("dict", false)] : List (String × Bool)).lookup s | .inr _ => none
theorem isa_bool_ok {K : PySem.W.Frag} {ca : Nat → Addr} : ∀ k b, isa_bool k = some b → (∀ c, k = .inr c → ClF K (ca c)) ∧ PySem.W.kitOne K (tyT ca k) (.type "bool") = some b := by
  intro k b h
  cases k with
  | inr c => cases h
  | inl s =>
    have nr : ∀ c, (Sum.inl s : String ⊕ Nat) = .inr c → ClF K (ca c) := fun c z => nomatch z
    simp only [isa_bool, List.lookup] at h
    split at h
    · rename_i z; have e := eq_of_beq z; subst e; cases h; exact ⟨nr, rfl⟩
    · split at h
      · rename_i z; have e := eq_of_beq z; subst e; cases h; exact ⟨nr, rfl⟩
      · split at h
        · rename_i z; have e := eq_of_beq z; subst e; cases h; exact ⟨nr, rfl⟩
        · split at h
          · rename_i z; have e := eq_of_beq z; subst e; cases h; exact ⟨nr, rfl⟩
          · split at h
            · rename_i z; have e := eq_of_beq z; subst e; cases h; exact ⟨nr, rfl⟩
            · split at h
              · rename_i z; have e := eq_of_beq z; subst e; cases h; exact ⟨nr, rfl⟩
              · split at h
                · rename_i z; have e := eq_of_beq z; subst e; cases h; exact ⟨nr, rfl⟩
                · cases h

def isa_dict : String ⊕ Nat → Option Bool := fun k => match k with | .inl s => ([("NoneType", false), ("bool", false), ("int", false), ("str", false), ("tuple", false), ("list", false), ("dict", true)] : List (String × Bool)).lookup s | .inr _ => none
theorem isa_dict_ok {K : PySem.W.Frag} {ca : Nat → Addr} : ∀ k b, isa_dict k = some b → (∀ c, k = .inr c → ClF K (ca c)) ∧ PySem.W.kitOne K (tyT ca k) (.type "dict") = some b := by
  intro k b h
  cases k with
  | inr c => cases h
  | inl s =>
    have nr : ∀ c, (Sum.inl s : String ⊕ Nat) = .inr c → ClF K (ca c) := fun c z => nomatch z
    simp only [isa_dict, List.lookup] at h
    split at h
    · rename_i z; have e := eq_of_beq z; subst e; cases h; exact ⟨nr, rfl⟩
    · split at h
      · rename_i z; have e := eq_of_beq z; subst e; cases h; exact ⟨nr, rfl⟩
      · split at h
        · rename_i z; have e := eq_of_beq z; subst e; cases h; exact ⟨nr, rfl⟩
        · split at h
          · rename_i z; have e := eq_of_beq z; subst e; cases h; exact ⟨nr, rfl⟩
          · split at h
            · rename_i z; have e := eq_of_beq z; subst e; cases h; exact ⟨nr, rfl⟩
            · split at h
              · rename_i z; have e := eq_of_beq z; subst e; cases h; exact ⟨nr, rfl⟩
              · split at h
                · rename_i z; have e := eq_of_beq z; subst e; cases h; exact ⟨nr, rfl⟩
                · cases h

def isa_int : String ⊕ Nat → Option Bool := fun k => match k with | .inl s => ([("NoneType", false), ("bool", true), ("int", true), ("str", false), ("tuple", false), ("list", false), ("dict", false)] : List (String × Bool)).lookup s | .inr _ => none
theorem isa_int_ok {K : PySem.W.Frag} {ca : Nat → Addr} : ∀ k b, isa_int k = some b → (∀ c, k = .inr c → ClF K (ca c)) ∧ PySem.W.kitOne K (tyT ca k) (.type "int") = some b := by
  intro k b h
  cases k with
  | inr c => cases h
  | inl s =>
    have nr : ∀ c, (Sum.inl s : String ⊕ Nat) = .inr c → ClF K (ca c) := fun c z => nomatch z
    simp only [isa_int, List.lookup] at h
    split at h
    · rename_i z; have e := eq_of_beq z; subst e; cases h; exact ⟨nr, rfl⟩
    · split at h
      · rename_i z; have e := eq_of_beq z; subst e; cases h; exact ⟨nr, rfl⟩
      · split at h
        · rename_i z; have e := eq_of_beq z; subst e; cases h; exact ⟨nr, rfl⟩
        · split at h
          · rename_i z; have e := eq_of_beq z; subst e; cases h; exact ⟨nr, rfl⟩
          · split at h
            · rename_i z; have e := eq_of_beq z; subst e; cases h; exact ⟨nr, rfl⟩
            · split at h
              · rename_i z; have e := eq_of_beq z; subst e; cases h; exact ⟨nr, rfl⟩
              · split at h
                · rename_i z; have e := eq_of_beq z; subst e; cases h; exact ⟨nr, rfl⟩
                · cases h

def isa_list_tuple : String ⊕ Nat → Option Bool := fun k => match k with | .inl s => ([("NoneType", false), ("bool", false), ("int", false), ("str", false), ("tuple", true), ("list", true), ("dict", false)] : List (String × Bool)).lookup s | .inr _ => none
theorem isa_list_tuple_ok {K : PySem.W.Frag} {ca : Nat → Addr} : ∀ k b, isa_list_tuple k = some b → (∀ c, k = .inr c → ClF K (ca c)) ∧ PySem.W.kitAny K (tyT ca k) [.type "list", .type "tuple"] = some b := by
  intro k b h
  cases k with
  | inr c => cases h
  | inl s =>
    have nr : ∀ c, (Sum.inl s : String ⊕ Nat) = .inr c → ClF K (ca c) := fun c z => nomatch z
    simp only [isa_list_tuple, List.lookup] at h
    split at h
    · rename_i z; have e := eq_of_beq z; subst e; cases h; exact ⟨nr, rfl⟩
    · split at h
      · rename_i z; have e := eq_of_beq z; subst e; cases h; exact ⟨nr, rfl⟩
      · split at h
        · rename_i z; have e := eq_of_beq z; subst e; cases h; exact ⟨nr, rfl⟩
        · split at h
          · rename_i z; have e := eq_of_beq z; subst e; cases h; exact ⟨nr, rfl⟩
          · split at h
            · rename_i z; have e := eq_of_beq z; subst e; cases h; exact ⟨nr, rfl⟩
            · split at h
              · rename_i z; have e := eq_of_beq z; subst e; cases h; exact ⟨nr, rfl⟩
              · split at h
                · rename_i z; have e := eq_of_beq z; subst e; cases h; exact ⟨nr, rfl⟩
                · cases h

def isa_str : String ⊕ Nat → Option Bool := fun k => match k with | .inl s => ([("NoneType", false), ("bool", false), ("int", false), ("str", true), ("tuple", false), ("list", false), ("dict", false)] : List (String × Bool)).lookup s | .inr _ => none
theorem isa_str_ok {K : PySem.W.Frag} {ca : Nat → Addr} : ∀ k b, isa_str k = some b → (∀ c, k = .inr c → ClF K (ca c)) ∧ PySem.W.kitOne K (tyT ca k) (.type "str") = some b := by
  intro k b h
  cases k with
  | inr c => cases h
  | inl s =>
    have nr : ∀ c, (Sum.inl s : String ⊕ Nat) = .inr c → ClF K (ca c) := fun c z => nomatch z
    simp only [isa_str, List.lookup] at h
    split at h
    · rename_i z; have e := eq_of_beq z; subst e; cases h; exact ⟨nr, rfl⟩
    · split at h
      · rename_i z; have e := eq_of_beq z; subst e; cases h; exact ⟨nr, rfl⟩
      · split at h
        · rename_i z; have e := eq_of_beq z; subst e; cases h; exact ⟨nr, rfl⟩
        · split at h
          · rename_i z; have e := eq_of_beq z; subst e; cases h; exact ⟨nr, rfl⟩
          · split at h
            · rename_i z; have e := eq_of_beq z; subst e; cases h; exact ⟨nr, rfl⟩
            · split at h
              · rename_i z; have e := eq_of_beq z; subst e; cases h; exact ⟨nr, rfl⟩
              · split at h
                · rename_i z; have e := eq_of_beq z; subst e; cases h; exact ⟨nr, rfl⟩
                · cases h

def isa_tuple : String ⊕ Nat → Option Bool := fun k => match k with | .inl s => ([("NoneType", false), ("bool", false), ("int", false), ("str", false), ("tuple", true), ("list", false), ("dict", false)] : List (String × Bool)).lookup s | .inr _ => none
theorem isa_tuple_ok {K : PySem.W.Frag} {ca : Nat → Addr} : ∀ k b, isa_tuple k = some b → (∀ c, k = .inr c → ClF K (ca c)) ∧ PySem.W.kitOne K (tyT ca k) (.type "tuple") = some b := by
  intro k b h
  cases k with
  | inr c => cases h
  | inl s =>
    have nr : ∀ c, (Sum.inl s : String ⊕ Nat) = .inr c → ClF K (ca c) := fun c z => nomatch z
    simp only [isa_tuple, List.lookup] at h
    split at h
    · rename_i z; have e := eq_of_beq z; subst e; cases h; exact ⟨nr, rfl⟩
    · split at h
      · rename_i z; have e := eq_of_beq z; subst e; cases h; exact ⟨nr, rfl⟩
      · split at h
        · rename_i z; have e := eq_of_beq z; subst e; cases h; exact ⟨nr, rfl⟩
        · split at h
          · rename_i z; have e := eq_of_beq z; subst e; cases h; exact ⟨nr, rfl⟩
          · split at h
            · rename_i z; have e := eq_of_beq z; subst e; cases h; exact ⟨nr, rfl⟩
            · split at h
              · rename_i z; have e := eq_of_beq z; subst e; cases h; exact ⟨nr, rfl⟩
              · split at h
                · rename_i z; have e := eq_of_beq z; subst e; cases h; exact ⟨nr, rfl⟩
                · cases h

def b__law_pool : M Fl :=
  (sSeq (sAsg (gN 1) (op2 addD (op2 addD (op2 modD (opC intD (aCons (opC sumD (aCons (eSl (vr 0) pNo (pSo (kk (.int (1 : Int))))) aNil)) aNil)) (kk (.int (1000003 : Int)))) (opC lenD (aCons (vr 0) aNil))) (kk (.int (1 : Int)))))
    (sSeq (sFor (iSeq (eSl (vr 0) pNo (pSo (kk (.int (63 : Int)))))) (gN 2)
    (sAsg (gN 1) (op2 modD (opC intD (aCons (op2 addD (op2 addD (op2 mulD (vr 1) (kk (.int (48271 : Int)))) (op2 modD (opC intD (aCons (vr 2) aNil)) (kk (.int (2147483629 : Int))))) (kk (.int (11 : Int)))) aNil)) (kk (.int (2147483647 : Int))))))
    (sRet (ePtr (nLst (aCons (vr 1) (aCons (kk (.int (0 : Int))) (aCons (ePtr (nLc (iSeq (eSl (vr 0) pNo (pSo (kk (.int (63 : Int)))))) (gN 2) (tstB (op2 (cmpD fun i j => decide (j ≤ i)) (opC absD (aCons (vr 2) aNil)) (op2 powD (kk (.int (10 : Int))) (kk (.int (18 : Int)))))) (opC absD (aCons (vr 2) aNil)) [2])) aNil))))))))
def g__law_pool : List D → M D := runB 3 b__law_pool

def b__law_draw : M Fl :=
  (sSeq (sSub setD (op2 addD (op2 ixD (vr 0) (kk (.int (1 : Int)))) (kk (.int (1 : Int)))) (vr 0) (kk (.int (1 : Int))))
    (sSeq (sAsg (gN 2) (op2 ixD (vr 0) (kk (.int (2 : Int)))))
    (sSeq (sIf (tstB (op2 (cmpD fun i j => decide (j < i)) (opC lenD (aCons (vr 2) aNil)) (kk (.int (0 : Int)))))
    (sSeq (sAsg (gN 4) (op2 modD (opC intD (aCons (op2 ixD (vr 2) (kk (.int (0 : Int)))) aNil)) (vr 1)))
    (sSeq (sSub setD (op2 fdivD (opC intD (aCons (op2 ixD (vr 2) (kk (.int (0 : Int)))) aNil)) (vr 1)) (vr 2) (kk (.int (0 : Int))))
    (sSeq (sIf (tstB (op2 (eqD false) (op2 ixD (vr 2) (kk (.int (0 : Int)))) (kk (.int (0 : Int)))))
    (sExpr (eMu isLst popAtD (vr 2) (aCons (kk (.int (0 : Int))) aNil)))
    sNx)
    (sRet (vr 4)))))
    sNx)
    (sSeq (sAsg (gN 3) (op2 modD (opC intD (aCons (op2 mulD (op2 addD (op2 ixD (vr 0) (kk (.int (0 : Int)))) (op2 mulD (kk (.int (7919 : Int))) (op2 ixD (vr 0) (kk (.int (1 : Int)))))) (kk (.int (48271 : Int)))) aNil)) (kk (.int (2147483647 : Int)))))
    (sSeq (sAsg (gN 3) (op2 modD (opC intD (aCons (op2 mulD (vr 3) (op2 addD (op2 fdivD (vr 3) (kk (.int (1009 : Int)))) (kk (.int (69621 : Int))))) aNil)) (kk (.int (2147483647 : Int)))))
    (sSeq (sAsg (gN 3) (op2 modD (opC intD (aCons (op2 mulD (vr 3) (op2 addD (op2 fdivD (vr 3) (kk (.int (2003 : Int)))) (kk (.int (40692 : Int))))) aNil)) (kk (.int (2147483399 : Int)))))
    (sRet (op2 modD (opC intD (aCons (op2 fdivD (vr 3) (kk (.int (16 : Int)))) aNil)) (vr 1)))))))))
def g__law_draw : List D → M D := runB 5 b__law_draw

def b__law_names : M Fl :=
  (sSeq (sAsg (gN 2) (eCall g__law_draw (aCons (vr 0) (aCons (kk (.int (3 : Int))) aNil))))
    (sSeq (sAsg (gN 3) (eCall g__law_draw (aCons (vr 0) (aCons (kk (.int (26 : Int))) aNil))))
    (sSeq (sAsg (gN 4) (op2 ixD (eFrz (nLst (aCons (kk (.int (1 : Int))) (aCons (kk (.int (3 : Int))) (aCons (kk (.int (5 : Int))) (aCons (kk (.int (7 : Int))) (aCons (kk (.int (9 : Int))) (aCons (kk (.int (11 : Int))) (aCons (kk (.int (15 : Int))) (aCons (kk (.int (17 : Int))) (aCons (kk (.int (19 : Int))) (aCons (kk (.int (21 : Int))) (aCons (kk (.int (23 : Int))) (aCons (kk (.int (25 : Int))) aNil)))))))))))))) (eCall g__law_draw (aCons (vr 0) (aCons (kk (.int (12 : Int))) aNil)))))
    (sSeq (sAsg (gN 5) (kk (.str ("abcdefghijklmnopqrstuvwxyz" : Str))))
    (sSeq (sOwn 6 (nLst aNil))
    (sSeq (sFor (iRng1 (aCons (vr 1) aNil)) (gN 7)
    (sSeq (sOwn 8 (nLc (iRng1 (aCons (op2 addD (op2 addD (vr 2) (kk (.int (1 : Int)))) (eCall g__law_draw (aCons (vr 0) (aCons (op2 subD (kk (.int (3 : Int))) (vr 2)) aNil)))) aNil)) (gN 10) (ret true) (op2 ixD (vr 5) (eCall g__law_draw (aCons (vr 0) (aCons (kk (.int (26 : Int))) aNil)))) [10]))
    (sSeq (sSub setD (op2 ixD (vr 5) (op2 modD (opC intD (aCons (op2 addD (vr 3) (op2 mulD (vr 4) (vr 7))) aNil)) (kk (.int (26 : Int))))) (vr 8) (vr 2))
    (sSeq (sAsg (gN 9) (eMe isStr joinD (kk (.str ("" : Str))) (aCons (vr 8) aNil)))
    (sSeq (sIf (tstB (op2 (inD false) (vr 9) (eFrz (nLst (aCons (kk (.str ("x" : Str))) (aCons (kk (.str ("y" : Str))) (aCons (kk (.str ("not" : Str))) (aCons (kk (.str ("and" : Str))) (aCons (kk (.str ("or" : Str))) aNil)))))))))
    (sAsg (gN 9) (op2 addD (vr 9) (kk (.str ("q" : Str)))))
    sNx)
    (sExpr (eMu isLst appD (vr 6) (aCons (vr 9) aNil))))))))
    (sRet (vr 6))))))))
def g__law_names : List D → M D := runB 11 b__law_names

def b_is_sequence : M Fl :=
  (sRet (eIsi isa_list_tuple (vr 0)))
def g_is_sequence : List D → M D := runB 1 b_is_sequence

def b_is_word : M Fl :=
  (sSeq (sIf (mOr (mNot (tst (eIsi isa_str (vr 0)))) (mNot (tstB (chn (cmpD fun i j => decide (i ≤ j)) (cmpD fun i j => decide (i ≤ j)) (kk (.int (1 : Int))) (opC lenD (aCons (vr 0) aNil)) (kk (.int (6 : Int)))))))
    (sRet (kk (.bl false)))
    sNx)
    (sSeq (sFor (iSeq (vr 0)) (gN 1)
    (sIf (tstB (op2 (inD true) (vr 1) (kk (.str ("abcdefghijklmnopqrstuvwxyz" : Str)))))
    (sRet (kk (.bl false)))
    sNx))
    (sRet (kk (.bl true)))))
def g_is_word : List D → M D := runB 2 b_is_word

def b_are_names : M Fl :=
  (sSeq (sIf (mOr (mNot (tst (eCall g_is_sequence (aCons (vr 0) aNil)))) (tstB (op2 (cmpD fun i j => decide (j < i)) (opC lenD (aCons (vr 0) aNil)) (vr 1))))
    (sRet (kk (.bl false)))
    sNx)
    (sSeq (sOwn 3 (ret (.dic [])))
    (sSeq (sFor (iSeq (vr 0)) (gN 4)
    (sSeq (sIf (mOr (mNot (tst (eCall g_is_word (aCons (vr 4) aNil)))) (mOr (tstB (eInW false KEPT_WORDS_ws (vr 4))) (mOr (tstB (op2 (inD false) (vr 4) (vr 2))) (tstB (op2 (inD false) (vr 4) (vr 3))))))
    (sRet (kk (.bl false)))
    sNx)
    (sSub setD (kk (.bl true)) (vr 3) (vr 4))))
    (sRet (kk (.bl true))))))
def g_are_names : List D → M D := runB 5 b_are_names

def b_is_key : M Fl :=
  (sRet (eAnd (eIsi isa_str (vr 0)) (op2 (inD false) (vr 0) (vr 1))))
def g_is_key : List D → M D := runB 2 b_is_key

def b_are_functions : M Fl :=
  (sSeq (sIf (mOr (mNot (tst (eCall g_is_sequence (aCons (vr 0) aNil)))) (tstB (op2 (cmpD fun i j => decide (j < i)) (opC lenD (aCons (vr 0) aNil)) (kk (.int (1 : Int))))))
    (sRet (kk (.bl false)))
    sNx)
    (sSeq (sFor (iSeq (vr 0)) (gN 2)
    (sIf (mNot (tst (eCall g_is_key (aCons (vr 2) (aCons (vr 1) aNil)))))
    (sRet (kk (.bl false)))
    sNx))
    (sRet (kk (.bl true)))))
def g_are_functions : List D → M D := runB 3 b_are_functions

def b_Tongue___init__ : M Fl :=
  (sSeq (sIf (mNot (tst (eCall g_are_names (aCons (vr 1) (aCons (kk (.int (3 : Int))) (aCons (eTup aNil) aNil))))))
    sNever
    sNx)
    (sSeq (sIf (mNot (tst (eCall g_are_names (aCons (vr 2) (aCons (kk (.int (2 : Int))) (aCons (vr 1) aNil))))))
    sNever
    sNx)
    (sSeq (sIf (mNot (tst (eCall g_are_functions (aCons (vr 3) (aCons (opC tupleD (aCons (vr 2) aNil)) aNil)))))
    sNever
    sNx)
    (sSeq (sFldS 0 ("kept_marks" : Str) (opC tupleD (aCons (vr 1) aNil)) (vr 0))
    (sSeq (sFldS 0 ("kept_ties" : Str) (opC tupleD (aCons (vr 2) aNil)) (vr 0))
    (sFldS 0 ("functions" : Str) (opC tupleD (aCons (vr 3) aNil)) (vr 0)))))))
def g_Tongue___init__ : List D → M D := runI 0 3 b_Tongue___init__

def b_is_dict_of : M Fl :=
  (sSeq (sIf (mOr (mNot (tst (eIsi isa_dict (vr 0)))) (tstB (op2 (eqD true) (opC lenD (aCons (vr 0) aNil)) (opC lenD (aCons (vr 1) aNil)))))
    (sRet (kk (.bl false)))
    sNx)
    (sSeq (sForK 0 (gN 2)
    (sIf (mNot (tst (eCall g_is_key (aCons (vr 2) (aCons (vr 1) aNil)))))
    (sRet (kk (.bl false)))
    sNx))
    (sRet (kk (.bl true)))))
def g_is_dict_of : List D → M D := runB 3 b_is_dict_of

def b_Tongue_marks : M Fl :=
  (sRet (eFld 0 ("kept_marks" : Str) (vr 0)))
def g_Tongue_marks : List D → M D := runB 1 b_Tongue_marks

def b_is_integer : M Fl :=
  (sRet (eAnd (eIsi isa_int (vr 0)) (eNot (eIsi isa_bool (vr 0)))))
def g_is_integer : List D → M D := runB 1 b_is_integer

def b_is_within : M Fl :=
  (sRet (eAnd (eCall g_is_integer (aCons (vr 0) aNil)) (chn (cmpD fun i j => decide (i ≤ j)) (cmpD fun i j => decide (i ≤ j)) (vr 1) (vr 0) (vr 2))))
def g_is_within : List D → M D := runB 3 b_is_within

def b_is_thing : M Fl :=
  (sRet (eCall g_is_within (aCons (vr 0) (aCons (kk (.int (0 : Int))) (aCons (op2 subD (vr 1) (kk (.int (1 : Int)))) aNil)))))
def g_is_thing : List D → M D := runB 2 b_is_thing

def b_are_things : M Fl :=
  (sSeq (sIf (mNot (tst (eCall g_is_sequence (aCons (vr 0) aNil))))
    (sRet (kk (.bl false)))
    sNx)
    (sSeq (sOwn 2 (ret (.dic [])))
    (sSeq (sFor (iSeq (vr 0)) (gN 3)
    (sSeq (sIf (mOr (mNot (tst (eCall g_is_thing (aCons (vr 3) (aCons (vr 1) aNil))))) (tstB (op2 (inD false) (vr 3) (vr 2))))
    (sRet (kk (.bl false)))
    sNx)
    (sSub setD (kk (.bl true)) (vr 2) (vr 3))))
    (sRet (kk (.bl true))))))
def g_are_things : List D → M D := runB 4 b_are_things

def b_check_marks : M Fl :=
  (sSeq (sIf (mNot (tst (eCall g_is_dict_of (aCons (vr 2) (aCons (eProp 0 g_Tongue_marks (vr 0)) aNil)))))
    sNever
    sNx)
    (sForK 2 (gN 3)
    (sIf (mNot (tst (eCall g_are_things (aCons (op2 ixDD (vr 2) (vr 3)) (aCons (vr 1) aNil)))))
    sNever
    sNx)))
def g_check_marks : List D → M D := runB 4 b_check_marks

def b_Tongue_ties : M Fl :=
  (sRet (eFld 0 ("kept_ties" : Str) (vr 0)))
def g_Tongue_ties : List D → M D := runB 1 b_Tongue_ties

def b_is_tuple : M Fl :=
  (sRet (eAnd (eIsi isa_tuple (vr 0)) (op2 (eqD false) (opC lenD (aCons (vr 0) aNil)) (vr 1))))
def g_is_tuple : List D → M D := runB 2 b_is_tuple

def b_is_pair : M Fl :=
  (sRet (eAnd (eCall g_is_tuple (aCons (vr 0) (aCons (kk (.int (2 : Int))) aNil))) (eAnd (eCall g_is_thing (aCons (op2 ixD (vr 0) (kk (.int (0 : Int)))) (aCons (vr 1) aNil))) (eCall g_is_thing (aCons (op2 ixD (vr 0) (kk (.int (1 : Int)))) (aCons (vr 1) aNil))))))
def g_is_pair : List D → M D := runB 2 b_is_pair

def b_are_pairs : M Fl :=
  (sSeq (sIf (mNot (tst (eCall g_is_sequence (aCons (vr 0) aNil))))
    (sRet (kk (.bl false)))
    sNx)
    (sSeq (sOwn 2 (ret (.dit [])))
    (sSeq (sFor (iSeq (vr 0)) (gN 3)
    (sSeq (sIf (mOr (mNot (tst (eCall g_is_pair (aCons (vr 3) (aCons (vr 1) aNil))))) (tstB (op2 (inTD false) (vr 3) (vr 2))))
    (sRet (kk (.bl false)))
    sNx)
    (sSub setTD (kk (.bl true)) (vr 2) (vr 3))))
    (sRet (kk (.bl true))))))
def g_are_pairs : List D → M D := runB 4 b_are_pairs

def b_is_function : M Fl :=
  (sSeq (sAsg (gN 2) (eFrz (nC sortD (aCons (eFrz (nLc (iSeq (vr 0)) (gN 3) (ret true) (op2 ixD (vr 3) (kk (.int (0 : Int)))) [3])) aNil))))
    (sRet (op2 (eqD false) (vr 2) (eFrz (nRng (vr 1))))))
def g_is_function : List D → M D := runB 4 b_is_function

def b_check_ties : M Fl :=
  (sSeq (sIf (mNot (tst (eCall g_is_dict_of (aCons (vr 2) (aCons (eProp 0 g_Tongue_ties (vr 0)) aNil)))))
    sNever
    sNx)
    (sForK 2 (gN 3)
    (sSeq (sIf (mNot (tst (eCall g_are_pairs (aCons (op2 ixDD (vr 2) (vr 3)) (aCons (vr 1) aNil)))))
    sNever
    sNx)
    (sIf (mAnd (tstB (op2 (inD false) (vr 3) (eFld 0 ("functions" : Str) (vr 0)))) (mNot (tst (eCall g_is_function (aCons (op2 ixDD (vr 2) (vr 3)) (aCons (vr 1) aNil))))))
    sNever
    sNx))))
def g_check_ties : List D → M D := runB 4 b_check_ties

def b_World___init__ : M Fl :=
  (sSeq (sIf (mNot (tst (eCall g_is_within (aCons (vr 2) (aCons (kk (.int (1 : Int))) (aCons (kk (.int (300 : Int))) aNil))))))
    sNever
    sNx)
    (sSeq (sExpr (eCall g_check_marks (aCons (vr 1) (aCons (vr 2) (aCons (vr 3) aNil)))))
    (sSeq (sExpr (eCall g_check_ties (aCons (vr 1) (aCons (vr 2) (aCons (vr 4) aNil)))))
    (sSeq (sFldS 1 ("tongue" : Str) (vr 1) (vr 0))
    (sSeq (sFldS 1 ("things" : Str) (vr 2) (vr 0))
    (sSeq (sFldS 1 ("marked" : Str) (eFrz (nDc (.dic []) setKD (iSeq (eProp 0 g_Tongue_marks (vr 1))) (gN 5) (ret true) (vr 5) (eFrz (nDc (.dic []) setKD (iSeq (op2 ixDD (vr 3) (vr 5))) (gN 6) (ret true) (vr 6) (kk (.bl true)) [6])) [5])) (vr 0))
    (sFldS 1 ("tied" : Str) (eFrz (nDc (.dic []) setKD (iSeq (eProp 0 g_Tongue_ties (vr 1))) (gN 5) (ret true) (vr 5) (eFrz (nDc (.dit []) setTD (iSeq (op2 ixDD (vr 4) (vr 5))) (gN 7) (ret true) (vr 7) (kk (.bl true)) [7])) [5])) (vr 0))))))))
def g_World___init__ : List D → M D := runI 1 7 b_World___init__

def b__law_mixed : M Fl :=
  (sSeq (sOwn 2 (nC listD (aCons (vr 1) aNil)))
    (sSeq (sOwn 3 (nLst aNil))
    (sSeq (sFor (iRng1 (aCons (opC lenD (aCons (vr 1) aNil)) aNil)) (gN 4)
    (sExpr (eMu isLst appD (vr 3) (aCons (eMu isLst popAtD (vr 2) (aCons (eCall g__law_draw (aCons (vr 0) (aCons (opC lenD (aCons (vr 2) aNil)) aNil))) aNil)) aNil))))
    (sRet (vr 3)))))
def g__law_mixed : List D → M D := runB 5 b__law_mixed

def b_Tongue___eq__ : M Fl :=
  (sSeq (sIf (mNot (tst (eIsi isa_own_Tongue (vr 1))))
    (sRet (kk (.bl false)))
    sNx)
    (sRet (eAnd (op2 (eqD false) (eProp 0 g_Tongue_marks (vr 0)) (eProp 0 g_Tongue_marks (vr 1))) (eAnd (op2 (eqD false) (eProp 0 g_Tongue_ties (vr 0)) (eProp 0 g_Tongue_ties (vr 1))) (op2 (eqD false) (eFld 0 ("functions" : Str) (vr 0)) (eFld 0 ("functions" : Str) (vr 1)))))))
def g_Tongue___eq__ : List D → M D := runB 2 b_Tongue___eq__

def b_law : M Fl :=
  (sSeq (sAsg (gN 1) (eCall g__law_pool (aCons (vr 0) aNil)))
    (sSeq (sAsg (gN 2) (eCall g__law_names (aCons (vr 1) (aCons (kk (.int (5 : Int))) aNil))))
    (sSeq (sOwn 3 (nLst aNil))
    (sSeq (sFor (iRng1 (aCons (kk (.int (5 : Int))) aNil)) (gN 4)
    (sSeq (sAsg (gN 7) (opC tupleD (aCons (eSl (eCall g__law_mixed (aCons (vr 1) (aCons (eSl (vr 2) pNo (pSo (kk (.int (3 : Int))))) aNil))) pNo (pSo (eCall g__law_draw (aCons (vr 1) (aCons (kk (.int (4 : Int))) aNil))))) aNil)))
    (sSeq (sAsg (gN 8) (opC tupleD (aCons (eSl (eCall g__law_mixed (aCons (vr 1) (aCons (eSl (vr 2) (pSo (kk (.int (3 : Int)))) pNo) aNil))) pNo (pSo (eCall g__law_draw (aCons (vr 1) (aCons (kk (.int (3 : Int))) aNil))))) aNil)))
    (sSeq (sIf (mAnd (tstB (op2 (eqD false) (eCall g__law_draw (aCons (vr 1) (aCons (kk (.int (2 : Int))) aNil))) (kk (.int (0 : Int))))) (tstB (op2 (cmpD fun i j => decide (j < i)) (opC lenD (aCons (vr 3) aNil)) (kk (.int (0 : Int))))))
    (sAsg (gT (gsC (gN 7) (gsC (gN 8) gsN)) 2) (eSl (op2 ixD (vr 3) (op1 negD (kk (.int (1 : Int))))) pNo (pSo (kk (.int (2 : Int))))))
    sNx)
    (sExpr (eMu isLst appD (vr 3) (aCons (eTup (aCons (vr 7) (aCons (vr 8) (aCons (eSl (vr 8) pNo (pSo (eCall g__law_draw (aCons (vr 1) (aCons (kk (.int (2 : Int))) aNil))))) aNil)))) aNil)))))))
    (sSeq (sExpr (eMu isLst appD (vr 3) (aCons (eTup (aCons (op2 ixD (op2 ixD (vr 3) (kk (.int (0 : Int)))) (kk (.int (1 : Int)))) (aCons (eTup aNil) (aCons (eTup aNil) aNil)))) aNil)))
    (sSeq (sExpr (eMu isLst appD (vr 3) (aCons (eTup (aCons (eTup aNil) (aCons (op2 ixD (op2 ixD (vr 3) (kk (.int (0 : Int)))) (kk (.int (1 : Int)))) (aCons (eTup aNil) aNil)))) aNil)))
    (sSeq (sAsg (gN 5) (eFrz (nLc (iSeq (vr 3)) (gN 12) (ret true) (eFrz (nMake g_Tongue___init__ (aCons (eFrz (nC listD (aCons (op2 ixD (vr 12) (kk (.int (0 : Int)))) aNil))) (aCons (eFrz (nC listD (aCons (op2 ixD (vr 12) (kk (.int (1 : Int)))) aNil))) (aCons (eFrz (nC listD (aCons (op2 ixD (vr 12) (kk (.int (2 : Int)))) aNil))) aNil))))) [12])))
    (sSeq (sFor (iRng1 (aCons (opC lenD (aCons (vr 3) aNil)) aNil)) (gN 6)
    (sSeq (sFor (iRng1 (aCons (opC lenD (aCons (vr 3) aNil)) aNil)) (gN 9)
    (sSeq (sAsg (gN 13) (op2 (eqD false) (op2 ixD (vr 3) (vr 6)) (op2 ixD (vr 3) (vr 9))))
    (sIf (mOr (tstB (op2 (eqD true) (eO false 0 oth_Tongue g_Tongue___eq__ (op2 ixD (vr 5) (vr 6)) (op2 ixD (vr 5) (vr 9))) (vr 13))) (tstB (op2 (eqD false) (eO true 0 oth_Tongue g_Tongue___eq__ (op2 ixD (vr 5) (vr 6)) (op2 ixD (vr 5) (vr 9))) (vr 13))))
    (sRet (kk (.bl false)))
    sNx)))
    (sSeq (sAsg (gN 10) (eFrz (nMake g_World___init__ (aCons (op2 ixD (vr 5) (vr 6)) (aCons (kk (.int (1 : Int))) (aCons (eFrz (nCK dictPD (aCons (eFrz (nLc (iSeq (op2 ixD (op2 ixD (vr 3) (vr 6)) (kk (.int (0 : Int))))) (gN 14) (ret true) (eTup (aCons (vr 14) (aCons (eFrz (nLst aNil)) aNil))) [14])) aNil))) (aCons (eFrz (nCK dictPD (aCons (eFrz (nLc (iSeq (op2 ixD (op2 ixD (vr 3) (vr 6)) (kk (.int (1 : Int))))) (gN 14) (ret true) (eTup (aCons (vr 14) (aCons (eFrz (nLst (aCons (eTup (aCons (kk (.int (0 : Int))) (aCons (kk (.int (0 : Int))) aNil))) aNil))) aNil))) [14])) aNil))) aNil)))))))
    (sFor (iSeq (eFrz (nLst (aCons (kk .non) (aCons (op2 ixD (vr 3) (vr 6)) (aCons (eFrz (nC listD (aCons (op2 ixD (vr 3) (vr 6)) aNil))) (aCons (kk (.bl true)) (aCons (kk (.int (0 : Int))) (aCons (kk (.str ("" : Str))) (aCons (eFrz (ret (.dic []))) (aCons (vr 10) aNil))))))))))) (gN 11)
    (sIf (mOr (tstB (eO false 0 oth_Tongue g_Tongue___eq__ (op2 ixD (vr 5) (vr 6)) (vr 11))) (mNot (tstB (eO true 0 oth_Tongue g_Tongue___eq__ (op2 ixD (vr 5) (vr 6)) (vr 11)))))
    (sRet (kk (.bl false)))
    sNx)))))
    (sRet (kk (.bl true)))))))))))
def g_law : List D → M D := runB 15 b_law

end Mi


namespace Mi
open PySem PySem.Spec PyProof.Rows L2
def topS (i : Nat) : Stmt := PySem.Challenge.pw_pairsayings_k03_equal_tongues.main.body.getD i (.Pass ⟨0, 0, 0, 0⟩)
abbrev s__law_pool : Stmt := topS 33
abbrev s__law_draw : Stmt := topS 34
abbrev s__law_names : Stmt := topS 36
abbrev s_is_sequence : Stmt := topS 10
abbrev s_is_word : Stmt := topS 11
abbrev s_are_names : Stmt := topS 18
abbrev s_is_key : Stmt := topS 13
abbrev s_are_functions : Stmt := topS 19
abbrev s_Tongue___init__ : Stmt := inClass (topS 20) 0
abbrev s_is_dict_of : Stmt := topS 25
abbrev s_Tongue_marks : Stmt := inClass (topS 20) 1
abbrev s_is_integer : Stmt := topS 8
abbrev s_is_within : Stmt := topS 9
abbrev s_is_thing : Stmt := topS 23
abbrev s_are_things : Stmt := topS 26
abbrev s_check_marks : Stmt := topS 29
abbrev s_Tongue_ties : Stmt := inClass (topS 20) 2
abbrev s_is_tuple : Stmt := topS 12
abbrev s_is_pair : Stmt := topS 24
abbrev s_are_pairs : Stmt := topS 27
abbrev s_is_function : Stmt := topS 28
abbrev s_check_ties : Stmt := topS 30
abbrev s_World___init__ : Stmt := inClass (topS 31) 0
abbrev s__law_mixed : Stmt := topS 35
abbrev s_Tongue___eq__ : Stmt := inClass (topS 20) 3
abbrev s_law : Stmt := topS 37
structure Ad where
  (f__law_pool : Addr)
  (f__law_draw : Addr)
  (f__law_names : Addr)
  (f_is_sequence : Addr)
  (f_is_word : Addr)
  (f_are_names : Addr)
  (f_is_key : Addr)
  (f_are_functions : Addr)
  (f_Tongue___init__ : Addr)
  (f_is_dict_of : Addr)
  (f_Tongue_marks : Addr)
  (f_is_integer : Addr)
  (f_is_within : Addr)
  (f_is_thing : Addr)
  (f_are_things : Addr)
  (f_check_marks : Addr)
  (f_Tongue_ties : Addr)
  (f_is_tuple : Addr)
  (f_is_pair : Addr)
  (f_are_pairs : Addr)
  (f_is_function : Addr)
  (f_check_ties : Addr)
  (f_World___init__ : Addr)
  (f__law_mixed : Addr)
  (f_Tongue___eq__ : Addr)
  (f_law : Addr)
  (p_Tongue_marks : Addr)
  (p_Tongue_ties : Addr)
  (c_KEPT_WORDS : Addr)
structure Txt (A : Ad) (K : PySem.W.Frag) (w : World) (mg : Str → Option Value) (ca : Nat → Addr) : Prop where
  b_abs : mg "abs" = none
  b_bool : mg "bool" = none
  b_dict : mg "dict" = none
  b_int : mg "int" = none
  b_isinstance : mg "isinstance" = none
  b_len : mg "len" = none
  b_list : mg "list" = none
  b_range : mg "range" = none
  b_sorted : mg "sorted" = none
  b_str : mg "str" = none
  b_sum : mg "sum" = none
  b_tuple : mg "tuple" = none
  g__law_pool : mg "_law_pool" = some (.ref A.f__law_pool)
  g__law_draw : mg "_law_draw" = some (.ref A.f__law_draw)
  g__law_names : mg "_law_names" = some (.ref A.f__law_names)
  g_is_sequence : mg "is_sequence" = some (.ref A.f_is_sequence)
  g_is_word : mg "is_word" = some (.ref A.f_is_word)
  g_are_names : mg "are_names" = some (.ref A.f_are_names)
  g_is_key : mg "is_key" = some (.ref A.f_is_key)
  g_are_functions : mg "are_functions" = some (.ref A.f_are_functions)
  g_is_dict_of : mg "is_dict_of" = some (.ref A.f_is_dict_of)
  g_is_integer : mg "is_integer" = some (.ref A.f_is_integer)
  g_is_within : mg "is_within" = some (.ref A.f_is_within)
  g_is_thing : mg "is_thing" = some (.ref A.f_is_thing)
  g_are_things : mg "are_things" = some (.ref A.f_are_things)
  g_check_marks : mg "check_marks" = some (.ref A.f_check_marks)
  g_is_tuple : mg "is_tuple" = some (.ref A.f_is_tuple)
  g_is_pair : mg "is_pair" = some (.ref A.f_is_pair)
  g_are_pairs : mg "are_pairs" = some (.ref A.f_are_pairs)
  g_is_function : mg "is_function" = some (.ref A.f_is_function)
  g_check_ties : mg "check_ties" = some (.ref A.f_check_ties)
  g__law_mixed : mg "_law_mixed" = some (.ref A.f__law_mixed)
  g_law : mg "law" = some (.ref A.f_law)
  g_Tongue : mg "Tongue" = some (.ref (ca 0))
  cl_Tongue : Cls K (ca 0)
  mk_Tongue : Mk K (ca 0) A.f_Tongue___init__
  na_Tongue_functions : NoAttr K (ca 0) "functions"
  na_Tongue_kept_marks : NoAttr K (ca 0) "kept_marks"
  na_Tongue_kept_ties : NoAttr K (ca 0) "kept_ties"
  pr_Tongue_marks : PropOf K (ca 0) "marks" A.p_Tongue_marks A.f_Tongue_marks
  pr_Tongue_ties : PropOf K (ca 0) "ties" A.p_Tongue_ties A.f_Tongue_ties
  me_Tongue___eq__ : Meth K (ca 0) "__eq__" A.f_Tongue___eq__
  g_World : mg "World" = some (.ref (ca 1))
  cl_World : Cls K (ca 1)
  mk_World : Mk K (ca 1) A.f_World___init__
  na_World_marked : NoAttr K (ca 1) "marked"
  na_World_things : NoAttr K (ca 1) "things"
  na_World_tied : NoAttr K (ca 1) "tied"
  na_World_tongue : NoAttr K (ca 1) "tongue"
  cf_Tongue : ClF K (ca 0)
  cf_World : ClF K (ca 1)
  eo_Tongue : EqOwn K (ca 0) A.f_Tongue___eq__
  ki_Tongue : PySem.W.isClsIn K (ca 0) = true
  kt_Tongue : PySem.W.typeIn K (.ref (ca 0)) = some (.type "type")
  ss_Tongue : PySem.W.subIn K (.ref (ca 0)) (.ref (ca 0)) = some true
  ms_Tongue_World : PySem.W.subIn K (.ref (ca 1)) (.ref (ca 0)) = some false
  c_LETTERS : ∃ t, mg "LETTERS" = some (.str ("abcdefghijklmnopqrstuvwxyz" : Str) t)
  c_MOST_LETTERS : ∃ t, mg "MOST_LETTERS" = some (.int (6 : Int) t)
  c_KEPT_WORDS : mg "KEPT_WORDS" = some (.ref A.c_KEPT_WORDS)
  w_KEPT_WORDS : KWords K w A.c_KEPT_WORDS KEPT_WORDS_ws
  c_MOST_MARKS : ∃ t, mg "MOST_MARKS" = some (.int (3 : Int) t)
  c_MOST_TIES : ∃ t, mg "MOST_TIES" = some (.int (2 : Int) t)
  c_MOST_THINGS : ∃ t, mg "MOST_THINGS" = some (.int (300 : Int) t)
structure Fn (P : Program) (w : World) (K : PySem.W.Frag) (mg : Str → Option Value) (base : Heap) (ca : Nat → Addr) (k : Nat) (f : Addr) (ps : List Str) (g : List D → M D) : Prop where
  ok : ∃ fd, FnOk P w K mg base (L2.CX P w) k f fd ps (spM ⟨K, ca, w⟩ ps.length g) ∧ Binds K fd ps []
  kp : PySem.W.keepIn K (.ref f) = true
structure FnI (P : Program) (w : World) (K : PySem.W.Frag) (mg : Str → Option Value) (base : Heap) (ca : Nat → Addr) (c k : Nat) (f : Addr) (p0 : Str) (ps : List Str) (g : List D → M D) : Prop where
  ok : ∃ fd, FnOk P w K mg base (L2.CX P w) k f fd (p0 :: ps) (spI ⟨K, ca, w⟩ c ps.length g) ∧ Binds K fd (p0 :: ps) []
structure FnK (P : Program) (w : World) (K : PySem.W.Frag) (mg : Str → Option Value) (base : Heap) (ca : Nat → Addr) (k : Nat) (f : Addr) (ps ks : List Str) (pm : {α : Type} → List α → List α) (g : List D → M D) : Prop where
  ok : ∃ fd, FnOk P w K mg base (L2.CX P w) k f fd ps (spM ⟨K, ca, w⟩ ps.length g) ∧ Binds K fd ps [] ∧ KB0 K fd ps ks pm
  kp : PySem.W.keepIn K (.ref f) = true
theorem fn_zero {P : Program} {w : World} {K : PySem.W.Frag} {mg : Str → Option Value} {base : Heap} {ca : Nat → Addr} {k : Nat} {f : Addr} {fd : FuncData} {ps : List Str} : FnOk P w K mg base (L2.CX P w) k f fd ps (spM ⟨K, ca, w⟩ ps.length fun _ => stk) :=
  ⟨fun vs H Q E h => let ⟨_, _, _, _, hl, _⟩ := h; hl, fun A outer s H args us vs Q E hr he hb hv hs => let ⟨_, _, _, _, _, _, _, hp⟩ := hs; hp.elim⟩
end Mi

namespace Mi
open PySem PySem.Spec PyProof.Rows L2
theorem sc__law_pool : FnScope ["_law_script", "_law_seed", "_law_cell"] ["_law_script"] (defScope s__law_pool) := ⟨rfl, rfl, rfl, by decide +kernel, rfl, by decide +kernel, by decide +kernel⟩
theorem ok__law_pool {P : Program} {w : World} {K : PySem.W.Frag} {mg : Str → Option Value} {base : Heap} {ca : Nat → Addr} {A : Ad} {fd : FuncData} (T : Txt A K w mg ca) (F : Fun K "_law_pool" "_law_pool" s__law_pool A.f__law_pool fd) : Fn P w K mg base ca 1 A.f__law_pool ["_law_script"] g__law_pool := by
  refine ⟨⟨fd, fn_mir (P := P) (w := w) (mg := mg) (base := base) (ca := ca) (N := ["_law_script", "_law_seed", "_law_cell"]) (body := b__law_pool) F sc__law_pool fun cdv AA outer s H E hr => (by
    have nd := sc__law_pool.nd
    have tk := takes_of (X := cxOf (L2.CX P w) P w K mg base ["_law_script", "_law_seed", "_law_cell"] "_law_pool" (defScope s__law_pool) A.f__law_pool cdv AA outer s H E) (E := E) rfl rfl rfl rfl
    exact ⟨_, (jb_cons (js_set (i := 1) nd rfl (by first | exact .inl rfl | exact .inr rfl) (je_op op_addU sp_addU (je_op op_addU sp_addU (je_op op_mod sp_mod (je_callTy call_int1 sp_int rfl T.b_int (by decide +kernel) (ja_cons (je_callB (cr_sum rfl) sp_sum rfl T.b_sum (by decide +kernel) (ja_cons (je_sl (je_var (i := 0) rfl (by first | exact .inl rfl | exact .inr (.inl rfl) | exact .inr (.inr rfl))) jo_none (jo_some (je_int (i := (1 : Int))))) ja_nil)) ja_nil)) (je_int (i := (1000003 : Int)))) (je_callB call_lenU sp_lenU rfl T.b_len (by decide +kernel) (ja_cons (je_var (i := 0) rfl (by first | exact .inl rfl | exact .inr (.inl rfl) | exact .inr (.inr rfl))) ja_nil))) (je_int (i := (1 : Int)))))
      (jb_cons (js_for (passes_of rfl) rfl (ji_seq (je_sl (je_var (i := 0) rfl (by first | exact .inl rfl | exact .inr (.inl rfl) | exact .inr (.inr rfl))) jo_none (jo_some (je_int (i := (63 : Int)))))) (jg_name (i := 2) nd rfl (by first | exact .inl rfl | exact .inr rfl))
      (jb_one (js_set (i := 1) nd rfl (by first | exact .inl rfl | exact .inr rfl) (je_op op_mod sp_mod (je_callTy call_int1 sp_int rfl T.b_int (by decide +kernel) (ja_cons (je_op op_addU sp_addU (je_op op_addU sp_addU (je_op op_mulU sp_mulU (je_var (i := 1) rfl (by first | exact .inl rfl | exact .inr (.inl rfl) | exact .inr (.inr rfl))) (je_int (i := (48271 : Int)))) (je_op op_mod sp_mod (je_callTy call_int1 sp_int rfl T.b_int (by decide +kernel) (ja_cons (je_var (i := 2) rfl (by first | exact .inl rfl | exact .inr (.inl rfl) | exact .inr (.inr rfl))) ja_nil)) (je_int (i := (2147483629 : Int))))) (je_int (i := (11 : Int)))) ja_nil)) (je_int (i := (2147483647 : Int)))))))
      (jb_one (js_ret (JN.ptr (jn_lst (ja_cons (je_var (i := 1) rfl (by first | exact .inl rfl | exact .inr (.inl rfl) | exact .inr (.inr rfl))) (ja_cons (je_int (i := (0 : Int))) (ja_cons (JN.ptr (jn_lc (tt := (tTest (tOp (rI0 fun i j => .bl (decide (j ≤ i))) (tCB (fun xs H Q => ∃ i, xs = [.int i] ∧ Q (.int (if i < 0 then -i else i)) H) (tCons (tVar 2) tNil)) (tOp (rI CPow fun i j => .int (i ^ j.toNat)) (tC (.int (10 : Int))) (tC (.int (18 : Int))))))) (te := (tCB (fun xs H Q => ∃ i, xs = [.int i] ∧ Q (.int (if i < 0 then -i else i)) H) (tCons (tVar 2) tNil))) (mt := (tstB (op2 (cmpD fun i j => decide (j ≤ i)) (opC absD (aCons (vr 2) aNil)) (op2 powD (kk (.int (10 : Int))) (kk (.int (18 : Int))))))) (me := (opC absD (aCons (vr 2) aNil))) (own := [("_law_cell", 2)]) rfl nd (by exact (ji_seq (je_sl (je_var (i := 0) rfl (by first | exact .inl rfl | exact .inr (.inl rfl) | exact .inr (.inr rfl))) jo_none (jo_some (je_int (i := (63 : Int))))))) (blkOk_by (own := [("_law_cell", 2)]) (N := ["_law_script", "_law_seed", "_law_cell"]) (sc := defScope s__law_pool) (by decide +kernel)) (fun _ _ _ _ _ => by exact (jg_name (i := 2) nd rfl (by first | exact .inl rfl | exact .inr rfl))) (gw_name (by decide)) gN_len (fun _ _ _ _ _ => by exact (jts_one (jt_cmp op_ge sp_cmp (je_callB call_abs sp_abs rfl T.b_abs (by decide +kernel) (ja_cons (je_var (i := 2) rfl (by first | exact .inl rfl | exact .inr (.inl rfl) | exact .inr (.inr rfl))) ja_nil)) (je_op op_pow sp_pow (je_int (i := (10 : Int))) (je_int (i := (18 : Int)))) (nomark _)))) (fun _ _ _ _ _ => by exact (je_callB call_abs sp_abs rfl T.b_abs (by decide +kernel) (ja_cons (je_var (i := 2) rfl (by first | exact .inl rfl | exact .inr (.inl rfl) | exact .inr (.inr rfl))) ja_nil))))) ja_nil)))))))))⟩), (F.binds (ps := ["_law_script"]) fun _ _ _ _ _ _ us hl => match us, hl with | [_], _ => rfl)⟩, F.kp⟩
end Mi

namespace Mi
open PySem PySem.Spec PyProof.Rows L2
theorem sc__law_draw : FnScope ["_law_pool_here", "_law_many", "_law_cells", "_law_mixed_here", "_law_digit"] ["_law_pool_here", "_law_many"] (defScope s__law_draw) := ⟨rfl, rfl, rfl, by decide +kernel, rfl, by decide +kernel, by decide +kernel⟩
theorem ok__law_draw {P : Program} {w : World} {K : PySem.W.Frag} {mg : Str → Option Value} {base : Heap} {ca : Nat → Addr} {A : Ad} {fd : FuncData} (T : Txt A K w mg ca) (F : Fun K "_law_draw" "_law_draw" s__law_draw A.f__law_draw fd) : Fn P w K mg base ca 1 A.f__law_draw ["_law_pool_here", "_law_many"] g__law_draw := by
  refine ⟨⟨fd, fn_mir (P := P) (w := w) (mg := mg) (base := base) (ca := ca) (N := ["_law_pool_here", "_law_many", "_law_cells", "_law_mixed_here", "_law_digit"]) (body := b__law_draw) F sc__law_draw fun cdv AA outer s H E hr => (by
    have nd := sc__law_draw.nd
    have tk := takes_of (X := cxOf (L2.CX P w) P w K mg base ["_law_pool_here", "_law_many", "_law_cells", "_law_mixed_here", "_law_digit"] "_law_draw" (defScope s__law_draw) A.f__law_draw cdv AA outer s H E) (E := E) rfl rfl rfl rfl
    exact ⟨_, (jb_cons (js_sub (set_U (hu_of hr)) sp_setU (je_op op_addU sp_addU (je_ix ix_seq sp_ix (je_var (i := 0) rfl (by first | exact .inl rfl | exact .inr (.inl rfl) | exact .inr (.inr rfl))) (je_int (i := (1 : Int)))) (je_int (i := (1 : Int)))) (je_var (i := 0) rfl (by first | exact .inl rfl | exact .inr (.inl rfl) | exact .inr (.inr rfl))) (je_int (i := (1 : Int))))
      (jb_cons (js_set (i := 2) nd rfl (by first | exact .inl rfl | exact .inr rfl) (je_ix ix_seq sp_ix (je_var (i := 0) rfl (by first | exact .inl rfl | exact .inr (.inl rfl) | exact .inr (.inr rfl))) (je_int (i := (2 : Int)))))
      (jb_cons (js_if (jt_cmp op_gt sp_cmp (je_callB call_lenU sp_lenU rfl T.b_len (by decide +kernel) (ja_cons (je_var (i := 2) rfl (by first | exact .inl rfl | exact .inr (.inl rfl) | exact .inr (.inr rfl))) ja_nil)) (je_int (i := (0 : Int))) (nomark _))
      (jb_cons (js_set (i := 4) nd rfl (by first | exact .inl rfl | exact .inr rfl) (je_op op_mod sp_mod (je_callTy call_int1 sp_int rfl T.b_int (by decide +kernel) (ja_cons (je_ix ix_seq sp_ix (je_var (i := 2) rfl (by first | exact .inl rfl | exact .inr (.inl rfl) | exact .inr (.inr rfl))) (je_int (i := (0 : Int)))) ja_nil)) (je_var (i := 1) rfl (by first | exact .inl rfl | exact .inr (.inl rfl) | exact .inr (.inr rfl)))))
      (jb_cons (js_sub (set_U (hu_of hr)) sp_setU (je_op op_fdiv sp_fdiv (je_callTy call_int1 sp_int rfl T.b_int (by decide +kernel) (ja_cons (je_ix ix_seq sp_ix (je_var (i := 2) rfl (by first | exact .inl rfl | exact .inr (.inl rfl) | exact .inr (.inr rfl))) (je_int (i := (0 : Int)))) ja_nil)) (je_var (i := 1) rfl (by first | exact .inl rfl | exact .inr (.inl rfl) | exact .inr (.inr rfl)))) (je_var (i := 2) rfl (by first | exact .inl rfl | exact .inr (.inl rfl) | exact .inr (.inr rfl))) (je_int (i := (0 : Int))))
      (jb_cons (js_if (jt_cmp (op_eqD hr.units) sp_eq (je_ix ix_seq sp_ix (je_var (i := 2) rfl (by first | exact .inl rfl | exact .inr (.inl rfl) | exact .inr (.inr rfl))) (je_int (i := (0 : Int)))) (je_int (i := (0 : Int))) (nomark _))
      (jb_one (js_expr (je_mu PySem.F.plainAttrs_list PySem.F.slot_list_pop PySem.F.type_list_pop mt_popAt sp_popAt ty_lst (je_var (i := 2) rfl (by first | exact .inl rfl | exact .inr (.inl rfl) | exact .inr (.inr rfl))) (ja_cons (je_int (i := (0 : Int))) ja_nil))))
      jb_nil)
      (jb_one (js_ret (je_var (i := 4) rfl (by first | exact .inl rfl | exact .inr (.inl rfl) | exact .inr (.inr rfl))))))))
      jb_nil)
      (jb_cons (js_set (i := 3) nd rfl (by first | exact .inl rfl | exact .inr rfl) (je_op op_mod sp_mod (je_callTy call_int1 sp_int rfl T.b_int (by decide +kernel) (ja_cons (je_op op_mulU sp_mulU (je_op op_addU sp_addU (je_ix ix_seq sp_ix (je_var (i := 0) rfl (by first | exact .inl rfl | exact .inr (.inl rfl) | exact .inr (.inr rfl))) (je_int (i := (0 : Int)))) (je_op op_mulU sp_mulU (je_int (i := (7919 : Int))) (je_ix ix_seq sp_ix (je_var (i := 0) rfl (by first | exact .inl rfl | exact .inr (.inl rfl) | exact .inr (.inr rfl))) (je_int (i := (1 : Int)))))) (je_int (i := (48271 : Int)))) ja_nil)) (je_int (i := (2147483647 : Int)))))
      (jb_cons (js_set (i := 3) nd rfl (by first | exact .inl rfl | exact .inr rfl) (je_op op_mod sp_mod (je_callTy call_int1 sp_int rfl T.b_int (by decide +kernel) (ja_cons (je_op op_mulU sp_mulU (je_var (i := 3) rfl (by first | exact .inl rfl | exact .inr (.inl rfl) | exact .inr (.inr rfl))) (je_op op_addU sp_addU (je_op op_fdiv sp_fdiv (je_var (i := 3) rfl (by first | exact .inl rfl | exact .inr (.inl rfl) | exact .inr (.inr rfl))) (je_int (i := (1009 : Int)))) (je_int (i := (69621 : Int))))) ja_nil)) (je_int (i := (2147483647 : Int)))))
      (jb_cons (js_set (i := 3) nd rfl (by first | exact .inl rfl | exact .inr rfl) (je_op op_mod sp_mod (je_callTy call_int1 sp_int rfl T.b_int (by decide +kernel) (ja_cons (je_op op_mulU sp_mulU (je_var (i := 3) rfl (by first | exact .inl rfl | exact .inr (.inl rfl) | exact .inr (.inr rfl))) (je_op op_addU sp_addU (je_op op_fdiv sp_fdiv (je_var (i := 3) rfl (by first | exact .inl rfl | exact .inr (.inl rfl) | exact .inr (.inr rfl))) (je_int (i := (2003 : Int)))) (je_int (i := (40692 : Int))))) ja_nil)) (je_int (i := (2147483399 : Int)))))
      (jb_one (js_ret (je_op op_mod sp_mod (je_callTy call_int1 sp_int rfl T.b_int (by decide +kernel) (ja_cons (je_op op_fdiv sp_fdiv (je_var (i := 3) rfl (by first | exact .inl rfl | exact .inr (.inl rfl) | exact .inr (.inr rfl))) (je_int (i := (16 : Int)))) ja_nil)) (je_var (i := 1) rfl (by first | exact .inl rfl | exact .inr (.inl rfl) | exact .inr (.inr rfl))))))))))))⟩), (F.binds (ps := ["_law_pool_here", "_law_many"]) fun _ _ _ _ _ _ us hl => match us, hl with | [_, _], _ => rfl)⟩, F.kp⟩
end Mi

namespace Mi
open PySem PySem.Spec PyProof.Rows L2
theorem sc__law_names : FnScope ["_law_pool_here", "_law_many", "_law_place", "_law_start", "_law_step", "_law_letters", "_law_names_here", "_law_k", "_law_word", "_law_name", "_law_at"] ["_law_pool_here", "_law_many"] (defScope s__law_names) := ⟨rfl, rfl, rfl, by decide +kernel, rfl, by decide +kernel, by decide +kernel⟩
theorem ok__law_names {P : Program} {w : World} {K : PySem.W.Frag} {mg : Str → Option Value} {base : Heap} {ca : Nat → Addr} {A : Ad} {fd : FuncData} (T : Txt A K w mg ca) (H__law_draw : Fn P w K mg base ca 1 A.f__law_draw ["_law_pool_here", "_law_many"] g__law_draw) (F : Fun K "_law_names" "_law_names" s__law_names A.f__law_names fd) : Fn P w K mg base ca 2 A.f__law_names ["_law_pool_here", "_law_many"] g__law_names := by
  obtain ⟨fd__law_draw, F__law_draw, B__law_draw⟩ := H__law_draw.ok
  have KP__law_draw := H__law_draw.kp
  refine ⟨⟨fd, fn_mir (P := P) (w := w) (mg := mg) (base := base) (ca := ca) (N := ["_law_pool_here", "_law_many", "_law_place", "_law_start", "_law_step", "_law_letters", "_law_names_here", "_law_k", "_law_word", "_law_name", "_law_at"]) (body := b__law_names) F sc__law_names fun cdv AA outer s H E hr => (by
    have nd := sc__law_names.nd
    have tk := takes_of (X := cxOf (L2.CX P w) P w K mg base ["_law_pool_here", "_law_many", "_law_place", "_law_start", "_law_step", "_law_letters", "_law_names_here", "_law_k", "_law_word", "_law_name", "_law_at"] "_law_names" (defScope s__law_names) A.f__law_names cdv AA outer s H E) (E := E) rfl rfl rfl rfl
    exact ⟨_, (jb_cons (js_set (i := 2) nd rfl (by first | exact .inl rfl | exact .inr rfl) (je_call F__law_draw (hr.mono (by decide)) rfl T.g__law_draw KP__law_draw B__law_draw tk (ja_cons (je_var (i := 0) rfl (by first | exact .inl rfl | exact .inr (.inl rfl) | exact .inr (.inr rfl))) (ja_cons (je_int (i := (3 : Int))) ja_nil))))
      (jb_cons (js_set (i := 3) nd rfl (by first | exact .inl rfl | exact .inr rfl) (je_call F__law_draw (hr.mono (by decide)) rfl T.g__law_draw KP__law_draw B__law_draw tk (ja_cons (je_var (i := 0) rfl (by first | exact .inl rfl | exact .inr (.inl rfl) | exact .inr (.inr rfl))) (ja_cons (je_int (i := (26 : Int))) ja_nil))))
      (jb_cons (js_set (i := 4) nd rfl (by first | exact .inl rfl | exact .inr rfl) (je_ix ix_seq sp_ix (JN.frz (jn_lst (ja_cons (je_int (i := (1 : Int))) (ja_cons (je_int (i := (3 : Int))) (ja_cons (je_int (i := (5 : Int))) (ja_cons (je_int (i := (7 : Int))) (ja_cons (je_int (i := (9 : Int))) (ja_cons (je_int (i := (11 : Int))) (ja_cons (je_int (i := (15 : Int))) (ja_cons (je_int (i := (17 : Int))) (ja_cons (je_int (i := (19 : Int))) (ja_cons (je_int (i := (21 : Int))) (ja_cons (je_int (i := (23 : Int))) (ja_cons (je_int (i := (25 : Int))) ja_nil)))))))))))))) (je_call F__law_draw (hr.mono (by decide)) rfl T.g__law_draw KP__law_draw B__law_draw tk (ja_cons (je_var (i := 0) rfl (by first | exact .inl rfl | exact .inr (.inl rfl) | exact .inr (.inr rfl))) (ja_cons (je_int (i := (12 : Int))) ja_nil)))))
      (jb_cons (js_set (i := 5) nd rfl (by first | exact .inl rfl | exact .inr rfl) (je_str (i := ("abcdefghijklmnopqrstuvwxyz" : Str))))
      (jb_cons (js_own (i := 6) nd rfl (by first | exact .inl rfl | exact .inr rfl) (jn_lst ja_nil))
      (jb_cons (js_for (passes_of rfl) rfl (ji_range1 rfl T.b_range (ja_cons (je_var (i := 1) rfl (by first | exact .inl rfl | exact .inr (.inl rfl) | exact .inr (.inr rfl))) ja_nil)) (jg_name (i := 7) nd rfl (by first | exact .inl rfl | exact .inr rfl))
      (jb_cons (js_ownLc (tt := tYes) (te' := (tOp (rIx K) (tVar 5) (tCallSD (spM ⟨K, ca, w⟩ (["_law_pool_here", "_law_many"] : List Str).length g__law_draw) [] (fun σ c dx H' => W0 c dx σ H') (tCons (tVar 0) (tCons (tC (.int (26 : Int))) tNil))))) (mt := (ret true)) (me := (op2 ixD (vr 5) (eCall g__law_draw (aCons (vr 0) (aCons (kk (.int (26 : Int))) aNil))))) (i := 8) (own := [("_law_at", 10)]) rfl nd rfl rfl (sw_true rfl rfl rfl (by decide +kernel)) (by exact (ji_range1 rfl T.b_range (ja_cons (je_op op_addU sp_addU (je_op op_addU sp_addU (je_var (i := 2) rfl (by first | exact .inl rfl | exact .inr (.inl rfl) | exact .inr (.inr rfl))) (je_int (i := (1 : Int)))) (je_call F__law_draw (hr.mono (by decide)) rfl T.g__law_draw KP__law_draw B__law_draw tk (ja_cons (je_var (i := 0) rfl (by first | exact .inl rfl | exact .inr (.inl rfl) | exact .inr (.inr rfl))) (ja_cons (je_op op_sub sp_sub (je_int (i := (3 : Int))) (je_var (i := 2) rfl (by first | exact .inl rfl | exact .inr (.inl rfl) | exact .inr (.inr rfl)))) ja_nil)))) ja_nil))) (blkOk_by (own := [("_law_at", 10)]) (N := ["_law_pool_here", "_law_many", "_law_place", "_law_start", "_law_step", "_law_letters", "_law_names_here", "_law_k", "_law_word", "_law_name", "_law_at"]) (sc := defScope s__law_names) (by decide +kernel)) (fun _ _ _ _ _ => by exact (jg_name (i := 10) nd rfl (by first | exact .inl rfl | exact .inr rfl))) (gw_name (by decide)) gN_len (fun _ _ _ _ _ => by exact jts_nil) (fun _ _ _ _ _ => by exact (je_ix ix_seq sp_ix (je_var (i := 5) rfl (by first | exact .inl rfl | exact .inr (.inl rfl) | exact .inr (.inr rfl))) (je_call F__law_draw (hr.mono (by decide)) rfl T.g__law_draw KP__law_draw B__law_draw takes0 (ja_cons (je_var (i := 0) rfl (by first | exact .inl rfl | exact .inr (.inl rfl) | exact .inr (.inr rfl))) (ja_cons (je_int (i := (26 : Int))) ja_nil))))))
      (jb_cons (js_sub (set_U (hu_of hr)) sp_setU (je_ix ix_seq sp_ix (je_var (i := 5) rfl (by first | exact .inl rfl | exact .inr (.inl rfl) | exact .inr (.inr rfl))) (je_op op_mod sp_mod (je_callTy call_int1 sp_int rfl T.b_int (by decide +kernel) (ja_cons (je_op op_addU sp_addU (je_var (i := 3) rfl (by first | exact .inl rfl | exact .inr (.inl rfl) | exact .inr (.inr rfl))) (je_op op_mulU sp_mulU (je_var (i := 4) rfl (by first | exact .inl rfl | exact .inr (.inl rfl) | exact .inr (.inr rfl))) (je_var (i := 7) rfl (by first | exact .inl rfl | exact .inr (.inl rfl) | exact .inr (.inr rfl))))) ja_nil)) (je_int (i := (26 : Int))))) (je_var (i := 8) rfl (by first | exact .inl rfl | exact .inr (.inl rfl) | exact .inr (.inr rfl))) (je_var (i := 2) rfl (by first | exact .inl rfl | exact .inr (.inl rfl) | exact .inr (.inr rfl))))
      (jb_cons (js_set (i := 9) nd rfl (by first | exact .inl rfl | exact .inr rfl) (je_me PySem.F.plainAttrs_str PySem.F.slot_str_join PySem.F.type_str_join mt_join sp_join ty_str (je_str (i := ("" : Str))) (ja_cons (je_var (i := 8) rfl (by first | exact .inl rfl | exact .inr (.inl rfl) | exact .inr (.inr rfl))) ja_nil)))
      (jb_cons (js_if (jt_cmp (op_inU (hu_of hr)) sp_inU (je_var (i := 9) rfl (by first | exact .inl rfl | exact .inr (.inl rfl) | exact .inr (.inr rfl))) (JN.frz (jn_lst (ja_cons (je_str (i := ("x" : Str))) (ja_cons (je_str (i := ("y" : Str))) (ja_cons (je_str (i := ("not" : Str))) (ja_cons (je_str (i := ("and" : Str))) (ja_cons (je_str (i := ("or" : Str))) ja_nil))))))) rfl)
      (jb_one (js_set (i := 9) nd rfl (by first | exact .inl rfl | exact .inr rfl) (je_op op_addU sp_addU (je_var (i := 9) rfl (by first | exact .inl rfl | exact .inr (.inl rfl) | exact .inr (.inr rfl))) (je_str (i := ("q" : Str))))))
      jb_nil)
      (jb_one (js_expr (je_mu PySem.F.plainAttrs_list PySem.F.slot_list_append PySem.F.type_list_append mt_append sp_append ty_lst (je_var (i := 6) rfl (by first | exact .inl rfl | exact .inr (.inl rfl) | exact .inr (.inr rfl))) (ja_cons (je_var (i := 9) rfl (by first | exact .inl rfl | exact .inr (.inl rfl) | exact .inr (.inr rfl))) ja_nil)))))))))
      (jb_one (js_ret (je_var (i := 6) rfl (by first | exact .inl rfl | exact .inr (.inl rfl) | exact .inr (.inr rfl)))))))))))⟩), (F.binds (ps := ["_law_pool_here", "_law_many"]) fun _ _ _ _ _ _ us hl => match us, hl with | [_, _], _ => rfl)⟩, F.kp⟩
end Mi

namespace Mi
open PySem PySem.Spec PyProof.Rows L2
theorem sc_is_sequence : FnScope ["value"] ["value"] (defScope s_is_sequence) := ⟨rfl, rfl, rfl, by decide +kernel, rfl, by decide +kernel, by decide +kernel⟩
theorem ok_is_sequence {P : Program} {w : World} {K : PySem.W.Frag} {mg : Str → Option Value} {base : Heap} {ca : Nat → Addr} {A : Ad} {fd : FuncData} (T : Txt A K w mg ca) (F : Fun K "is_sequence" "is_sequence" s_is_sequence A.f_is_sequence fd) : Fn P w K mg base ca 1 A.f_is_sequence ["value"] g_is_sequence := by
  refine ⟨⟨fd, fn_mir (P := P) (w := w) (mg := mg) (base := base) (ca := ca) (N := ["value"]) (body := b_is_sequence) F sc_is_sequence fun cdv AA outer s H E hr => (by
    have nd := sc_is_sequence.nd
    have tk := takes_of (X := cxOf (L2.CX P w) P w K mg base ["value"] "is_sequence" (defScope s_is_sequence) A.f_is_sequence cdv AA outer s H E) (E := E) rfl rfl rfl rfl
    exact ⟨_, (jb_one (js_ret (je_isiT (cvs := [.ty "list", .ty "tuple"]) rfl T.b_isinstance (je_var (i := 0) rfl (by first | exact .inl rfl | exact .inr (.inl rfl) | exact .inr (.inr rfl))) (pa_cons (pe_bltn (v := .ty "list") (u := .type "list") rfl T.b_list (by decide +kernel) rfl) (pa_cons (pe_bltn (v := .ty "tuple") (u := .type "tuple") rfl T.b_tuple (by decide +kernel) rfl) pa_nil)) (fun _ _ _ => rfl) (.cons (.ty _) (.cons (.ty _) .nil)) (by decide) isa_list_tuple_ok)))⟩), (F.binds (ps := ["value"]) fun _ _ _ _ _ _ us hl => match us, hl with | [_], _ => rfl)⟩, F.kp⟩
end Mi

namespace Mi
open PySem PySem.Spec PyProof.Rows L2
theorem sc_is_word : FnScope ["value", "letter"] ["value"] (defScope s_is_word) := ⟨rfl, rfl, rfl, by decide +kernel, rfl, by decide +kernel, by decide +kernel⟩
theorem ok_is_word {P : Program} {w : World} {K : PySem.W.Frag} {mg : Str → Option Value} {base : Heap} {ca : Nat → Addr} {A : Ad} {fd : FuncData} (T : Txt A K w mg ca) (F : Fun K "is_word" "is_word" s_is_word A.f_is_word fd) : Fn P w K mg base ca 1 A.f_is_word ["value"] g_is_word := by
  obtain ⟨_, c_LETTERS⟩ := T.c_LETTERS
  obtain ⟨_, c_MOST_LETTERS⟩ := T.c_MOST_LETTERS
  refine ⟨⟨fd, fn_mir (P := P) (w := w) (mg := mg) (base := base) (ca := ca) (N := ["value", "letter"]) (body := b_is_word) F sc_is_word fun cdv AA outer s H E hr => (by
    have nd := sc_is_word.nd
    have tk := takes_of (X := cxOf (L2.CX P w) P w K mg base ["value", "letter"] "is_word" (defScope s_is_word) A.f_is_word cdv AA outer s H E) (E := E) rfl rfl rfl rfl
    exact ⟨_, (jb_cons (js_if (JW.jt (jw_or (jt_not (jt_val (je_isi rfl T.b_isinstance (je_var (i := 0) rfl (by first | exact .inl rfl | exact .inr (.inl rfl) | exact .inr (.inr rfl))) (pe_bltn (v := .ty "str") (u := .type "str") rfl T.b_str (by decide +kernel) rfl) (.ty _) isa_str_ok))) (jw_or1 (jt_not (jt_chn op_le sp_cmp op_le sp_cmp (je_int (i := (1 : Int))) (je_callB call_lenU sp_lenU rfl T.b_len (by decide +kernel) (ja_cons (je_var (i := 0) rfl (by first | exact .inl rfl | exact .inr (.inl rfl) | exact .inr (.inr rfl))) ja_nil)) (je_gint (i := (6 : Int)) rfl c_MOST_LETTERS))))))
      (jb_one (js_ret (je_bl (i := false))))
      jb_nil)
      (jb_cons (js_for (passes_of rfl) rfl (ji_seq (je_var (i := 0) rfl (by first | exact .inl rfl | exact .inr (.inl rfl) | exact .inr (.inr rfl)))) (jg_name (i := 1) nd rfl (by first | exact .inl rfl | exact .inr rfl))
      (jb_one (js_if (jt_cmp (op_notInU (hu_of hr)) sp_inU (je_var (i := 1) rfl (by first | exact .inl rfl | exact .inr (.inl rfl) | exact .inr (.inr rfl))) (je_gstr (i := ("abcdefghijklmnopqrstuvwxyz" : Str)) rfl c_LETTERS) rfl)
      (jb_one (js_ret (je_bl (i := false))))
      jb_nil)))
      (jb_one (js_ret (je_bl (i := true))))))⟩), (F.binds (ps := ["value"]) fun _ _ _ _ _ _ us hl => match us, hl with | [_], _ => rfl)⟩, F.kp⟩
end Mi

namespace Mi
open PySem PySem.Spec PyProof.Rows L2
theorem sc_are_names : FnScope ["value", "most", "taken", "seen", "name"] ["value", "most", "taken"] (defScope s_are_names) := ⟨rfl, rfl, rfl, by decide +kernel, rfl, by decide +kernel, by decide +kernel⟩
theorem ok_are_names {P : Program} {w : World} {K : PySem.W.Frag} {mg : Str → Option Value} {base : Heap} {ca : Nat → Addr} {A : Ad} {fd : FuncData} (T : Txt A K w mg ca) (H_is_sequence : Fn P w K mg base ca 1 A.f_is_sequence ["value"] g_is_sequence) (H_is_word : Fn P w K mg base ca 1 A.f_is_word ["value"] g_is_word) (F : Fun K "are_names" "are_names" s_are_names A.f_are_names fd) : Fn P w K mg base ca 2 A.f_are_names ["value", "most", "taken"] g_are_names := by
  obtain ⟨fd_is_sequence, F_is_sequence, B_is_sequence⟩ := H_is_sequence.ok
  have KP_is_sequence := H_is_sequence.kp
  obtain ⟨fd_is_word, F_is_word, B_is_word⟩ := H_is_word.ok
  have KP_is_word := H_is_word.kp
  have c_KEPT_WORDS := T.c_KEPT_WORDS
  have w_KEPT_WORDS := T.w_KEPT_WORDS
  refine ⟨⟨fd, fn_mir (P := P) (w := w) (mg := mg) (base := base) (ca := ca) (N := ["value", "most", "taken", "seen", "name"]) (body := b_are_names) F sc_are_names fun cdv AA outer s H E hr => (by
    have nd := sc_are_names.nd
    have tk := takes_of (X := cxOf (L2.CX P w) P w K mg base ["value", "most", "taken", "seen", "name"] "are_names" (defScope s_are_names) A.f_are_names cdv AA outer s H E) (E := E) rfl rfl rfl rfl
    exact ⟨_, (jb_cons (js_if (JW.jt (jw_or (jt_not (jt_val (je_call F_is_sequence (hr.mono (by decide)) rfl T.g_is_sequence KP_is_sequence B_is_sequence tk (ja_cons (je_var (i := 0) rfl (by first | exact .inl rfl | exact .inr (.inl rfl) | exact .inr (.inr rfl))) ja_nil)))) (jw_or1 (jt_cmp op_gt sp_cmp (je_callB call_lenU sp_lenU rfl T.b_len (by decide +kernel) (ja_cons (je_var (i := 0) rfl (by first | exact .inl rfl | exact .inr (.inl rfl) | exact .inr (.inr rfl))) ja_nil)) (je_var (i := 1) rfl (by first | exact .inl rfl | exact .inr (.inl rfl) | exact .inr (.inr rfl))) (nomark _)))))
      (jb_one (js_ret (je_bl (i := false))))
      jb_nil)
      (jb_cons (js_own (i := 3) nd rfl (by first | exact .inl rfl | exact .inr rfl) jn_dicK)
      (jb_cons (js_for (passes_of rfl) rfl (ji_seq (je_var (i := 0) rfl (by first | exact .inl rfl | exact .inr (.inl rfl) | exact .inr (.inr rfl)))) (jg_name (i := 4) nd rfl (by first | exact .inl rfl | exact .inr rfl))
      (jb_cons (js_if (JW.jt (jw_or (jt_not (jt_val (je_call F_is_word (hr.mono (by decide)) rfl T.g_is_word KP_is_word B_is_word tk (ja_cons (je_var (i := 4) rfl (by first | exact .inl rfl | exact .inr (.inl rfl) | exact .inr (.inr rfl))) ja_nil)))) (jw_or (jt_inW w_KEPT_WORDS rfl c_KEPT_WORDS (je_var (i := 4) rfl (by first | exact .inl rfl | exact .inr (.inl rfl) | exact .inr (.inr rfl)))) (jw_or (jt_cmp (op_inU (hu_of hr)) sp_inU (je_var (i := 4) rfl (by first | exact .inl rfl | exact .inr (.inl rfl) | exact .inr (.inr rfl))) (je_var (i := 2) rfl (by first | exact .inl rfl | exact .inr (.inl rfl) | exact .inr (.inr rfl))) rfl) (jw_or1 (jt_cmp (op_inU (hu_of hr)) sp_inU (je_var (i := 4) rfl (by first | exact .inl rfl | exact .inr (.inl rfl) | exact .inr (.inr rfl))) (je_var (i := 3) rfl (by first | exact .inl rfl | exact .inr (.inl rfl) | exact .inr (.inr rfl))) rfl))))))
      (jb_one (js_ret (je_bl (i := false))))
      jb_nil)
      (jb_one (js_sub (set_U (hu_of hr)) sp_setU (je_bl (i := true)) (je_var (i := 3) rfl (by first | exact .inl rfl | exact .inr (.inl rfl) | exact .inr (.inr rfl))) (je_var (i := 4) rfl (by first | exact .inl rfl | exact .inr (.inl rfl) | exact .inr (.inr rfl)))))))
      (jb_one (js_ret (je_bl (i := true)))))))⟩), (F.binds (ps := ["value", "most", "taken"]) fun _ _ _ _ _ _ us hl => match us, hl with | [_, _, _], _ => rfl)⟩, F.kp⟩
end Mi

namespace Mi
open PySem PySem.Spec PyProof.Rows L2
theorem sc_is_key : FnScope ["value", "table"] ["value", "table"] (defScope s_is_key) := ⟨rfl, rfl, rfl, by decide +kernel, rfl, by decide +kernel, by decide +kernel⟩
theorem ok_is_key {P : Program} {w : World} {K : PySem.W.Frag} {mg : Str → Option Value} {base : Heap} {ca : Nat → Addr} {A : Ad} {fd : FuncData} (T : Txt A K w mg ca) (F : Fun K "is_key" "is_key" s_is_key A.f_is_key fd) : Fn P w K mg base ca 1 A.f_is_key ["value", "table"] g_is_key := by
  refine ⟨⟨fd, fn_mir (P := P) (w := w) (mg := mg) (base := base) (ca := ca) (N := ["value", "table"]) (body := b_is_key) F sc_is_key fun cdv AA outer s H E hr => (by
    have nd := sc_is_key.nd
    have tk := takes_of (X := cxOf (L2.CX P w) P w K mg base ["value", "table"] "is_key" (defScope s_is_key) A.f_is_key cdv AA outer s H E) (E := E) rfl rfl rfl rfl
    exact ⟨_, (jb_one (js_ret (je_and (je_isi rfl T.b_isinstance (je_var (i := 0) rfl (by first | exact .inl rfl | exact .inr (.inl rfl) | exact .inr (.inr rfl))) (pe_bltn (v := .ty "str") (u := .type "str") rfl T.b_str (by decide +kernel) rfl) (.ty _) isa_str_ok) (je_one (je_cmp (op_inU (hu_of hr)) sp_inU (je_var (i := 0) rfl (by first | exact .inl rfl | exact .inr (.inl rfl) | exact .inr (.inr rfl))) (je_var (i := 1) rfl (by first | exact .inl rfl | exact .inr (.inl rfl) | exact .inr (.inr rfl))) rfl)))))⟩), (F.binds (ps := ["value", "table"]) fun _ _ _ _ _ _ us hl => match us, hl with | [_, _], _ => rfl)⟩, F.kp⟩
end Mi

namespace Mi
open PySem PySem.Spec PyProof.Rows L2
theorem sc_are_functions : FnScope ["value", "ties", "name"] ["value", "ties"] (defScope s_are_functions) := ⟨rfl, rfl, rfl, by decide +kernel, rfl, by decide +kernel, by decide +kernel⟩
theorem ok_are_functions {P : Program} {w : World} {K : PySem.W.Frag} {mg : Str → Option Value} {base : Heap} {ca : Nat → Addr} {A : Ad} {fd : FuncData} (T : Txt A K w mg ca) (H_is_sequence : Fn P w K mg base ca 1 A.f_is_sequence ["value"] g_is_sequence) (H_is_key : Fn P w K mg base ca 1 A.f_is_key ["value", "table"] g_is_key) (F : Fun K "are_functions" "are_functions" s_are_functions A.f_are_functions fd) : Fn P w K mg base ca 2 A.f_are_functions ["value", "ties"] g_are_functions := by
  obtain ⟨fd_is_sequence, F_is_sequence, B_is_sequence⟩ := H_is_sequence.ok
  have KP_is_sequence := H_is_sequence.kp
  obtain ⟨fd_is_key, F_is_key, B_is_key⟩ := H_is_key.ok
  have KP_is_key := H_is_key.kp
  refine ⟨⟨fd, fn_mir (P := P) (w := w) (mg := mg) (base := base) (ca := ca) (N := ["value", "ties", "name"]) (body := b_are_functions) F sc_are_functions fun cdv AA outer s H E hr => (by
    have nd := sc_are_functions.nd
    have tk := takes_of (X := cxOf (L2.CX P w) P w K mg base ["value", "ties", "name"] "are_functions" (defScope s_are_functions) A.f_are_functions cdv AA outer s H E) (E := E) rfl rfl rfl rfl
    exact ⟨_, (jb_cons (js_if (JW.jt (jw_or (jt_not (jt_val (je_call F_is_sequence (hr.mono (by decide)) rfl T.g_is_sequence KP_is_sequence B_is_sequence tk (ja_cons (je_var (i := 0) rfl (by first | exact .inl rfl | exact .inr (.inl rfl) | exact .inr (.inr rfl))) ja_nil)))) (jw_or1 (jt_cmp op_gt sp_cmp (je_callB call_lenU sp_lenU rfl T.b_len (by decide +kernel) (ja_cons (je_var (i := 0) rfl (by first | exact .inl rfl | exact .inr (.inl rfl) | exact .inr (.inr rfl))) ja_nil)) (je_int (i := (1 : Int))) (nomark _)))))
      (jb_one (js_ret (je_bl (i := false))))
      jb_nil)
      (jb_cons (js_for (passes_of rfl) rfl (ji_seq (je_var (i := 0) rfl (by first | exact .inl rfl | exact .inr (.inl rfl) | exact .inr (.inr rfl)))) (jg_name (i := 2) nd rfl (by first | exact .inl rfl | exact .inr rfl))
      (jb_one (js_if (jt_not (jt_val (je_call F_is_key (hr.mono (by decide)) rfl T.g_is_key KP_is_key B_is_key tk (ja_cons (je_var (i := 2) rfl (by first | exact .inl rfl | exact .inr (.inl rfl) | exact .inr (.inr rfl))) (ja_cons (je_var (i := 1) rfl (by first | exact .inl rfl | exact .inr (.inl rfl) | exact .inr (.inr rfl))) ja_nil)))))
      (jb_one (js_ret (je_bl (i := false))))
      jb_nil)))
      (jb_one (js_ret (je_bl (i := true))))))⟩), (F.binds (ps := ["value", "ties"]) fun _ _ _ _ _ _ us hl => match us, hl with | [_, _], _ => rfl)⟩, F.kp⟩
end Mi

namespace Mi
open PySem PySem.Spec PyProof.Rows L2
theorem sc_Tongue___init__ : FnScope ["self", "marks", "ties", "functions"] ["self", "marks", "ties", "functions"] (defScope s_Tongue___init__) := ⟨rfl, rfl, rfl, by decide +kernel, rfl, by decide +kernel, by decide +kernel⟩
theorem ok_Tongue___init__ {P : Program} {w : World} {K : PySem.W.Frag} {mg : Str → Option Value} {base : Heap} {ca : Nat → Addr} {A : Ad} {fd : FuncData} (T : Txt A K w mg ca) (H_are_names : Fn P w K mg base ca 2 A.f_are_names ["value", "most", "taken"] g_are_names) (H_are_functions : Fn P w K mg base ca 2 A.f_are_functions ["value", "ties"] g_are_functions) (F : Fun K "__init__" "Tongue.__init__" s_Tongue___init__ A.f_Tongue___init__ fd) : FnI P w K mg base ca 0 3 A.f_Tongue___init__ "self" ["marks", "ties", "functions"] g_Tongue___init__ := by
  obtain ⟨fd_are_names, F_are_names, B_are_names⟩ := H_are_names.ok
  have KP_are_names := H_are_names.kp
  obtain ⟨fd_are_functions, F_are_functions, B_are_functions⟩ := H_are_functions.ok
  have KP_are_functions := H_are_functions.kp
  obtain ⟨_, c_MOST_MARKS⟩ := T.c_MOST_MARKS
  obtain ⟨_, c_MOST_TIES⟩ := T.c_MOST_TIES
  refine ⟨⟨fd, fn_init (P := P) (w := w) (mg := mg) (base := base) (ca := ca) (n0 := "self") (N := ["marks", "ties", "functions"]) (body := b_Tongue___init__) F sc_Tongue___init__ fun cdv AA outer s H E hr => (by
    have nd := sc_Tongue___init__.nd
    have tk := takes_of (X := cxOf (L2.CX P w) P w K mg base ["self", "marks", "ties", "functions"] "Tongue.__init__" (defScope s_Tongue___init__) A.f_Tongue___init__ cdv AA outer s H E) (E := E) rfl rfl rfl rfl
    exact ⟨_, (jb_cons (js_if (jt_not (jt_val (je_call F_are_names (hr.mono (by decide)) rfl T.g_are_names KP_are_names B_are_names tk (ja_cons (je_var (i := 1) rfl (by first | exact .inl rfl | exact .inr (.inl rfl) | exact .inr (.inr rfl))) (ja_cons (je_gint (i := (3 : Int)) rfl c_MOST_MARKS) (ja_cons (je_tup ja_nil) ja_nil))))))
      (jb_one js_never)
      jb_nil)
      (jb_cons (js_if (jt_not (jt_val (je_call F_are_names (hr.mono (by decide)) rfl T.g_are_names KP_are_names B_are_names tk (ja_cons (je_var (i := 2) rfl (by first | exact .inl rfl | exact .inr (.inl rfl) | exact .inr (.inr rfl))) (ja_cons (je_gint (i := (2 : Int)) rfl c_MOST_TIES) (ja_cons (je_var (i := 1) rfl (by first | exact .inl rfl | exact .inr (.inl rfl) | exact .inr (.inr rfl))) ja_nil))))))
      (jb_one js_never)
      jb_nil)
      (jb_cons (js_if (jt_not (jt_val (je_call F_are_functions (hr.mono (by decide)) rfl T.g_are_functions KP_are_functions B_are_functions tk (ja_cons (je_var (i := 3) rfl (by first | exact .inl rfl | exact .inr (.inl rfl) | exact .inr (.inr rfl))) (ja_cons (je_callTy call_tuple_of sp_tuple rfl T.b_tuple (by decide +kernel) (ja_cons (je_var (i := 2) rfl (by first | exact .inl rfl | exact .inr (.inl rfl) | exact .inr (.inr rfl))) ja_nil)) ja_nil)))))
      (jb_one js_never)
      jb_nil)
      (jb_cons (js_fld (c := 0) T.cl_Tongue T.na_Tongue_kept_marks (je_callTy call_tuple_of sp_tuple rfl T.b_tuple (by decide +kernel) (ja_cons (je_var (i := 1) rfl (by first | exact .inl rfl | exact .inr (.inl rfl) | exact .inr (.inr rfl))) ja_nil)) (je_var (i := 0) rfl (by first | exact .inl rfl | exact .inr (.inl rfl) | exact .inr (.inr rfl))))
      (jb_cons (js_fld (c := 0) T.cl_Tongue T.na_Tongue_kept_ties (je_callTy call_tuple_of sp_tuple rfl T.b_tuple (by decide +kernel) (ja_cons (je_var (i := 2) rfl (by first | exact .inl rfl | exact .inr (.inl rfl) | exact .inr (.inr rfl))) ja_nil)) (je_var (i := 0) rfl (by first | exact .inl rfl | exact .inr (.inl rfl) | exact .inr (.inr rfl))))
      (jb_one (js_fld (c := 0) T.cl_Tongue T.na_Tongue_functions (je_callTy call_tuple_of sp_tuple rfl T.b_tuple (by decide +kernel) (ja_cons (je_var (i := 3) rfl (by first | exact .inl rfl | exact .inr (.inl rfl) | exact .inr (.inr rfl))) ja_nil)) (je_var (i := 0) rfl (by first | exact .inl rfl | exact .inr (.inl rfl) | exact .inr (.inr rfl))))))))))⟩), (F.binds (ps := ["self", "marks", "ties", "functions"]) fun _ _ _ _ _ _ us hl => match us, hl with | [_, _, _, _], _ => rfl)⟩⟩
end Mi

namespace Mi
open PySem PySem.Spec PyProof.Rows L2
theorem sc_is_dict_of : FnScope ["value", "names", "name"] ["value", "names"] (defScope s_is_dict_of) := ⟨rfl, rfl, rfl, by decide +kernel, rfl, by decide +kernel, by decide +kernel⟩
theorem ok_is_dict_of {P : Program} {w : World} {K : PySem.W.Frag} {mg : Str → Option Value} {base : Heap} {ca : Nat → Addr} {A : Ad} {fd : FuncData} (T : Txt A K w mg ca) (H_is_key : Fn P w K mg base ca 1 A.f_is_key ["value", "table"] g_is_key) (F : Fun K "is_dict_of" "is_dict_of" s_is_dict_of A.f_is_dict_of fd) : Fn P w K mg base ca 2 A.f_is_dict_of ["value", "names"] g_is_dict_of := by
  obtain ⟨fd_is_key, F_is_key, B_is_key⟩ := H_is_key.ok
  have KP_is_key := H_is_key.kp
  refine ⟨⟨fd, fn_mir (P := P) (w := w) (mg := mg) (base := base) (ca := ca) (N := ["value", "names", "name"]) (body := b_is_dict_of) F sc_is_dict_of fun cdv AA outer s H E hr => (by
    have nd := sc_is_dict_of.nd
    have tk := takes_of (X := cxOf (L2.CX P w) P w K mg base ["value", "names", "name"] "is_dict_of" (defScope s_is_dict_of) A.f_is_dict_of cdv AA outer s H E) (E := E) rfl rfl rfl rfl
    exact ⟨_, (jb_cons (js_if (JW.jt (jw_or (jt_not (jt_val (je_isi rfl T.b_isinstance (je_var (i := 0) rfl (by first | exact .inl rfl | exact .inr (.inl rfl) | exact .inr (.inr rfl))) (pe_bltn (v := .ty "dict") (u := .type "dict") rfl T.b_dict (by decide +kernel) rfl) (.ty _) isa_dict_ok))) (jw_or1 (jt_cmp (op_neD hr.units) sp_ne (je_callB call_lenU sp_lenU rfl T.b_len (by decide +kernel) (ja_cons (je_var (i := 0) rfl (by first | exact .inl rfl | exact .inr (.inl rfl) | exact .inr (.inr rfl))) ja_nil)) (je_callB call_lenU sp_lenU rfl T.b_len (by decide +kernel) (ja_cons (je_var (i := 1) rfl (by first | exact .inl rfl | exact .inr (.inl rfl) | exact .inr (.inr rfl))) ja_nil)) (nomark _)))))
      (jb_one (js_ret (je_bl (i := false))))
      jb_nil)
      (jb_cons (js_forK (i := 0) (passes_of rfl) rfl rfl (by first | exact .inl rfl | exact .inr (.inl rfl) | exact .inr (.inr rfl)) (jg_name (i := 2) nd rfl (by first | exact .inl rfl | exact .inr rfl))
      (jb_one (js_if (jt_not (jt_val (je_call F_is_key (hr.mono (by decide)) rfl T.g_is_key KP_is_key B_is_key tk (ja_cons (je_var (i := 2) rfl (by first | exact .inl rfl | exact .inr (.inl rfl) | exact .inr (.inr rfl))) (ja_cons (je_var (i := 1) rfl (by first | exact .inl rfl | exact .inr (.inl rfl) | exact .inr (.inr rfl))) ja_nil)))))
      (jb_one (js_ret (je_bl (i := false))))
      jb_nil)))
      (jb_one (js_ret (je_bl (i := true))))))⟩), (F.binds (ps := ["value", "names"]) fun _ _ _ _ _ _ us hl => match us, hl with | [_, _], _ => rfl)⟩, F.kp⟩
end Mi

namespace Mi
open PySem PySem.Spec PyProof.Rows L2
theorem sc_Tongue_marks : FnScope ["self"] ["self"] (defScope s_Tongue_marks) := ⟨rfl, rfl, rfl, by decide +kernel, rfl, by decide +kernel, by decide +kernel⟩
theorem ok_Tongue_marks {P : Program} {w : World} {K : PySem.W.Frag} {mg : Str → Option Value} {base : Heap} {ca : Nat → Addr} {A : Ad} {fd : FuncData} (T : Txt A K w mg ca) (F : Fun K "marks" "Tongue.marks" s_Tongue_marks A.f_Tongue_marks fd) : Fn P w K mg base ca 1 A.f_Tongue_marks ["self"] g_Tongue_marks := by
  refine ⟨⟨fd, fn_mir (P := P) (w := w) (mg := mg) (base := base) (ca := ca) (N := ["self"]) (body := b_Tongue_marks) F sc_Tongue_marks fun cdv AA outer s H E hr => (by
    have nd := sc_Tongue_marks.nd
    have tk := takes_of (X := cxOf (L2.CX P w) P w K mg base ["self"] "Tongue.marks" (defScope s_Tongue_marks) A.f_Tongue_marks cdv AA outer s H E) (E := E) rfl rfl rfl rfl
    exact ⟨_, (jb_one (js_ret (je_fld (c := 0) T.cl_Tongue T.na_Tongue_kept_marks (je_var (i := 0) rfl (by first | exact .inl rfl | exact .inr (.inl rfl) | exact .inr (.inr rfl))))))⟩), (F.binds (ps := ["self"]) fun _ _ _ _ _ _ us hl => match us, hl with | [_], _ => rfl)⟩, F.kp⟩
end Mi

namespace Mi
open PySem PySem.Spec PyProof.Rows L2
theorem sc_is_integer : FnScope ["value"] ["value"] (defScope s_is_integer) := ⟨rfl, rfl, rfl, by decide +kernel, rfl, by decide +kernel, by decide +kernel⟩
theorem ok_is_integer {P : Program} {w : World} {K : PySem.W.Frag} {mg : Str → Option Value} {base : Heap} {ca : Nat → Addr} {A : Ad} {fd : FuncData} (T : Txt A K w mg ca) (F : Fun K "is_integer" "is_integer" s_is_integer A.f_is_integer fd) : Fn P w K mg base ca 1 A.f_is_integer ["value"] g_is_integer := by
  refine ⟨⟨fd, fn_mir (P := P) (w := w) (mg := mg) (base := base) (ca := ca) (N := ["value"]) (body := b_is_integer) F sc_is_integer fun cdv AA outer s H E hr => (by
    have nd := sc_is_integer.nd
    have tk := takes_of (X := cxOf (L2.CX P w) P w K mg base ["value"] "is_integer" (defScope s_is_integer) A.f_is_integer cdv AA outer s H E) (E := E) rfl rfl rfl rfl
    exact ⟨_, (jb_one (js_ret (je_and (je_isi rfl T.b_isinstance (je_var (i := 0) rfl (by first | exact .inl rfl | exact .inr (.inl rfl) | exact .inr (.inr rfl))) (pe_bltn (v := .ty "int") (u := .type "int") rfl T.b_int (by decide +kernel) rfl) (.ty _) isa_int_ok) (je_one (je_not (je_isi rfl T.b_isinstance (je_var (i := 0) rfl (by first | exact .inl rfl | exact .inr (.inl rfl) | exact .inr (.inr rfl))) (pe_bltn (v := .ty "bool") (u := .type "bool") rfl T.b_bool (by decide +kernel) rfl) (.ty _) isa_bool_ok))))))⟩), (F.binds (ps := ["value"]) fun _ _ _ _ _ _ us hl => match us, hl with | [_], _ => rfl)⟩, F.kp⟩
end Mi

namespace Mi
open PySem PySem.Spec PyProof.Rows L2
theorem sc_is_within : FnScope ["value", "least", "most"] ["value", "least", "most"] (defScope s_is_within) := ⟨rfl, rfl, rfl, by decide +kernel, rfl, by decide +kernel, by decide +kernel⟩
theorem ok_is_within {P : Program} {w : World} {K : PySem.W.Frag} {mg : Str → Option Value} {base : Heap} {ca : Nat → Addr} {A : Ad} {fd : FuncData} (T : Txt A K w mg ca) (H_is_integer : Fn P w K mg base ca 1 A.f_is_integer ["value"] g_is_integer) (F : Fun K "is_within" "is_within" s_is_within A.f_is_within fd) : Fn P w K mg base ca 2 A.f_is_within ["value", "least", "most"] g_is_within := by
  obtain ⟨fd_is_integer, F_is_integer, B_is_integer⟩ := H_is_integer.ok
  have KP_is_integer := H_is_integer.kp
  refine ⟨⟨fd, fn_mir (P := P) (w := w) (mg := mg) (base := base) (ca := ca) (N := ["value", "least", "most"]) (body := b_is_within) F sc_is_within fun cdv AA outer s H E hr => (by
    have nd := sc_is_within.nd
    have tk := takes_of (X := cxOf (L2.CX P w) P w K mg base ["value", "least", "most"] "is_within" (defScope s_is_within) A.f_is_within cdv AA outer s H E) (E := E) rfl rfl rfl rfl
    exact ⟨_, (jb_one (js_ret (je_and (je_call F_is_integer (hr.mono (by decide)) rfl T.g_is_integer KP_is_integer B_is_integer tk (ja_cons (je_var (i := 0) rfl (by first | exact .inl rfl | exact .inr (.inl rfl) | exact .inr (.inr rfl))) ja_nil)) (je_one (je_chn op_le sp_cmp op_le sp_cmp (je_var (i := 1) rfl (by first | exact .inl rfl | exact .inr (.inl rfl) | exact .inr (.inr rfl))) (je_var (i := 0) rfl (by first | exact .inl rfl | exact .inr (.inl rfl) | exact .inr (.inr rfl))) (je_var (i := 2) rfl (by first | exact .inl rfl | exact .inr (.inl rfl) | exact .inr (.inr rfl))))))))⟩), (F.binds (ps := ["value", "least", "most"]) fun _ _ _ _ _ _ us hl => match us, hl with | [_, _, _], _ => rfl)⟩, F.kp⟩
end Mi

namespace Mi
open PySem PySem.Spec PyProof.Rows L2
theorem sc_is_thing : FnScope ["value", "things"] ["value", "things"] (defScope s_is_thing) := ⟨rfl, rfl, rfl, by decide +kernel, rfl, by decide +kernel, by decide +kernel⟩
theorem ok_is_thing {P : Program} {w : World} {K : PySem.W.Frag} {mg : Str → Option Value} {base : Heap} {ca : Nat → Addr} {A : Ad} {fd : FuncData} (T : Txt A K w mg ca) (H_is_within : Fn P w K mg base ca 2 A.f_is_within ["value", "least", "most"] g_is_within) (F : Fun K "is_thing" "is_thing" s_is_thing A.f_is_thing fd) : Fn P w K mg base ca 3 A.f_is_thing ["value", "things"] g_is_thing := by
  obtain ⟨fd_is_within, F_is_within, B_is_within⟩ := H_is_within.ok
  have KP_is_within := H_is_within.kp
  refine ⟨⟨fd, fn_mir (P := P) (w := w) (mg := mg) (base := base) (ca := ca) (N := ["value", "things"]) (body := b_is_thing) F sc_is_thing fun cdv AA outer s H E hr => (by
    have nd := sc_is_thing.nd
    have tk := takes_of (X := cxOf (L2.CX P w) P w K mg base ["value", "things"] "is_thing" (defScope s_is_thing) A.f_is_thing cdv AA outer s H E) (E := E) rfl rfl rfl rfl
    exact ⟨_, (jb_one (js_ret (je_call F_is_within (hr.mono (by decide)) rfl T.g_is_within KP_is_within B_is_within tk (ja_cons (je_var (i := 0) rfl (by first | exact .inl rfl | exact .inr (.inl rfl) | exact .inr (.inr rfl))) (ja_cons (je_int (i := (0 : Int))) (ja_cons (je_op op_sub sp_sub (je_var (i := 1) rfl (by first | exact .inl rfl | exact .inr (.inl rfl) | exact .inr (.inr rfl))) (je_int (i := (1 : Int)))) ja_nil))))))⟩), (F.binds (ps := ["value", "things"]) fun _ _ _ _ _ _ us hl => match us, hl with | [_, _], _ => rfl)⟩, F.kp⟩
end Mi

namespace Mi
open PySem PySem.Spec PyProof.Rows L2
theorem sc_are_things : FnScope ["value", "things", "seen", "thing"] ["value", "things"] (defScope s_are_things) := ⟨rfl, rfl, rfl, by decide +kernel, rfl, by decide +kernel, by decide +kernel⟩
theorem ok_are_things {P : Program} {w : World} {K : PySem.W.Frag} {mg : Str → Option Value} {base : Heap} {ca : Nat → Addr} {A : Ad} {fd : FuncData} (T : Txt A K w mg ca) (H_is_sequence : Fn P w K mg base ca 1 A.f_is_sequence ["value"] g_is_sequence) (H_is_thing : Fn P w K mg base ca 3 A.f_is_thing ["value", "things"] g_is_thing) (F : Fun K "are_things" "are_things" s_are_things A.f_are_things fd) : Fn P w K mg base ca 4 A.f_are_things ["value", "things"] g_are_things := by
  obtain ⟨fd_is_sequence, F_is_sequence, B_is_sequence⟩ := H_is_sequence.ok
  have KP_is_sequence := H_is_sequence.kp
  obtain ⟨fd_is_thing, F_is_thing, B_is_thing⟩ := H_is_thing.ok
  have KP_is_thing := H_is_thing.kp
  refine ⟨⟨fd, fn_mir (P := P) (w := w) (mg := mg) (base := base) (ca := ca) (N := ["value", "things", "seen", "thing"]) (body := b_are_things) F sc_are_things fun cdv AA outer s H E hr => (by
    have nd := sc_are_things.nd
    have tk := takes_of (X := cxOf (L2.CX P w) P w K mg base ["value", "things", "seen", "thing"] "are_things" (defScope s_are_things) A.f_are_things cdv AA outer s H E) (E := E) rfl rfl rfl rfl
    exact ⟨_, (jb_cons (js_if (jt_not (jt_val (je_call F_is_sequence (hr.mono (by decide)) rfl T.g_is_sequence KP_is_sequence B_is_sequence tk (ja_cons (je_var (i := 0) rfl (by first | exact .inl rfl | exact .inr (.inl rfl) | exact .inr (.inr rfl))) ja_nil))))
      (jb_one (js_ret (je_bl (i := false))))
      jb_nil)
      (jb_cons (js_own (i := 2) nd rfl (by first | exact .inl rfl | exact .inr rfl) jn_dicK)
      (jb_cons (js_for (passes_of rfl) rfl (ji_seq (je_var (i := 0) rfl (by first | exact .inl rfl | exact .inr (.inl rfl) | exact .inr (.inr rfl)))) (jg_name (i := 3) nd rfl (by first | exact .inl rfl | exact .inr rfl))
      (jb_cons (js_if (JW.jt (jw_or (jt_not (jt_val (je_call F_is_thing (hr.mono (by decide)) rfl T.g_is_thing KP_is_thing B_is_thing tk (ja_cons (je_var (i := 3) rfl (by first | exact .inl rfl | exact .inr (.inl rfl) | exact .inr (.inr rfl))) (ja_cons (je_var (i := 1) rfl (by first | exact .inl rfl | exact .inr (.inl rfl) | exact .inr (.inr rfl))) ja_nil))))) (jw_or1 (jt_cmp (op_inU (hu_of hr)) sp_inU (je_var (i := 3) rfl (by first | exact .inl rfl | exact .inr (.inl rfl) | exact .inr (.inr rfl))) (je_var (i := 2) rfl (by first | exact .inl rfl | exact .inr (.inl rfl) | exact .inr (.inr rfl))) rfl))))
      (jb_one (js_ret (je_bl (i := false))))
      jb_nil)
      (jb_one (js_sub (set_U (hu_of hr)) sp_setU (je_bl (i := true)) (je_var (i := 2) rfl (by first | exact .inl rfl | exact .inr (.inl rfl) | exact .inr (.inr rfl))) (je_var (i := 3) rfl (by first | exact .inl rfl | exact .inr (.inl rfl) | exact .inr (.inr rfl)))))))
      (jb_one (js_ret (je_bl (i := true)))))))⟩), (F.binds (ps := ["value", "things"]) fun _ _ _ _ _ _ us hl => match us, hl with | [_, _], _ => rfl)⟩, F.kp⟩
end Mi

namespace Mi
open PySem PySem.Spec PyProof.Rows L2
theorem sc_check_marks : FnScope ["tongue", "things", "marks", "name"] ["tongue", "things", "marks"] (defScope s_check_marks) := ⟨rfl, rfl, rfl, by decide +kernel, rfl, by decide +kernel, by decide +kernel⟩
theorem ok_check_marks {P : Program} {w : World} {K : PySem.W.Frag} {mg : Str → Option Value} {base : Heap} {ca : Nat → Addr} {A : Ad} {fd : FuncData} (T : Txt A K w mg ca) (H_is_dict_of : Fn P w K mg base ca 2 A.f_is_dict_of ["value", "names"] g_is_dict_of) (H_Tongue_marks : Fn P w K mg base ca 1 A.f_Tongue_marks ["self"] g_Tongue_marks) (H_are_things : Fn P w K mg base ca 4 A.f_are_things ["value", "things"] g_are_things) (F : Fun K "check_marks" "check_marks" s_check_marks A.f_check_marks fd) : Fn P w K mg base ca 5 A.f_check_marks ["tongue", "things", "marks"] g_check_marks := by
  obtain ⟨fd_is_dict_of, F_is_dict_of, B_is_dict_of⟩ := H_is_dict_of.ok
  have KP_is_dict_of := H_is_dict_of.kp
  obtain ⟨fd_Tongue_marks, F_Tongue_marks, B_Tongue_marks⟩ := H_Tongue_marks.ok
  have KP_Tongue_marks := H_Tongue_marks.kp
  obtain ⟨fd_are_things, F_are_things, B_are_things⟩ := H_are_things.ok
  have KP_are_things := H_are_things.kp
  refine ⟨⟨fd, fn_mir (P := P) (w := w) (mg := mg) (base := base) (ca := ca) (N := ["tongue", "things", "marks", "name"]) (body := b_check_marks) F sc_check_marks fun cdv AA outer s H E hr => (by
    have nd := sc_check_marks.nd
    have tk := takes_of (X := cxOf (L2.CX P w) P w K mg base ["tongue", "things", "marks", "name"] "check_marks" (defScope s_check_marks) A.f_check_marks cdv AA outer s H E) (E := E) rfl rfl rfl rfl
    exact ⟨_, (jb_cons (js_if (jt_not (jt_val (je_call F_is_dict_of (hr.mono (by decide)) rfl T.g_is_dict_of KP_is_dict_of B_is_dict_of tk (ja_cons (je_var (i := 2) rfl (by first | exact .inl rfl | exact .inr (.inl rfl) | exact .inr (.inr rfl))) (ja_cons (je_prop (c := 0) T.cl_Tongue T.pr_Tongue_marks F_Tongue_marks (hr.mono (by decide)) B_Tongue_marks (je_var (i := 0) rfl (by first | exact .inl rfl | exact .inr (.inl rfl) | exact .inr (.inr rfl)))) ja_nil)))))
      (jb_one js_never)
      jb_nil)
      (jb_one (js_forK (i := 2) (passes_of rfl) rfl rfl (by first | exact .inl rfl | exact .inr (.inl rfl) | exact .inr (.inr rfl)) (jg_name (i := 3) nd rfl (by first | exact .inl rfl | exact .inr rfl))
      (jb_one (js_if (jt_not (jt_val (je_call F_are_things (hr.mono (by decide)) rfl T.g_are_things KP_are_things B_are_things tk (ja_cons (je_ixD (hu_of hr) (je_var (i := 2) rfl (by first | exact .inl rfl | exact .inr (.inl rfl) | exact .inr (.inr rfl))) (je_var (i := 3) rfl (by first | exact .inl rfl | exact .inr (.inl rfl) | exact .inr (.inr rfl)))) (ja_cons (je_var (i := 1) rfl (by first | exact .inl rfl | exact .inr (.inl rfl) | exact .inr (.inr rfl))) ja_nil)))))
      (jb_one js_never)
      jb_nil)))))⟩), (F.binds (ps := ["tongue", "things", "marks"]) fun _ _ _ _ _ _ us hl => match us, hl with | [_, _, _], _ => rfl)⟩, F.kp⟩
end Mi

namespace Mi
open PySem PySem.Spec PyProof.Rows L2
theorem sc_Tongue_ties : FnScope ["self"] ["self"] (defScope s_Tongue_ties) := ⟨rfl, rfl, rfl, by decide +kernel, rfl, by decide +kernel, by decide +kernel⟩
theorem ok_Tongue_ties {P : Program} {w : World} {K : PySem.W.Frag} {mg : Str → Option Value} {base : Heap} {ca : Nat → Addr} {A : Ad} {fd : FuncData} (T : Txt A K w mg ca) (F : Fun K "ties" "Tongue.ties" s_Tongue_ties A.f_Tongue_ties fd) : Fn P w K mg base ca 1 A.f_Tongue_ties ["self"] g_Tongue_ties := by
  refine ⟨⟨fd, fn_mir (P := P) (w := w) (mg := mg) (base := base) (ca := ca) (N := ["self"]) (body := b_Tongue_ties) F sc_Tongue_ties fun cdv AA outer s H E hr => (by
    have nd := sc_Tongue_ties.nd
    have tk := takes_of (X := cxOf (L2.CX P w) P w K mg base ["self"] "Tongue.ties" (defScope s_Tongue_ties) A.f_Tongue_ties cdv AA outer s H E) (E := E) rfl rfl rfl rfl
    exact ⟨_, (jb_one (js_ret (je_fld (c := 0) T.cl_Tongue T.na_Tongue_kept_ties (je_var (i := 0) rfl (by first | exact .inl rfl | exact .inr (.inl rfl) | exact .inr (.inr rfl))))))⟩), (F.binds (ps := ["self"]) fun _ _ _ _ _ _ us hl => match us, hl with | [_], _ => rfl)⟩, F.kp⟩
end Mi

namespace Mi
open PySem PySem.Spec PyProof.Rows L2
theorem sc_is_tuple : FnScope ["value", "size"] ["value", "size"] (defScope s_is_tuple) := ⟨rfl, rfl, rfl, by decide +kernel, rfl, by decide +kernel, by decide +kernel⟩
theorem ok_is_tuple {P : Program} {w : World} {K : PySem.W.Frag} {mg : Str → Option Value} {base : Heap} {ca : Nat → Addr} {A : Ad} {fd : FuncData} (T : Txt A K w mg ca) (F : Fun K "is_tuple" "is_tuple" s_is_tuple A.f_is_tuple fd) : Fn P w K mg base ca 1 A.f_is_tuple ["value", "size"] g_is_tuple := by
  refine ⟨⟨fd, fn_mir (P := P) (w := w) (mg := mg) (base := base) (ca := ca) (N := ["value", "size"]) (body := b_is_tuple) F sc_is_tuple fun cdv AA outer s H E hr => (by
    have nd := sc_is_tuple.nd
    have tk := takes_of (X := cxOf (L2.CX P w) P w K mg base ["value", "size"] "is_tuple" (defScope s_is_tuple) A.f_is_tuple cdv AA outer s H E) (E := E) rfl rfl rfl rfl
    exact ⟨_, (jb_one (js_ret (je_and (je_isi rfl T.b_isinstance (je_var (i := 0) rfl (by first | exact .inl rfl | exact .inr (.inl rfl) | exact .inr (.inr rfl))) (pe_bltn (v := .ty "tuple") (u := .type "tuple") rfl T.b_tuple (by decide +kernel) rfl) (.ty _) isa_tuple_ok) (je_one (je_cmp (op_eqD hr.units) sp_eq (je_callB call_lenU sp_lenU rfl T.b_len (by decide +kernel) (ja_cons (je_var (i := 0) rfl (by first | exact .inl rfl | exact .inr (.inl rfl) | exact .inr (.inr rfl))) ja_nil)) (je_var (i := 1) rfl (by first | exact .inl rfl | exact .inr (.inl rfl) | exact .inr (.inr rfl))) (nomark _))))))⟩), (F.binds (ps := ["value", "size"]) fun _ _ _ _ _ _ us hl => match us, hl with | [_, _], _ => rfl)⟩, F.kp⟩
end Mi

namespace Mi
open PySem PySem.Spec PyProof.Rows L2
theorem sc_is_pair : FnScope ["value", "things"] ["value", "things"] (defScope s_is_pair) := ⟨rfl, rfl, rfl, by decide +kernel, rfl, by decide +kernel, by decide +kernel⟩
theorem ok_is_pair {P : Program} {w : World} {K : PySem.W.Frag} {mg : Str → Option Value} {base : Heap} {ca : Nat → Addr} {A : Ad} {fd : FuncData} (T : Txt A K w mg ca) (H_is_tuple : Fn P w K mg base ca 1 A.f_is_tuple ["value", "size"] g_is_tuple) (H_is_thing : Fn P w K mg base ca 3 A.f_is_thing ["value", "things"] g_is_thing) (F : Fun K "is_pair" "is_pair" s_is_pair A.f_is_pair fd) : Fn P w K mg base ca 4 A.f_is_pair ["value", "things"] g_is_pair := by
  obtain ⟨fd_is_tuple, F_is_tuple, B_is_tuple⟩ := H_is_tuple.ok
  have KP_is_tuple := H_is_tuple.kp
  obtain ⟨fd_is_thing, F_is_thing, B_is_thing⟩ := H_is_thing.ok
  have KP_is_thing := H_is_thing.kp
  refine ⟨⟨fd, fn_mir (P := P) (w := w) (mg := mg) (base := base) (ca := ca) (N := ["value", "things"]) (body := b_is_pair) F sc_is_pair fun cdv AA outer s H E hr => (by
    have nd := sc_is_pair.nd
    have tk := takes_of (X := cxOf (L2.CX P w) P w K mg base ["value", "things"] "is_pair" (defScope s_is_pair) A.f_is_pair cdv AA outer s H E) (E := E) rfl rfl rfl rfl
    exact ⟨_, (jb_one (js_ret (je_and (je_call F_is_tuple (hr.mono (by decide)) rfl T.g_is_tuple KP_is_tuple B_is_tuple tk (ja_cons (je_var (i := 0) rfl (by first | exact .inl rfl | exact .inr (.inl rfl) | exact .inr (.inr rfl))) (ja_cons (je_int (i := (2 : Int))) ja_nil))) (je_and (je_call F_is_thing (hr.mono (by decide)) rfl T.g_is_thing KP_is_thing B_is_thing tk (ja_cons (je_ix ix_seq sp_ix (je_var (i := 0) rfl (by first | exact .inl rfl | exact .inr (.inl rfl) | exact .inr (.inr rfl))) (je_int (i := (0 : Int)))) (ja_cons (je_var (i := 1) rfl (by first | exact .inl rfl | exact .inr (.inl rfl) | exact .inr (.inr rfl))) ja_nil))) (je_one (je_call F_is_thing (hr.mono (by decide)) rfl T.g_is_thing KP_is_thing B_is_thing tk (ja_cons (je_ix ix_seq sp_ix (je_var (i := 0) rfl (by first | exact .inl rfl | exact .inr (.inl rfl) | exact .inr (.inr rfl))) (je_int (i := (1 : Int)))) (ja_cons (je_var (i := 1) rfl (by first | exact .inl rfl | exact .inr (.inl rfl) | exact .inr (.inr rfl))) ja_nil))))))))⟩), (F.binds (ps := ["value", "things"]) fun _ _ _ _ _ _ us hl => match us, hl with | [_, _], _ => rfl)⟩, F.kp⟩
end Mi

namespace Mi
open PySem PySem.Spec PyProof.Rows L2
theorem sc_are_pairs : FnScope ["value", "things", "seen", "pair"] ["value", "things"] (defScope s_are_pairs) := ⟨rfl, rfl, rfl, by decide +kernel, rfl, by decide +kernel, by decide +kernel⟩
theorem ok_are_pairs {P : Program} {w : World} {K : PySem.W.Frag} {mg : Str → Option Value} {base : Heap} {ca : Nat → Addr} {A : Ad} {fd : FuncData} (T : Txt A K w mg ca) (H_is_sequence : Fn P w K mg base ca 1 A.f_is_sequence ["value"] g_is_sequence) (H_is_pair : Fn P w K mg base ca 4 A.f_is_pair ["value", "things"] g_is_pair) (F : Fun K "are_pairs" "are_pairs" s_are_pairs A.f_are_pairs fd) : Fn P w K mg base ca 5 A.f_are_pairs ["value", "things"] g_are_pairs := by
  obtain ⟨fd_is_sequence, F_is_sequence, B_is_sequence⟩ := H_is_sequence.ok
  have KP_is_sequence := H_is_sequence.kp
  obtain ⟨fd_is_pair, F_is_pair, B_is_pair⟩ := H_is_pair.ok
  have KP_is_pair := H_is_pair.kp
  refine ⟨⟨fd, fn_mir (P := P) (w := w) (mg := mg) (base := base) (ca := ca) (N := ["value", "things", "seen", "pair"]) (body := b_are_pairs) F sc_are_pairs fun cdv AA outer s H E hr => (by
    have nd := sc_are_pairs.nd
    have tk := takes_of (X := cxOf (L2.CX P w) P w K mg base ["value", "things", "seen", "pair"] "are_pairs" (defScope s_are_pairs) A.f_are_pairs cdv AA outer s H E) (E := E) rfl rfl rfl rfl
    exact ⟨_, (jb_cons (js_if (jt_not (jt_val (je_call F_is_sequence (hr.mono (by decide)) rfl T.g_is_sequence KP_is_sequence B_is_sequence tk (ja_cons (je_var (i := 0) rfl (by first | exact .inl rfl | exact .inr (.inl rfl) | exact .inr (.inr rfl))) ja_nil))))
      (jb_one (js_ret (je_bl (i := false))))
      jb_nil)
      (jb_cons (js_own (i := 2) nd rfl (by first | exact .inl rfl | exact .inr rfl) jn_dicT)
      (jb_cons (js_for (passes_of rfl) rfl (ji_seq (je_var (i := 0) rfl (by first | exact .inl rfl | exact .inr (.inl rfl) | exact .inr (.inr rfl)))) (jg_name (i := 3) nd rfl (by first | exact .inl rfl | exact .inr rfl))
      (jb_cons (js_if (JW.jt (jw_or (jt_not (jt_val (je_call F_is_pair (hr.mono (by decide)) rfl T.g_is_pair KP_is_pair B_is_pair tk (ja_cons (je_var (i := 3) rfl (by first | exact .inl rfl | exact .inr (.inl rfl) | exact .inr (.inr rfl))) (ja_cons (je_var (i := 1) rfl (by first | exact .inl rfl | exact .inr (.inl rfl) | exact .inr (.inr rfl))) ja_nil))))) (jw_or1 (jt_cmp (op_in_dic (hu_of hr)) sp_inT (je_var (i := 3) rfl (by first | exact .inl rfl | exact .inr (.inl rfl) | exact .inr (.inr rfl))) (je_var (i := 2) rfl (by first | exact .inl rfl | exact .inr (.inl rfl) | exact .inr (.inr rfl))) rfl))))
      (jb_one (js_ret (je_bl (i := false))))
      jb_nil)
      (jb_one (js_sub (set_U (hu_of hr)) sp_setT (je_bl (i := true)) (je_var (i := 2) rfl (by first | exact .inl rfl | exact .inr (.inl rfl) | exact .inr (.inr rfl))) (je_var (i := 3) rfl (by first | exact .inl rfl | exact .inr (.inl rfl) | exact .inr (.inr rfl)))))))
      (jb_one (js_ret (je_bl (i := true)))))))⟩), (F.binds (ps := ["value", "things"]) fun _ _ _ _ _ _ us hl => match us, hl with | [_, _], _ => rfl)⟩, F.kp⟩
end Mi

namespace Mi
open PySem PySem.Spec PyProof.Rows L2
theorem sc_is_function : FnScope ["pairs", "things", "firsts", "pair"] ["pairs", "things"] (defScope s_is_function) := ⟨rfl, rfl, rfl, by decide +kernel, rfl, by decide +kernel, by decide +kernel⟩
theorem ok_is_function {P : Program} {w : World} {K : PySem.W.Frag} {mg : Str → Option Value} {base : Heap} {ca : Nat → Addr} {A : Ad} {fd : FuncData} (T : Txt A K w mg ca) (F : Fun K "is_function" "is_function" s_is_function A.f_is_function fd) : Fn P w K mg base ca 1 A.f_is_function ["pairs", "things"] g_is_function := by
  refine ⟨⟨fd, fn_mir (P := P) (w := w) (mg := mg) (base := base) (ca := ca) (N := ["pairs", "things", "firsts", "pair"]) (body := b_is_function) F sc_is_function fun cdv AA outer s H E hr => (by
    have nd := sc_is_function.nd
    have tk := takes_of (X := cxOf (L2.CX P w) P w K mg base ["pairs", "things", "firsts", "pair"] "is_function" (defScope s_is_function) A.f_is_function cdv AA outer s H E) (E := E) rfl rfl rfl rfl
    exact ⟨_, (jb_cons (js_set (i := 2) nd rfl (by first | exact .inl rfl | exact .inr rfl) (JN.frz (jn_callB cr_sortedI sp_sortI rfl T.b_sorted (by decide +kernel) (ja_cons (JN.frz (jn_lc (tt := tYes) (te := (tOp (rIx K) (tVar 3) (tC (.int (0 : Int))))) (mt := (ret true)) (me := (op2 ixD (vr 3) (kk (.int (0 : Int))))) (own := [("pair", 3)]) rfl nd (by exact (ji_seq (je_var (i := 0) rfl (by first | exact .inl rfl | exact .inr (.inl rfl) | exact .inr (.inr rfl))))) (blkOk_by (own := [("pair", 3)]) (N := ["pairs", "things", "firsts", "pair"]) (sc := defScope s_is_function) (by decide +kernel)) (fun _ _ _ _ _ => by exact (jg_name (i := 3) nd rfl (by first | exact .inl rfl | exact .inr rfl))) (gw_name (by decide)) gN_len (fun _ _ _ _ _ => by exact jts_nil) (fun _ _ _ _ _ => by exact (je_ix ix_seq sp_ix (je_var (i := 3) rfl (by first | exact .inl rfl | exact .inr (.inl rfl) | exact .inr (.inr rfl))) (je_int (i := (0 : Int))))))) ja_nil))))
      (jb_one (js_ret (je_cmp (op_eqD hr.units) sp_eq (je_var (i := 2) rfl (by first | exact .inl rfl | exact .inr (.inl rfl) | exact .inr (.inr rfl))) (JN.frz (jn_listRng rfl rfl T.b_list rfl T.b_range (je_var (i := 1) rfl (by first | exact .inl rfl | exact .inr (.inl rfl) | exact .inr (.inr rfl))))) (nomark _)))))⟩), (F.binds (ps := ["pairs", "things"]) fun _ _ _ _ _ _ us hl => match us, hl with | [_, _], _ => rfl)⟩, F.kp⟩
end Mi

namespace Mi
open PySem PySem.Spec PyProof.Rows L2
theorem sc_check_ties : FnScope ["tongue", "things", "ties", "name"] ["tongue", "things", "ties"] (defScope s_check_ties) := ⟨rfl, rfl, rfl, by decide +kernel, rfl, by decide +kernel, by decide +kernel⟩
theorem ok_check_ties {P : Program} {w : World} {K : PySem.W.Frag} {mg : Str → Option Value} {base : Heap} {ca : Nat → Addr} {A : Ad} {fd : FuncData} (T : Txt A K w mg ca) (H_is_dict_of : Fn P w K mg base ca 2 A.f_is_dict_of ["value", "names"] g_is_dict_of) (H_Tongue_ties : Fn P w K mg base ca 1 A.f_Tongue_ties ["self"] g_Tongue_ties) (H_are_pairs : Fn P w K mg base ca 5 A.f_are_pairs ["value", "things"] g_are_pairs) (H_is_function : Fn P w K mg base ca 1 A.f_is_function ["pairs", "things"] g_is_function) (F : Fun K "check_ties" "check_ties" s_check_ties A.f_check_ties fd) : Fn P w K mg base ca 6 A.f_check_ties ["tongue", "things", "ties"] g_check_ties := by
  obtain ⟨fd_is_dict_of, F_is_dict_of, B_is_dict_of⟩ := H_is_dict_of.ok
  have KP_is_dict_of := H_is_dict_of.kp
  obtain ⟨fd_Tongue_ties, F_Tongue_ties, B_Tongue_ties⟩ := H_Tongue_ties.ok
  have KP_Tongue_ties := H_Tongue_ties.kp
  obtain ⟨fd_are_pairs, F_are_pairs, B_are_pairs⟩ := H_are_pairs.ok
  have KP_are_pairs := H_are_pairs.kp
  obtain ⟨fd_is_function, F_is_function, B_is_function⟩ := H_is_function.ok
  have KP_is_function := H_is_function.kp
  refine ⟨⟨fd, fn_mir (P := P) (w := w) (mg := mg) (base := base) (ca := ca) (N := ["tongue", "things", "ties", "name"]) (body := b_check_ties) F sc_check_ties fun cdv AA outer s H E hr => (by
    have nd := sc_check_ties.nd
    have tk := takes_of (X := cxOf (L2.CX P w) P w K mg base ["tongue", "things", "ties", "name"] "check_ties" (defScope s_check_ties) A.f_check_ties cdv AA outer s H E) (E := E) rfl rfl rfl rfl
    exact ⟨_, (jb_cons (js_if (jt_not (jt_val (je_call F_is_dict_of (hr.mono (by decide)) rfl T.g_is_dict_of KP_is_dict_of B_is_dict_of tk (ja_cons (je_var (i := 2) rfl (by first | exact .inl rfl | exact .inr (.inl rfl) | exact .inr (.inr rfl))) (ja_cons (je_prop (c := 0) T.cl_Tongue T.pr_Tongue_ties F_Tongue_ties (hr.mono (by decide)) B_Tongue_ties (je_var (i := 0) rfl (by first | exact .inl rfl | exact .inr (.inl rfl) | exact .inr (.inr rfl)))) ja_nil)))))
      (jb_one js_never)
      jb_nil)
      (jb_one (js_forK (i := 2) (passes_of rfl) rfl rfl (by first | exact .inl rfl | exact .inr (.inl rfl) | exact .inr (.inr rfl)) (jg_name (i := 3) nd rfl (by first | exact .inl rfl | exact .inr rfl))
      (jb_cons (js_if (jt_not (jt_val (je_call F_are_pairs (hr.mono (by decide)) rfl T.g_are_pairs KP_are_pairs B_are_pairs tk (ja_cons (je_ixD (hu_of hr) (je_var (i := 2) rfl (by first | exact .inl rfl | exact .inr (.inl rfl) | exact .inr (.inr rfl))) (je_var (i := 3) rfl (by first | exact .inl rfl | exact .inr (.inl rfl) | exact .inr (.inr rfl)))) (ja_cons (je_var (i := 1) rfl (by first | exact .inl rfl | exact .inr (.inl rfl) | exact .inr (.inr rfl))) ja_nil)))))
      (jb_one js_never)
      jb_nil)
      (jb_one (js_if (JW.jt (jw_and (jt_cmp (op_inU (hu_of hr)) sp_inU (je_var (i := 3) rfl (by first | exact .inl rfl | exact .inr (.inl rfl) | exact .inr (.inr rfl))) (je_fld (c := 0) T.cl_Tongue T.na_Tongue_functions (je_var (i := 0) rfl (by first | exact .inl rfl | exact .inr (.inl rfl) | exact .inr (.inr rfl)))) rfl) (jw_and1 (jt_not (jt_val (je_call F_is_function (hr.mono (by decide)) rfl T.g_is_function KP_is_function B_is_function tk (ja_cons (je_ixD (hu_of hr) (je_var (i := 2) rfl (by first | exact .inl rfl | exact .inr (.inl rfl) | exact .inr (.inr rfl))) (je_var (i := 3) rfl (by first | exact .inl rfl | exact .inr (.inl rfl) | exact .inr (.inr rfl)))) (ja_cons (je_var (i := 1) rfl (by first | exact .inl rfl | exact .inr (.inl rfl) | exact .inr (.inr rfl))) ja_nil))))))))
      (jb_one js_never)
      jb_nil))))))⟩), (F.binds (ps := ["tongue", "things", "ties"]) fun _ _ _ _ _ _ us hl => match us, hl with | [_, _, _], _ => rfl)⟩, F.kp⟩
end Mi

namespace Mi
open PySem PySem.Spec PyProof.Rows L2
theorem sc_World___init__ : FnScope ["self", "tongue", "things", "marks", "ties", "name", "thing", "pair"] ["self", "tongue", "things", "marks", "ties"] (defScope s_World___init__) := ⟨rfl, rfl, rfl, by decide +kernel, rfl, by decide +kernel, by decide +kernel⟩
theorem ok_World___init__ {P : Program} {w : World} {K : PySem.W.Frag} {mg : Str → Option Value} {base : Heap} {ca : Nat → Addr} {A : Ad} {fd : FuncData} (T : Txt A K w mg ca) (H_is_within : Fn P w K mg base ca 2 A.f_is_within ["value", "least", "most"] g_is_within) (H_check_marks : Fn P w K mg base ca 5 A.f_check_marks ["tongue", "things", "marks"] g_check_marks) (H_check_ties : Fn P w K mg base ca 6 A.f_check_ties ["tongue", "things", "ties"] g_check_ties) (H_Tongue_marks : Fn P w K mg base ca 1 A.f_Tongue_marks ["self"] g_Tongue_marks) (H_Tongue_ties : Fn P w K mg base ca 1 A.f_Tongue_ties ["self"] g_Tongue_ties) (F : Fun K "__init__" "World.__init__" s_World___init__ A.f_World___init__ fd) : FnI P w K mg base ca 1 7 A.f_World___init__ "self" ["tongue", "things", "marks", "ties"] g_World___init__ := by
  obtain ⟨fd_is_within, F_is_within, B_is_within⟩ := H_is_within.ok
  have KP_is_within := H_is_within.kp
  obtain ⟨fd_check_marks, F_check_marks, B_check_marks⟩ := H_check_marks.ok
  have KP_check_marks := H_check_marks.kp
  obtain ⟨fd_check_ties, F_check_ties, B_check_ties⟩ := H_check_ties.ok
  have KP_check_ties := H_check_ties.kp
  obtain ⟨fd_Tongue_marks, F_Tongue_marks, B_Tongue_marks⟩ := H_Tongue_marks.ok
  have KP_Tongue_marks := H_Tongue_marks.kp
  obtain ⟨fd_Tongue_ties, F_Tongue_ties, B_Tongue_ties⟩ := H_Tongue_ties.ok
  have KP_Tongue_ties := H_Tongue_ties.kp
  obtain ⟨_, c_MOST_THINGS⟩ := T.c_MOST_THINGS
  refine ⟨⟨fd, fn_init (P := P) (w := w) (mg := mg) (base := base) (ca := ca) (n0 := "self") (N := ["tongue", "things", "marks", "ties", "name", "thing", "pair"]) (body := b_World___init__) F sc_World___init__ fun cdv AA outer s H E hr => (by
    have nd := sc_World___init__.nd
    have tk := takes_of (X := cxOf (L2.CX P w) P w K mg base ["self", "tongue", "things", "marks", "ties", "name", "thing", "pair"] "World.__init__" (defScope s_World___init__) A.f_World___init__ cdv AA outer s H E) (E := E) rfl rfl rfl rfl
    exact ⟨_, (jb_cons (js_if (jt_not (jt_val (je_call F_is_within (hr.mono (by decide)) rfl T.g_is_within KP_is_within B_is_within tk (ja_cons (je_var (i := 2) rfl (by first | exact .inl rfl | exact .inr (.inl rfl) | exact .inr (.inr rfl))) (ja_cons (je_int (i := (1 : Int))) (ja_cons (je_gint (i := (300 : Int)) rfl c_MOST_THINGS) ja_nil))))))
      (jb_one js_never)
      jb_nil)
      (jb_cons (js_expr (je_call F_check_marks (hr.mono (by decide)) rfl T.g_check_marks KP_check_marks B_check_marks tk (ja_cons (je_var (i := 1) rfl (by first | exact .inl rfl | exact .inr (.inl rfl) | exact .inr (.inr rfl))) (ja_cons (je_var (i := 2) rfl (by first | exact .inl rfl | exact .inr (.inl rfl) | exact .inr (.inr rfl))) (ja_cons (je_var (i := 3) rfl (by first | exact .inl rfl | exact .inr (.inl rfl) | exact .inr (.inr rfl))) ja_nil)))))
      (jb_cons (js_expr (je_call F_check_ties (hr.mono (by decide)) rfl T.g_check_ties KP_check_ties B_check_ties tk (ja_cons (je_var (i := 1) rfl (by first | exact .inl rfl | exact .inr (.inl rfl) | exact .inr (.inr rfl))) (ja_cons (je_var (i := 2) rfl (by first | exact .inl rfl | exact .inr (.inl rfl) | exact .inr (.inr rfl))) (ja_cons (je_var (i := 4) rfl (by first | exact .inl rfl | exact .inr (.inl rfl) | exact .inr (.inr rfl))) ja_nil)))))
      (jb_cons (js_fld (c := 1) T.cl_World T.na_World_tongue (je_var (i := 1) rfl (by first | exact .inl rfl | exact .inr (.inl rfl) | exact .inr (.inr rfl))) (je_var (i := 0) rfl (by first | exact .inl rfl | exact .inr (.inl rfl) | exact .inr (.inr rfl))))
      (jb_cons (js_fld (c := 1) T.cl_World T.na_World_things (je_var (i := 2) rfl (by first | exact .inl rfl | exact .inr (.inl rfl) | exact .inr (.inr rfl))) (je_var (i := 0) rfl (by first | exact .inl rfl | exact .inr (.inl rfl) | exact .inr (.inr rfl))))
      (jb_cons (js_fld (c := 1) T.cl_World T.na_World_marked (JN.frz (jn_dcK (tt := tYes) (tk := (tVar 5)) (tv := (tDcG (.dK []) rDcK (tSeqI K (tOp rIxDic (tVar 3) (tVar 5))) (gName 6) tYes (tVar 6) (tC (.bl true)) [6])) (mt := (ret true)) (mk := (vr 5)) (mv := (eFrz (nDc (.dic []) setKD (iSeq (op2 ixDD (vr 3) (vr 5))) (gN 6) (ret true) (vr 6) (kk (.bl true)) [6]))) (own := [("name", 5)]) rfl nd (by exact (ji_seq (je_prop (c := 0) T.cl_Tongue T.pr_Tongue_marks F_Tongue_marks (hr.mono (by decide)) B_Tongue_marks (je_var (i := 1) rfl (by first | exact .inl rfl | exact .inr (.inl rfl) | exact .inr (.inr rfl)))))) (blkOk_by (own := [("name", 5)]) (N := ["self", "tongue", "things", "marks", "ties", "name", "thing", "pair"]) (sc := defScope s_World___init__) (by decide +kernel)) (fun _ _ _ _ _ => by exact (jg_name (i := 5) nd rfl (by first | exact .inl rfl | exact .inr rfl))) (gw_name (by decide)) gN_len (fun _ _ _ _ _ => by exact jts_nil) (fun _ _ _ _ _ => by exact (je_var (i := 5) rfl (by first | exact .inl rfl | exact .inr (.inl rfl) | exact .inr (.inr rfl)))) (fun _ _ _ _ _ => by exact (JN.frz (jn_dcK (tt := tYes) (tk := (tVar 6)) (tv := (tC (.bl true))) (mt := (ret true)) (mk := (vr 6)) (mv := (kk (.bl true))) (own := [("thing", 6)]) rfl nd (by exact (ji_seq (je_ixD (hu_of hr) (je_var (i := 3) rfl (by first | exact .inl rfl | exact .inr (.inl rfl) | exact .inr (.inr rfl))) (je_var (i := 5) rfl (by first | exact .inl rfl | exact .inr (.inl rfl) | exact .inr (.inr rfl)))))) (blkOk_nest (own := [("thing", 6)]) (N := ["self", "tongue", "things", "marks", "ties", "name", "thing", "pair"]) (sc := defScope s_World___init__) rfl rfl (by decide +kernel)) (fun _ _ _ _ _ => by exact (jg_name (i := 6) nd rfl (by first | exact .inl rfl | exact .inr rfl))) (gw_name (by decide)) gN_len (fun _ _ _ _ _ => by exact jts_nil) (fun _ _ _ _ _ => by exact (je_var (i := 6) rfl (by first | exact .inl rfl | exact .inr (.inl rfl) | exact .inr (.inr rfl)))) (fun _ _ _ _ _ => by exact (je_bl (i := true)))))))) (je_var (i := 0) rfl (by first | exact .inl rfl | exact .inr (.inl rfl) | exact .inr (.inr rfl))))
      (jb_one (js_fld (c := 1) T.cl_World T.na_World_tied (JN.frz (jn_dcK (tt := tYes) (tk := (tVar 5)) (tv := (tDcG (.dT []) rDcT (tSeqI K (tOp rIxDic (tVar 4) (tVar 5))) (gName 7) tYes (tVar 7) (tC (.bl true)) [7])) (mt := (ret true)) (mk := (vr 5)) (mv := (eFrz (nDc (.dit []) setTD (iSeq (op2 ixDD (vr 4) (vr 5))) (gN 7) (ret true) (vr 7) (kk (.bl true)) [7]))) (own := [("name", 5)]) rfl nd (by exact (ji_seq (je_prop (c := 0) T.cl_Tongue T.pr_Tongue_ties F_Tongue_ties (hr.mono (by decide)) B_Tongue_ties (je_var (i := 1) rfl (by first | exact .inl rfl | exact .inr (.inl rfl) | exact .inr (.inr rfl)))))) (blkOk_by (own := [("name", 5)]) (N := ["self", "tongue", "things", "marks", "ties", "name", "thing", "pair"]) (sc := defScope s_World___init__) (by decide +kernel)) (fun _ _ _ _ _ => by exact (jg_name (i := 5) nd rfl (by first | exact .inl rfl | exact .inr rfl))) (gw_name (by decide)) gN_len (fun _ _ _ _ _ => by exact jts_nil) (fun _ _ _ _ _ => by exact (je_var (i := 5) rfl (by first | exact .inl rfl | exact .inr (.inl rfl) | exact .inr (.inr rfl)))) (fun _ _ _ _ _ => by exact (JN.frz (jn_dcT (tt := tYes) (tk := (tVar 7)) (tv := (tC (.bl true))) (mt := (ret true)) (mk := (vr 7)) (mv := (kk (.bl true))) (own := [("pair", 7)]) (hu_of hr) rfl nd (by exact (ji_seq (je_ixD (hu_of hr) (je_var (i := 4) rfl (by first | exact .inl rfl | exact .inr (.inl rfl) | exact .inr (.inr rfl))) (je_var (i := 5) rfl (by first | exact .inl rfl | exact .inr (.inl rfl) | exact .inr (.inr rfl)))))) (blkOk_nest (own := [("pair", 7)]) (N := ["self", "tongue", "things", "marks", "ties", "name", "thing", "pair"]) (sc := defScope s_World___init__) rfl rfl (by decide +kernel)) (fun _ _ _ _ _ => by exact (jg_name (i := 7) nd rfl (by first | exact .inl rfl | exact .inr rfl))) (gw_name (by decide)) gN_len (fun _ _ _ _ _ => by exact jts_nil) (fun _ _ _ _ _ => by exact (je_var (i := 7) rfl (by first | exact .inl rfl | exact .inr (.inl rfl) | exact .inr (.inr rfl)))) (fun _ _ _ _ _ => by exact (je_bl (i := true)))))))) (je_var (i := 0) rfl (by first | exact .inl rfl | exact .inr (.inl rfl) | exact .inr (.inr rfl)))))))))))⟩), (F.binds (ps := ["self", "tongue", "things", "marks", "ties"]) fun _ _ _ _ _ _ us hl => match us, hl with | [_, _, _, _, _], _ => rfl)⟩⟩
end Mi

namespace Mi
open PySem PySem.Spec PyProof.Rows L2
theorem sc__law_mixed : FnScope ["_law_pool_here", "_law_things", "_law_left", "_law_made", "_law_k"] ["_law_pool_here", "_law_things"] (defScope s__law_mixed) := ⟨rfl, rfl, rfl, by decide +kernel, rfl, by decide +kernel, by decide +kernel⟩
theorem ok__law_mixed {P : Program} {w : World} {K : PySem.W.Frag} {mg : Str → Option Value} {base : Heap} {ca : Nat → Addr} {A : Ad} {fd : FuncData} (T : Txt A K w mg ca) (H__law_draw : Fn P w K mg base ca 1 A.f__law_draw ["_law_pool_here", "_law_many"] g__law_draw) (F : Fun K "_law_mixed" "_law_mixed" s__law_mixed A.f__law_mixed fd) : Fn P w K mg base ca 2 A.f__law_mixed ["_law_pool_here", "_law_things"] g__law_mixed := by
  obtain ⟨fd__law_draw, F__law_draw, B__law_draw⟩ := H__law_draw.ok
  have KP__law_draw := H__law_draw.kp
  refine ⟨⟨fd, fn_mir (P := P) (w := w) (mg := mg) (base := base) (ca := ca) (N := ["_law_pool_here", "_law_things", "_law_left", "_law_made", "_law_k"]) (body := b__law_mixed) F sc__law_mixed fun cdv AA outer s H E hr => (by
    have nd := sc__law_mixed.nd
    have tk := takes_of (X := cxOf (L2.CX P w) P w K mg base ["_law_pool_here", "_law_things", "_law_left", "_law_made", "_law_k"] "_law_mixed" (defScope s__law_mixed) A.f__law_mixed cdv AA outer s H E) (E := E) rfl rfl rfl rfl
    exact ⟨_, (jb_cons (js_own (i := 2) nd rfl (by first | exact .inl rfl | exact .inr rfl) (jn_callTy call_list_of sp_list rfl T.b_list (by decide +kernel) (ja_cons (je_var (i := 1) rfl (by first | exact .inl rfl | exact .inr (.inl rfl) | exact .inr (.inr rfl))) ja_nil)))
      (jb_cons (js_own (i := 3) nd rfl (by first | exact .inl rfl | exact .inr rfl) (jn_lst ja_nil))
      (jb_cons (js_for (passes_of rfl) rfl (ji_range1 rfl T.b_range (ja_cons (je_callB call_lenU sp_lenU rfl T.b_len (by decide +kernel) (ja_cons (je_var (i := 1) rfl (by first | exact .inl rfl | exact .inr (.inl rfl) | exact .inr (.inr rfl))) ja_nil)) ja_nil)) (jg_name (i := 4) nd rfl (by first | exact .inl rfl | exact .inr rfl))
      (jb_one (js_expr (je_mu PySem.F.plainAttrs_list PySem.F.slot_list_append PySem.F.type_list_append mt_append sp_append ty_lst (je_var (i := 3) rfl (by first | exact .inl rfl | exact .inr (.inl rfl) | exact .inr (.inr rfl))) (ja_cons (je_mu PySem.F.plainAttrs_list PySem.F.slot_list_pop PySem.F.type_list_pop mt_popAt sp_popAt ty_lst (je_var (i := 2) rfl (by first | exact .inl rfl | exact .inr (.inl rfl) | exact .inr (.inr rfl))) (ja_cons (je_call F__law_draw (hr.mono (by decide)) rfl T.g__law_draw KP__law_draw B__law_draw tk (ja_cons (je_var (i := 0) rfl (by first | exact .inl rfl | exact .inr (.inl rfl) | exact .inr (.inr rfl))) (ja_cons (je_callB call_lenU sp_lenU rfl T.b_len (by decide +kernel) (ja_cons (je_var (i := 2) rfl (by first | exact .inl rfl | exact .inr (.inl rfl) | exact .inr (.inr rfl))) ja_nil)) ja_nil))) ja_nil)) ja_nil)))))
      (jb_one (js_ret (je_var (i := 3) rfl (by first | exact .inl rfl | exact .inr (.inl rfl) | exact .inr (.inr rfl))))))))⟩), (F.binds (ps := ["_law_pool_here", "_law_things"]) fun _ _ _ _ _ _ us hl => match us, hl with | [_, _], _ => rfl)⟩, F.kp⟩
end Mi

namespace Mi
open PySem PySem.Spec PyProof.Rows L2
theorem sc_Tongue___eq__ : FnScope ["self", "other"] ["self", "other"] (defScope s_Tongue___eq__) := ⟨rfl, rfl, rfl, by decide +kernel, rfl, by decide +kernel, by decide +kernel⟩
theorem ok_Tongue___eq__ {P : Program} {w : World} {K : PySem.W.Frag} {mg : Str → Option Value} {base : Heap} {ca : Nat → Addr} {A : Ad} {fd : FuncData} (T : Txt A K w mg ca) (H_Tongue_marks : Fn P w K mg base ca 1 A.f_Tongue_marks ["self"] g_Tongue_marks) (H_Tongue_ties : Fn P w K mg base ca 1 A.f_Tongue_ties ["self"] g_Tongue_ties) (F : Fun K "__eq__" "Tongue.__eq__" s_Tongue___eq__ A.f_Tongue___eq__ fd) : Fn P w K mg base ca 3 A.f_Tongue___eq__ ["self", "other"] g_Tongue___eq__ := by
  obtain ⟨fd_Tongue_marks, F_Tongue_marks, B_Tongue_marks⟩ := H_Tongue_marks.ok
  have KP_Tongue_marks := H_Tongue_marks.kp
  obtain ⟨fd_Tongue_ties, F_Tongue_ties, B_Tongue_ties⟩ := H_Tongue_ties.ok
  have KP_Tongue_ties := H_Tongue_ties.kp
  refine ⟨⟨fd, fn_mir (P := P) (w := w) (mg := mg) (base := base) (ca := ca) (N := ["self", "other"]) (body := b_Tongue___eq__) F sc_Tongue___eq__ fun cdv AA outer s H E hr => (by
    have nd := sc_Tongue___eq__.nd
    have tk := takes_of (X := cxOf (L2.CX P w) P w K mg base ["self", "other"] "Tongue.__eq__" (defScope s_Tongue___eq__) A.f_Tongue___eq__ cdv AA outer s H E) (E := E) rfl rfl rfl rfl
    exact ⟨_, (jb_cons (js_if (jt_not (jt_val (je_isi (cv := .ref (ca 0)) rfl T.b_isinstance (je_var (i := 1) rfl (by first | exact .inl rfl | exact .inr (.inl rfl) | exact .inr (.inr rfl))) (pe_glob rfl T.g_Tongue rfl) (.own _) (isa_own_Tongue_ok T.cf_Tongue T.cf_World T.ki_Tongue T.kt_Tongue T.ss_Tongue T.ms_Tongue_World))))
      (jb_one (js_ret (je_bl (i := false))))
      jb_nil)
      (jb_one (js_ret (je_and (je_cmp (op_eqD hr.units) sp_eq (je_prop (c := 0) T.cl_Tongue T.pr_Tongue_marks F_Tongue_marks (hr.mono (by decide)) B_Tongue_marks (je_var (i := 0) rfl (by first | exact .inl rfl | exact .inr (.inl rfl) | exact .inr (.inr rfl)))) (je_prop (c := 0) T.cl_Tongue T.pr_Tongue_marks F_Tongue_marks (hr.mono (by decide)) B_Tongue_marks (je_var (i := 1) rfl (by first | exact .inl rfl | exact .inr (.inl rfl) | exact .inr (.inr rfl)))) (nomark _)) (je_and (je_cmp (op_eqD hr.units) sp_eq (je_prop (c := 0) T.cl_Tongue T.pr_Tongue_ties F_Tongue_ties (hr.mono (by decide)) B_Tongue_ties (je_var (i := 0) rfl (by first | exact .inl rfl | exact .inr (.inl rfl) | exact .inr (.inr rfl)))) (je_prop (c := 0) T.cl_Tongue T.pr_Tongue_ties F_Tongue_ties (hr.mono (by decide)) B_Tongue_ties (je_var (i := 1) rfl (by first | exact .inl rfl | exact .inr (.inl rfl) | exact .inr (.inr rfl)))) (nomark _)) (je_one (je_cmp (op_eqD hr.units) sp_eq (je_fld (c := 0) T.cl_Tongue T.na_Tongue_functions (je_var (i := 0) rfl (by first | exact .inl rfl | exact .inr (.inl rfl) | exact .inr (.inr rfl)))) (je_fld (c := 0) T.cl_Tongue T.na_Tongue_functions (je_var (i := 1) rfl (by first | exact .inl rfl | exact .inr (.inl rfl) | exact .inr (.inr rfl)))) (nomark _))))))))⟩), (F.binds (ps := ["self", "other"]) fun _ _ _ _ _ _ us hl => match us, hl with | [_, _], _ => rfl)⟩, F.kp⟩
end Mi

namespace Mi
open PySem PySem.Spec PyProof.Rows L2
theorem sc_law : FnScope ["_law_script", "_law_pool_here", "_law_names_here", "_law_cases", "_law_turn", "_law_tongues", "_law_one", "_law_marks", "_law_ties", "_law_two", "_law_other", "_law_thing", "_law_case", "_law_same", "_law_name"] ["_law_script"] (defScope s_law) := ⟨rfl, rfl, rfl, by decide +kernel, rfl, by decide +kernel, by decide +kernel⟩
theorem ok_law {P : Program} {w : World} {K : PySem.W.Frag} {mg : Str → Option Value} {base : Heap} {ca : Nat → Addr} {A : Ad} {fd : FuncData} (T : Txt A K w mg ca) (H__law_pool : Fn P w K mg base ca 1 A.f__law_pool ["_law_script"] g__law_pool) (H__law_names : Fn P w K mg base ca 2 A.f__law_names ["_law_pool_here", "_law_many"] g__law_names) (H__law_mixed : Fn P w K mg base ca 2 A.f__law_mixed ["_law_pool_here", "_law_things"] g__law_mixed) (H__law_draw : Fn P w K mg base ca 1 A.f__law_draw ["_law_pool_here", "_law_many"] g__law_draw) (H_Tongue___init__ : FnI P w K mg base ca 0 3 A.f_Tongue___init__ "self" ["marks", "ties", "functions"] g_Tongue___init__) (H_Tongue___eq__ : Fn P w K mg base ca 3 A.f_Tongue___eq__ ["self", "other"] g_Tongue___eq__) (H_World___init__ : FnI P w K mg base ca 1 7 A.f_World___init__ "self" ["tongue", "things", "marks", "ties"] g_World___init__) (F : Fun K "law" "law" s_law A.f_law fd) : FnOk P w K mg base (L2.CX P w) 9 A.f_law fd ["_law_script"] (spM ⟨K, ca, w⟩ 1 g_law) := by
  obtain ⟨fd__law_pool, F__law_pool, B__law_pool⟩ := H__law_pool.ok
  have KP__law_pool := H__law_pool.kp
  obtain ⟨fd__law_names, F__law_names, B__law_names⟩ := H__law_names.ok
  have KP__law_names := H__law_names.kp
  obtain ⟨fd__law_mixed, F__law_mixed, B__law_mixed⟩ := H__law_mixed.ok
  have KP__law_mixed := H__law_mixed.kp
  obtain ⟨fd__law_draw, F__law_draw, B__law_draw⟩ := H__law_draw.ok
  have KP__law_draw := H__law_draw.kp
  obtain ⟨fd_Tongue___init__, F_Tongue___init__, B_Tongue___init__⟩ := H_Tongue___init__.ok
  obtain ⟨fd_Tongue___eq__, F_Tongue___eq__, B_Tongue___eq__⟩ := H_Tongue___eq__.ok
  have KP_Tongue___eq__ := H_Tongue___eq__.kp
  obtain ⟨fd_World___init__, F_World___init__, B_World___init__⟩ := H_World___init__.ok
  exact fn_mir (P := P) (w := w) (mg := mg) (base := base) (ca := ca) (N := ["_law_script", "_law_pool_here", "_law_names_here", "_law_cases", "_law_turn", "_law_tongues", "_law_one", "_law_marks", "_law_ties", "_law_two", "_law_other", "_law_thing", "_law_case", "_law_same", "_law_name"]) (body := b_law) F sc_law fun cdv AA outer s H E hr => (by
    have nd := sc_law.nd
    have tk := takes_of (X := cxOf (L2.CX P w) P w K mg base ["_law_script", "_law_pool_here", "_law_names_here", "_law_cases", "_law_turn", "_law_tongues", "_law_one", "_law_marks", "_law_ties", "_law_two", "_law_other", "_law_thing", "_law_case", "_law_same", "_law_name"] "law" (defScope s_law) A.f_law cdv AA outer s H E) (E := E) rfl rfl rfl rfl
    exact ⟨_, (jb_cons (js_set (i := 1) nd rfl (by first | exact .inl rfl | exact .inr rfl) (je_call F__law_pool (hr.mono (by decide)) rfl T.g__law_pool KP__law_pool B__law_pool tk (ja_cons (je_var (i := 0) rfl (by first | exact .inl rfl | exact .inr (.inl rfl) | exact .inr (.inr rfl))) ja_nil)))
      (jb_cons (js_set (i := 2) nd rfl (by first | exact .inl rfl | exact .inr rfl) (je_call F__law_names (hr.mono (by decide)) rfl T.g__law_names KP__law_names B__law_names tk (ja_cons (je_var (i := 1) rfl (by first | exact .inl rfl | exact .inr (.inl rfl) | exact .inr (.inr rfl))) (ja_cons (je_int (i := (5 : Int))) ja_nil))))
      (jb_cons (js_own (i := 3) nd rfl (by first | exact .inl rfl | exact .inr rfl) (jn_lst ja_nil))
      (jb_cons (js_for (passes_of rfl) rfl (ji_range1 rfl T.b_range (ja_cons (je_int (i := (5 : Int))) ja_nil)) (jg_name (i := 4) nd rfl (by first | exact .inl rfl | exact .inr rfl))
      (jb_cons (js_set (i := 7) nd rfl (by first | exact .inl rfl | exact .inr rfl) (je_callTy call_tuple_of sp_tuple rfl T.b_tuple (by decide +kernel) (ja_cons (je_sl (je_call F__law_mixed (hr.mono (by decide)) rfl T.g__law_mixed KP__law_mixed B__law_mixed tk (ja_cons (je_var (i := 1) rfl (by first | exact .inl rfl | exact .inr (.inl rfl) | exact .inr (.inr rfl))) (ja_cons (je_sl (je_var (i := 2) rfl (by first | exact .inl rfl | exact .inr (.inl rfl) | exact .inr (.inr rfl))) jo_none (jo_some (je_int (i := (3 : Int))))) ja_nil))) jo_none (jo_some (je_call F__law_draw (hr.mono (by decide)) rfl T.g__law_draw KP__law_draw B__law_draw tk (ja_cons (je_var (i := 1) rfl (by first | exact .inl rfl | exact .inr (.inl rfl) | exact .inr (.inr rfl))) (ja_cons (je_int (i := (4 : Int))) ja_nil))))) ja_nil)))
      (jb_cons (js_set (i := 8) nd rfl (by first | exact .inl rfl | exact .inr rfl) (je_callTy call_tuple_of sp_tuple rfl T.b_tuple (by decide +kernel) (ja_cons (je_sl (je_call F__law_mixed (hr.mono (by decide)) rfl T.g__law_mixed KP__law_mixed B__law_mixed tk (ja_cons (je_var (i := 1) rfl (by first | exact .inl rfl | exact .inr (.inl rfl) | exact .inr (.inr rfl))) (ja_cons (je_sl (je_var (i := 2) rfl (by first | exact .inl rfl | exact .inr (.inl rfl) | exact .inr (.inr rfl))) (jo_some (je_int (i := (3 : Int)))) jo_none) ja_nil))) jo_none (jo_some (je_call F__law_draw (hr.mono (by decide)) rfl T.g__law_draw KP__law_draw B__law_draw tk (ja_cons (je_var (i := 1) rfl (by first | exact .inl rfl | exact .inr (.inl rfl) | exact .inr (.inr rfl))) (ja_cons (je_int (i := (3 : Int))) ja_nil))))) ja_nil)))
      (jb_cons (js_if (JW.jt (jw_and (jt_cmp (op_eqD hr.units) sp_eq (je_call F__law_draw (hr.mono (by decide)) rfl T.g__law_draw KP__law_draw B__law_draw tk (ja_cons (je_var (i := 1) rfl (by first | exact .inl rfl | exact .inr (.inl rfl) | exact .inr (.inr rfl))) (ja_cons (je_int (i := (2 : Int))) ja_nil))) (je_int (i := (0 : Int))) (nomark _)) (jw_and1 (jt_cmp op_gt sp_cmp (je_callB call_lenU sp_lenU rfl T.b_len (by decide +kernel) (ja_cons (je_var (i := 3) rfl (by first | exact .inl rfl | exact .inr (.inl rfl) | exact .inr (.inr rfl))) ja_nil)) (je_int (i := (0 : Int))) (nomark _)))))
      (jb_one (js_asg (je_sl (je_ix ix_seq sp_ix (je_var (i := 3) rfl (by first | exact .inl rfl | exact .inr (.inl rfl) | exact .inr (.inr rfl))) (je_un un_neg sp_neg (je_int (i := (1 : Int))))) jo_none (jo_some (je_int (i := (2 : Int))))) (jg_tup rfl (jgs_cons (jg_name (i := 7) nd rfl (by first | exact .inl rfl | exact .inr rfl)) (jgs_cons (jg_name (i := 8) nd rfl (by first | exact .inl rfl | exact .inr rfl)) jgs_nil)))))
      jb_nil)
      (jb_one (js_expr (je_mu PySem.F.plainAttrs_list PySem.F.slot_list_append PySem.F.type_list_append mt_append sp_append ty_lst (je_var (i := 3) rfl (by first | exact .inl rfl | exact .inr (.inl rfl) | exact .inr (.inr rfl))) (ja_cons (je_tup (ja_cons (je_var (i := 7) rfl (by first | exact .inl rfl | exact .inr (.inl rfl) | exact .inr (.inr rfl))) (ja_cons (je_var (i := 8) rfl (by first | exact .inl rfl | exact .inr (.inl rfl) | exact .inr (.inr rfl))) (ja_cons (je_sl (je_var (i := 8) rfl (by first | exact .inl rfl | exact .inr (.inl rfl) | exact .inr (.inr rfl))) jo_none (jo_some (je_call F__law_draw (hr.mono (by decide)) rfl T.g__law_draw KP__law_draw B__law_draw tk (ja_cons (je_var (i := 1) rfl (by first | exact .inl rfl | exact .inr (.inl rfl) | exact .inr (.inr rfl))) (ja_cons (je_int (i := (2 : Int))) ja_nil))))) ja_nil)))) ja_nil))))))))
      (jb_cons (js_expr (je_mu PySem.F.plainAttrs_list PySem.F.slot_list_append PySem.F.type_list_append mt_append sp_append ty_lst (je_var (i := 3) rfl (by first | exact .inl rfl | exact .inr (.inl rfl) | exact .inr (.inr rfl))) (ja_cons (je_tup (ja_cons (je_ix ix_seq sp_ix (je_ix ix_seq sp_ix (je_var (i := 3) rfl (by first | exact .inl rfl | exact .inr (.inl rfl) | exact .inr (.inr rfl))) (je_int (i := (0 : Int)))) (je_int (i := (1 : Int)))) (ja_cons (je_tup ja_nil) (ja_cons (je_tup ja_nil) ja_nil)))) ja_nil)))
      (jb_cons (js_expr (je_mu PySem.F.plainAttrs_list PySem.F.slot_list_append PySem.F.type_list_append mt_append sp_append ty_lst (je_var (i := 3) rfl (by first | exact .inl rfl | exact .inr (.inl rfl) | exact .inr (.inr rfl))) (ja_cons (je_tup (ja_cons (je_tup ja_nil) (ja_cons (je_ix ix_seq sp_ix (je_ix ix_seq sp_ix (je_var (i := 3) rfl (by first | exact .inl rfl | exact .inr (.inl rfl) | exact .inr (.inr rfl))) (je_int (i := (0 : Int)))) (je_int (i := (1 : Int)))) (ja_cons (je_tup ja_nil) ja_nil)))) ja_nil)))
      (jb_cons (js_frzLc (tt := tYes) (te' := (tMakeS (ca 0) (spI ⟨K, ca, w⟩ 0 (["marks", "ties", "functions"] : List Str).length g_Tongue___init__) (fun σ c dx H' => W0 c dx σ H') (tCons (tCB (fun xs H Q => ∃ p ys, xs = [.ref p] ∧ (SqL K H p ys ∨ SqT K H p ys) ∧ ∀ l, H l = none → Q (.ref l) (upd H l (.lst ys))) (tCons (tOp (rIx K) (tVar 12) (tC (.int (0 : Int)))) tNil)) (tCons (tCB (fun xs H Q => ∃ p ys, xs = [.ref p] ∧ (SqL K H p ys ∨ SqT K H p ys) ∧ ∀ l, H l = none → Q (.ref l) (upd H l (.lst ys))) (tCons (tOp (rIx K) (tVar 12) (tC (.int (1 : Int)))) tNil)) (tCons (tCB (fun xs H Q => ∃ p ys, xs = [.ref p] ∧ (SqL K H p ys ∨ SqT K H p ys) ∧ ∀ l, H l = none → Q (.ref l) (upd H l (.lst ys))) (tCons (tOp (rIx K) (tVar 12) (tC (.int (2 : Int)))) tNil)) tNil))))) (mt := (ret true)) (me := (eFrz (nMake g_Tongue___init__ (aCons (eFrz (nC listD (aCons (op2 ixD (vr 12) (kk (.int (0 : Int)))) aNil))) (aCons (eFrz (nC listD (aCons (op2 ixD (vr 12) (kk (.int (1 : Int)))) aNil))) (aCons (eFrz (nC listD (aCons (op2 ixD (vr 12) (kk (.int (2 : Int)))) aNil))) aNil)))))) (i := 5) (own := [("_law_case", 12)]) rfl nd rfl rfl (sw_true rfl rfl rfl (by decide +kernel)) (by exact (ji_seq (je_var (i := 3) rfl (by first | exact .inl rfl | exact .inr (.inl rfl) | exact .inr (.inr rfl))))) (blkOk_by (own := [("_law_case", 12)]) (N := ["_law_script", "_law_pool_here", "_law_names_here", "_law_cases", "_law_turn", "_law_tongues", "_law_one", "_law_marks", "_law_ties", "_law_two", "_law_other", "_law_thing", "_law_case", "_law_same", "_law_name"]) (sc := defScope s_law) (by decide +kernel)) (fun _ _ _ _ _ => by exact (jg_name (i := 12) nd rfl (by first | exact .inl rfl | exact .inr rfl))) (gw_name (by decide)) gN_len (fun _ _ _ _ _ => by exact jts_nil) (fun _ _ _ _ _ => by exact (JN.frz (jn_make (c := 0) (ps := ["marks", "ties", "functions"]) T.mk_Tongue F_Tongue___init__ (hr.mono (by decide)) rfl T.g_Tongue B_Tongue___init__ takes0 (ja_cons (JN.frz (jn_callTy call_list_of sp_list rfl T.b_list (by decide +kernel) (ja_cons (je_ix ix_seq sp_ix (je_var (i := 12) rfl (by first | exact .inl rfl | exact .inr (.inl rfl) | exact .inr (.inr rfl))) (je_int (i := (0 : Int)))) ja_nil))) (ja_cons (JN.frz (jn_callTy call_list_of sp_list rfl T.b_list (by decide +kernel) (ja_cons (je_ix ix_seq sp_ix (je_var (i := 12) rfl (by first | exact .inl rfl | exact .inr (.inl rfl) | exact .inr (.inr rfl))) (je_int (i := (1 : Int)))) ja_nil))) (ja_cons (JN.frz (jn_callTy call_list_of sp_list rfl T.b_list (by decide +kernel) (ja_cons (je_ix ix_seq sp_ix (je_var (i := 12) rfl (by first | exact .inl rfl | exact .inr (.inl rfl) | exact .inr (.inr rfl))) (je_int (i := (2 : Int)))) ja_nil))) ja_nil)))))))
      (jb_cons (js_for (passes_of rfl) rfl (ji_range1 rfl T.b_range (ja_cons (je_callB call_lenU sp_lenU rfl T.b_len (by decide +kernel) (ja_cons (je_var (i := 3) rfl (by first | exact .inl rfl | exact .inr (.inl rfl) | exact .inr (.inr rfl))) ja_nil)) ja_nil)) (jg_name (i := 6) nd rfl (by first | exact .inl rfl | exact .inr rfl))
      (jb_cons (js_for (passes_of rfl) rfl (ji_range1 rfl T.b_range (ja_cons (je_callB call_lenU sp_lenU rfl T.b_len (by decide +kernel) (ja_cons (je_var (i := 3) rfl (by first | exact .inl rfl | exact .inr (.inl rfl) | exact .inr (.inr rfl))) ja_nil)) ja_nil)) (jg_name (i := 9) nd rfl (by first | exact .inl rfl | exact .inr rfl))
      (jb_cons (js_set (i := 13) nd rfl (by first | exact .inl rfl | exact .inr rfl) (je_cmp (op_eqD hr.units) sp_eq (je_ix ix_seq sp_ix (je_var (i := 3) rfl (by first | exact .inl rfl | exact .inr (.inl rfl) | exact .inr (.inr rfl))) (je_var (i := 6) rfl (by first | exact .inl rfl | exact .inr (.inl rfl) | exact .inr (.inr rfl)))) (je_ix ix_seq sp_ix (je_var (i := 3) rfl (by first | exact .inl rfl | exact .inr (.inl rfl) | exact .inr (.inr rfl))) (je_var (i := 9) rfl (by first | exact .inl rfl | exact .inr (.inl rfl) | exact .inr (.inr rfl)))) (nomark _)))
      (jb_one (js_if (JW.jt (jw_or (jt_cmp (op_neD hr.units) sp_ne (je_eqO2 T.eo_Tongue (oth_Tongue_ok T.cf_Tongue T.cf_World T.ms_Tongue_World) F_Tongue___eq__ (hr.mono (by decide)) B_Tongue___eq__ (je_ix ix_seq sp_ix (je_var (i := 5) rfl (by first | exact .inl rfl | exact .inr (.inl rfl) | exact .inr (.inr rfl))) (je_var (i := 6) rfl (by first | exact .inl rfl | exact .inr (.inl rfl) | exact .inr (.inr rfl)))) (je_ix ix_seq sp_ix (je_var (i := 5) rfl (by first | exact .inl rfl | exact .inr (.inl rfl) | exact .inr (.inr rfl))) (je_var (i := 9) rfl (by first | exact .inl rfl | exact .inr (.inl rfl) | exact .inr (.inr rfl)))) (nomark _)) (je_var (i := 13) rfl (by first | exact .inl rfl | exact .inr (.inl rfl) | exact .inr (.inr rfl))) (nomark _)) (jw_or1 (jt_cmp (op_eqD hr.units) sp_eq (je_neO2 T.eo_Tongue (oth_Tongue_ok T.cf_Tongue T.cf_World T.ms_Tongue_World) F_Tongue___eq__ (hr.mono (by decide)) B_Tongue___eq__ (je_ix ix_seq sp_ix (je_var (i := 5) rfl (by first | exact .inl rfl | exact .inr (.inl rfl) | exact .inr (.inr rfl))) (je_var (i := 6) rfl (by first | exact .inl rfl | exact .inr (.inl rfl) | exact .inr (.inr rfl)))) (je_ix ix_seq sp_ix (je_var (i := 5) rfl (by first | exact .inl rfl | exact .inr (.inl rfl) | exact .inr (.inr rfl))) (je_var (i := 9) rfl (by first | exact .inl rfl | exact .inr (.inl rfl) | exact .inr (.inr rfl)))) (nomark _)) (je_var (i := 13) rfl (by first | exact .inl rfl | exact .inr (.inl rfl) | exact .inr (.inr rfl))) (nomark _)))))
      (jb_one (js_ret (je_bl (i := false))))
      jb_nil))))
      (jb_cons (js_set (i := 10) nd rfl (by first | exact .inl rfl | exact .inr rfl) (JN.frz (jn_make (c := 1) (ps := ["tongue", "things", "marks", "ties"]) T.mk_World F_World___init__ (hr.mono (by decide)) rfl T.g_World B_World___init__ tk (ja_cons (je_ix ix_seq sp_ix (je_var (i := 5) rfl (by first | exact .inl rfl | exact .inr (.inl rfl) | exact .inr (.inr rfl))) (je_var (i := 6) rfl (by first | exact .inl rfl | exact .inr (.inl rfl) | exact .inr (.inr rfl)))) (ja_cons (je_int (i := (1 : Int))) (ja_cons (JN.frz (jn_callTyK (call_dictP rfl) sp_dictP rfl T.b_dict (by decide +kernel) (ja_cons (JN.frz (jn_lc (tt := tYes) (te := (tTup (tCons (tVar 14) (tCons (tLst tNil) tNil)))) (mt := (ret true)) (me := (eTup (aCons (vr 14) (aCons (eFrz (nLst aNil)) aNil)))) (own := [("_law_name", 14)]) rfl nd (by exact (ji_seq (je_ix ix_seq sp_ix (je_ix ix_seq sp_ix (je_var (i := 3) rfl (by first | exact .inl rfl | exact .inr (.inl rfl) | exact .inr (.inr rfl))) (je_var (i := 6) rfl (by first | exact .inl rfl | exact .inr (.inl rfl) | exact .inr (.inr rfl)))) (je_int (i := (0 : Int)))))) (blkOk_by (own := [("_law_name", 14)]) (N := ["_law_script", "_law_pool_here", "_law_names_here", "_law_cases", "_law_turn", "_law_tongues", "_law_one", "_law_marks", "_law_ties", "_law_two", "_law_other", "_law_thing", "_law_case", "_law_same", "_law_name"]) (sc := defScope s_law) (by decide +kernel)) (fun _ _ _ _ _ => by exact (jg_name (i := 14) nd rfl (by first | exact .inl rfl | exact .inr rfl))) (gw_name (by decide)) gN_len (fun _ _ _ _ _ => by exact jts_nil) (fun _ _ _ _ _ => by exact (je_tup (ja_cons (je_var (i := 14) rfl (by first | exact .inl rfl | exact .inr (.inl rfl) | exact .inr (.inr rfl))) (ja_cons (JN.frz (jn_lst ja_nil)) ja_nil)))))) ja_nil))) (ja_cons (JN.frz (jn_callTyK (call_dictP rfl) sp_dictP rfl T.b_dict (by decide +kernel) (ja_cons (JN.frz (jn_lc (tt := tYes) (te := (tTup (tCons (tVar 14) (tCons (tLst (tCons (tTup (tCons (tC (.int (0 : Int))) (tCons (tC (.int (0 : Int))) tNil))) tNil)) tNil)))) (mt := (ret true)) (me := (eTup (aCons (vr 14) (aCons (eFrz (nLst (aCons (eTup (aCons (kk (.int (0 : Int))) (aCons (kk (.int (0 : Int))) aNil))) aNil))) aNil)))) (own := [("_law_name", 14)]) rfl nd (by exact (ji_seq (je_ix ix_seq sp_ix (je_ix ix_seq sp_ix (je_var (i := 3) rfl (by first | exact .inl rfl | exact .inr (.inl rfl) | exact .inr (.inr rfl))) (je_var (i := 6) rfl (by first | exact .inl rfl | exact .inr (.inl rfl) | exact .inr (.inr rfl)))) (je_int (i := (1 : Int)))))) (blkOk_by (own := [("_law_name", 14)]) (N := ["_law_script", "_law_pool_here", "_law_names_here", "_law_cases", "_law_turn", "_law_tongues", "_law_one", "_law_marks", "_law_ties", "_law_two", "_law_other", "_law_thing", "_law_case", "_law_same", "_law_name"]) (sc := defScope s_law) (by decide +kernel)) (fun _ _ _ _ _ => by exact (jg_name (i := 14) nd rfl (by first | exact .inl rfl | exact .inr rfl))) (gw_name (by decide)) gN_len (fun _ _ _ _ _ => by exact jts_nil) (fun _ _ _ _ _ => by exact (je_tup (ja_cons (je_var (i := 14) rfl (by first | exact .inl rfl | exact .inr (.inl rfl) | exact .inr (.inr rfl))) (ja_cons (JN.frz (jn_lst (ja_cons (je_tup (ja_cons (je_int (i := (0 : Int))) (ja_cons (je_int (i := (0 : Int))) ja_nil))) ja_nil))) ja_nil)))))) ja_nil))) ja_nil)))))))
      (jb_one (js_for (passes_of rfl) rfl (ji_seq (JN.frz (jn_lst (ja_cons je_non (ja_cons (je_ix ix_seq sp_ix (je_var (i := 3) rfl (by first | exact .inl rfl | exact .inr (.inl rfl) | exact .inr (.inr rfl))) (je_var (i := 6) rfl (by first | exact .inl rfl | exact .inr (.inl rfl) | exact .inr (.inr rfl)))) (ja_cons (JN.frz (jn_callTy call_list_of sp_list rfl T.b_list (by decide +kernel) (ja_cons (je_ix ix_seq sp_ix (je_var (i := 3) rfl (by first | exact .inl rfl | exact .inr (.inl rfl) | exact .inr (.inr rfl))) (je_var (i := 6) rfl (by first | exact .inl rfl | exact .inr (.inl rfl) | exact .inr (.inr rfl)))) ja_nil))) (ja_cons (je_bl (i := true)) (ja_cons (je_int (i := (0 : Int))) (ja_cons (je_str (i := ("" : Str))) (ja_cons (JN.frz jn_dicK) (ja_cons (je_var (i := 10) rfl (by first | exact .inl rfl | exact .inr (.inl rfl) | exact .inr (.inr rfl))) ja_nil))))))))))) (jg_name (i := 11) nd rfl (by first | exact .inl rfl | exact .inr rfl))
      (jb_one (js_if (JW.jt (jw_or (jt_eqO2 T.eo_Tongue (oth_Tongue_ok T.cf_Tongue T.cf_World T.ms_Tongue_World) F_Tongue___eq__ (hr.mono (by decide)) B_Tongue___eq__ (je_ix ix_seq sp_ix (je_var (i := 5) rfl (by first | exact .inl rfl | exact .inr (.inl rfl) | exact .inr (.inr rfl))) (je_var (i := 6) rfl (by first | exact .inl rfl | exact .inr (.inl rfl) | exact .inr (.inr rfl)))) (je_var (i := 11) rfl (by first | exact .inl rfl | exact .inr (.inl rfl) | exact .inr (.inr rfl))) (nomark _)) (jw_or1 (jt_not (jt_neO2 T.eo_Tongue (oth_Tongue_ok T.cf_Tongue T.cf_World T.ms_Tongue_World) F_Tongue___eq__ (hr.mono (by decide)) B_Tongue___eq__ (je_ix ix_seq sp_ix (je_var (i := 5) rfl (by first | exact .inl rfl | exact .inr (.inl rfl) | exact .inr (.inr rfl))) (je_var (i := 6) rfl (by first | exact .inl rfl | exact .inr (.inl rfl) | exact .inr (.inr rfl)))) (je_var (i := 11) rfl (by first | exact .inl rfl | exact .inr (.inl rfl) | exact .inr (.inr rfl))) (nomark _))))))
      (jb_one (js_ret (je_bl (i := false))))
      jb_nil)))))))
      (jb_one (js_ret (je_bl (i := true))))))))))))⟩)
end Mi

/-! what a mirror computes: rules for its runs. -/
namespace Mi
open PySem PySem.Spec PyProof.Rows L2

inductive Tg {α : Type} (Q : α → S → Prop) : Type | mk
def Wp {α : Type} (r : Res α) (Q : α → S → Prop) (_ : Tg Q := .mk) : Prop := match r with
  | .ok a s => Q a s
  | _ => False
section
variable {α β : Type} {s : S} {e : List Slot} {t : List D} {i : Nat} {d : D}
theorem Wp.mono {r : Res α} {Q Q' : α → S → Prop} (h : Wp r Q) (k : ∀ a s, Q a s → Q' a s) : Wp r Q' := by
  cases r with
  | ok a s => exact k a s h
  | exc x s => exact h
  | stuck => exact h
theorem wp_ex {r : Res α} {Q : α → S → Prop} : Wp r Q ↔ ∃ a s, r = .ok a s ∧ Q a s := by
  cases r with
  | ok a s => exact ⟨fun h => ⟨a, s, rfl, h⟩, fun ⟨_, _, h, q⟩ => by cases h; exact q⟩
  | exc x s => exact ⟨fun h => h.elim, fun ⟨_, _, h, _⟩ => by cases h⟩
  | stuck => exact ⟨fun h => h.elim, fun ⟨_, _, h, _⟩ => by cases h⟩
@[simp] theorem wp_ok {a : α} {Q : α → S → Prop} : Wp (.ok a s) Q = Q a s := rfl
@[simp] theorem wp_ret {a : α} {Q : α → S → Prop} : Wp (ret a s) Q = Q a s := rfl
@[simp] theorem wp_bnd {m : M α} {f : α → M β} {Q : β → S → Prop} : Wp (bnd m f s) Q = Wp (m s) fun a s1 => Wp (f a s1) Q := by
  unfold bnd Res.bind
  cases m s <;> rfl
theorem wp_bndQ {m : M α} {f : α → M β} {Q : β → S → Prop} {Q' : α → S → Prop} (h : ∀ a s1, Wp (f a s1) Q = Q' a s1) : Wp (bnd m f s) Q = Wp (m s) Q' := by
  rw [wp_bnd]
  have : (fun a s1 => Wp (f a s1) Q) = Q' := by funext a s1; exact h a s1
  rw [this]
@[simp] theorem wp_opt {d : D} {Q : Loc → S → Prop} : Wp (opt (some d) s) Q = Q (.val d) s := rfl
@[simp] theorem wp_op2 {f : D → D → Option D} {ma mb : M Loc} {Q : Loc → S → Prop} : Wp (op2 f ma mb s) Q = Wp (ma s) fun x s1 => Wp (mb s1) fun y s2 => Wp (cont x s2) fun dx s3 => Wp (cont y s3) fun dy s4 => Wp (opt (f dx dy) s4) Q := by
  unfold op2; (repeat with_reducible refine wp_bndQ fun _ _ => ?_) <;> rfl
@[simp] theorem wp_op1 {f : D → Option D} {ma : M Loc} {Q : Loc → S → Prop} : Wp (op1 f ma s) Q = Wp (ma s) fun x s1 => Wp (cont x s1) fun dx s3 => Wp (opt (f dx) s3) Q := by
  unfold op1; (repeat with_reducible refine wp_bndQ fun _ _ => ?_) <;> rfl
@[simp] theorem wp_opC {f : List D → Option D} {ma : M (List Loc)} {Q : Loc → S → Prop} : Wp (opC f ma s) Q = Wp (ma s) fun x s1 => Wp (conts x s1) fun dx s3 => Wp (opt (f dx) s3) Q := by
  unfold opC; (repeat with_reducible refine wp_bndQ fun _ _ => ?_) <;> rfl
@[simp] theorem wp_aNil {Q : List Loc → S → Prop} : Wp (aNil s) Q = Q [] s := rfl
@[simp] theorem wp_aCons {m : M Loc} {ms : M (List Loc)} {Q : List Loc → S → Prop} : Wp (aCons m ms s) Q = Wp (m s) fun x s1 => Wp (ms s1) fun xs s2 => Q (x :: xs) s2 := by
  unfold aCons; (repeat with_reducible refine wp_bndQ fun _ _ => ?_) <;> rfl
@[simp] theorem wp_conts_nil {Q : List D → S → Prop} : Wp (conts [] s) Q = Q [] s := rfl
@[simp] theorem wp_conts_cons {l : Loc} {ls : List Loc} {Q : List D → S → Prop} : Wp (conts (l :: ls) s) Q = Wp (cont l s) fun d s1 => Wp (conts ls s1) fun ds s2 => Q (d :: ds) s2 := by
  rw [conts]; (repeat with_reducible refine wp_bndQ fun _ _ => ?_) <;> rfl
@[simp] theorem wp_vals_nil {Q : List D → S → Prop} : Wp (vals [] s) Q = Q [] s := rfl
@[simp] theorem wp_vals_cons {l : Loc} {ls : List Loc} {Q : List D → S → Prop} : Wp (vals (l :: ls) s) Q = Wp (toVal l s) fun d s1 => Wp (vals ls s1) fun ds s2 => Q (d :: ds) s2 := by
  rw [vals]; (repeat with_reducible refine wp_bndQ fun _ _ => ?_) <;> rfl
@[simp] theorem wp_toVal {Q : D → S → Prop} : Wp (toVal (.val d) s) Q = Q d s := by
  unfold toVal; rfl
@[simp] theorem wp_toOwn {Q : D → S → Prop} : Wp (toVal (.own i) ⟨e, t⟩) Q = Wp (match e[i]? with | some (.own d) => .ok d ⟨e.set i (.val d), t⟩ | some (.val d) => .ok d ⟨e, t⟩ | _ => .stuck) Q := rfl
@[simp] theorem wp_contOwn {Q : D → S → Prop} : Wp (cont (.own i) ⟨e, t⟩) Q = Wp (match e[i]? with | some (.own d) => .ok d ⟨e, t⟩ | _ => .stuck) Q := rfl
@[simp] theorem wp_contPtr {Q : D → S → Prop} : Wp (cont (.val (.ptr i)) ⟨e, t⟩) Q = Wp (match t[i]? with | some d => .ok d ⟨e, t⟩ | none => .stuck) Q := rfl
def noPtr : D → Bool | .ptr _ => false | _ => true
theorem wp_cont {Q : D → S → Prop} (h : noPtr d = true) : Wp (cont (.val d) s) Q = Q d s := by
  cases d <;> first | rfl | cases h
@[simp] theorem wp_contInt {k : Int} {Q : D → S → Prop} : Wp (cont (.val (.int k)) s) Q = Q (.int k) s := rfl
@[simp] theorem wp_contStr {k : Str} {Q : D → S → Prop} : Wp (cont (.val (.str k)) s) Q = Q (.str k) s := rfl
@[simp] theorem wp_contBl {k : Bool} {Q : D → S → Prop} : Wp (cont (.val (.bl k)) s) Q = Q (.bl k) s := rfl
@[simp] theorem wp_contNon {Q : D → S → Prop} : Wp (cont (.val .non) s) Q = Q .non s := rfl
@[simp] theorem wp_contTup {k : List D} {Q : D → S → Prop} : Wp (cont (.val (.tup k)) s) Q = Q (.tup k) s := rfl
@[simp] theorem wp_contLst {k : List D} {Q : D → S → Prop} : Wp (cont (.val (.lst k)) s) Q = Q (.lst k) s := rfl
@[simp] theorem wp_contLck {k : List D} {Q : D → S → Prop} : Wp (cont (.val (.lck k)) s) Q = Q (.lck k) s := rfl
@[simp] theorem wp_contDic {k} {Q : D → S → Prop} : Wp (cont (.val (.dic k)) s) Q = Q (.dic k) s := rfl
@[simp] theorem wp_contObj {k c} {Q : D → S → Prop} : Wp (cont (.val (.obj c k)) s) Q = Q (.obj c k) s := rfl
@[simp] theorem wp_vr {Q : Loc → S → Prop} : Wp (vr i ⟨e, t⟩) Q = Wp (match e[i]? with | some (.val d) => .ok (.val d) ⟨e, t⟩ | some (.own _) => .ok (.own i) ⟨e, t⟩ | _ => .stuck) Q := rfl
@[simp] theorem wp_kk {Q : Loc → S → Prop} : Wp (kk d s) Q = Q (.val d) s := rfl
@[simp] theorem wp_tst {m : M Loc} {Q : Bool → S → Prop} : Wp (tst m s) Q = Wp (m s) fun x s1 => Wp (cont x s1) fun d s2 => Wp (match truD d with | some b => .ok b s2 | none => .stuck) Q := by
  unfold tst; (repeat with_reducible refine wp_bndQ fun _ _ => ?_) <;> rfl
@[simp] theorem wp_tstB {m : M Loc} {Q : Bool → S → Prop} : Wp (tstB m s) Q = Wp (m s) fun x s1 => Wp (match x with | .val (.bl b) => .ok b s1 | _ => .stuck) Q := by
  unfold tstB; (repeat with_reducible refine wp_bndQ fun _ _ => ?_) <;> rfl
@[simp] theorem wp_chn {f g : D → D → Option D} {ma mb mc : M Loc} {Q : Loc → S → Prop} : Wp (chn f g ma mb mc s) Q = Wp (ma s) fun x s1 => Wp (mb s1) fun y s2 => Wp (cont x s2) fun dx s3 => Wp (cont y s3) fun dy s4 => Wp (match f dx dy with
  | some (.bl true) => op2 g (ret y) mc s4
  | some (.bl false) => .ok (.val (.bl false)) s4
  | _ => .stuck) Q := by
  unfold chn; (repeat with_reducible refine wp_bndQ fun _ _ => ?_) <;> rfl
@[simp] theorem wp_mAnd {a b : M Bool} {Q : Bool → S → Prop} : Wp (mAnd a b s) Q = Wp (a s) fun k s1 => Wp ((if k = true then b else ret false) s1) Q := by unfold mAnd; (repeat with_reducible refine wp_bndQ fun _ _ => ?_) <;> rfl
@[simp] theorem wp_mOr {a b : M Bool} {Q : Bool → S → Prop} : Wp (mOr a b s) Q = Wp (a s) fun k s1 => Wp ((if k = true then ret true else b) s1) Q := by unfold mOr; (repeat with_reducible refine wp_bndQ fun _ _ => ?_) <;> rfl
@[simp] theorem wp_mNot {a : M Bool} {Q : Bool → S → Prop} : Wp (mNot a s) Q = Wp (a s) fun k s1 => Q (!k) s1 := by unfold mNot; (repeat with_reducible refine wp_bndQ fun _ _ => ?_) <;> rfl
@[simp] theorem wp_eAnd {a b : M Loc} {Q : Loc → S → Prop} : Wp (eAnd a b s) Q = Wp (a s) fun x s1 => Wp (match x with | .val (.bl true) => b s1 | .val (.bl false) => .ok (.val (.bl false)) s1 | _ => .stuck) Q := by unfold eAnd; (repeat with_reducible refine wp_bndQ fun _ _ => ?_) <;> rfl
@[simp] theorem wp_eOr {a b : M Loc} {Q : Loc → S → Prop} : Wp (eOr a b s) Q = Wp (a s) fun x s1 => Wp (match x with | .val (.bl false) => b s1 | .val (.bl true) => .ok (.val (.bl true)) s1 | _ => .stuck) Q := by unfold eOr; (repeat with_reducible refine wp_bndQ fun _ _ => ?_) <;> rfl
@[simp] theorem wp_eNot {a : M Loc} {Q : Loc → S → Prop} : Wp (eNot a s) Q = Wp (a s) fun x s1 => Wp (match x with | .val (.bl k) => .ok (.val (.bl (!k))) s1 | _ => .stuck) Q := by unfold eNot; (repeat with_reducible refine wp_bndQ fun _ _ => ?_) <;> rfl
@[simp] theorem wp_eIf {c : M Bool} {a b : M Loc} {Q : Loc → S → Prop} : Wp (eIf c a b s) Q = Wp (c s) fun k s1 => Wp ((if k = true then a else b) s1) Q := by unfold eIf; (repeat with_reducible refine wp_bndQ fun _ _ => ?_) <;> rfl
@[simp] theorem wp_eTup {m : M (List Loc)} {Q : Loc → S → Prop} : Wp (eTup m s) Q = Wp (m s) fun ls s1 => Wp (vals ls s1) fun ds s2 => Wp (if ds.length ≤ lim then .ok (.val (.tup ds)) s2 else .stuck) Q := by unfold eTup; (repeat with_reducible refine wp_bndQ fun _ _ => ?_) <;> rfl
@[simp] theorem wp_nLst {m : M (List Loc)} {Q : D → S → Prop} : Wp (nLst m s) Q = Wp (m s) fun ls s1 => Wp (vals ls s1) fun ds s2 => Wp (if ds.length ≤ lim then .ok (.lst ds) s2 else .stuck) Q := by unfold nLst; (repeat with_reducible refine wp_bndQ fun _ _ => ?_) <;> rfl
@[simp] theorem wp_eFrz {m : M D} {Q : Loc → S → Prop} : Wp (eFrz m s) Q = Wp (m s) fun d s1 => Q (.val d) s1 := by unfold eFrz; (repeat with_reducible refine wp_bndQ fun _ _ => ?_) <;> rfl
@[simp] theorem wp_ePtr {m : M D} {Q : Loc → S → Prop} : Wp (ePtr m s) Q = Wp (m s) fun d s1 => Q (.val (.ptr s1.t.length)) ⟨s1.e, s1.t ++ [d]⟩ := by unfold ePtr; (repeat with_reducible refine wp_bndQ fun _ _ => ?_) <;> rfl
@[simp] theorem wp_eCall {g : List D → M D} {m : M (List Loc)} {Q : Loc → S → Prop} : Wp (eCall g m s) Q = Wp (m s) fun ls s1 => Wp (vals ls s1) fun ds s2 => Wp (callF g ds s2) Q := by unfold eCall; (repeat with_reducible refine wp_bndQ fun _ _ => ?_) <;> rfl
@[simp] theorem wp_eCallK {pm : {α : Type} → List α → List α} {g : List D → M D} {m : M (List Loc)} {Q : Loc → S → Prop} : Wp (eCallK pm g m s) Q = Wp (m s) fun ls s1 => Wp (vals ls s1) fun ds s2 => Wp (callF g (pm ds) s2) Q := by unfold eCallK; (repeat with_reducible refine wp_bndQ fun _ _ => ?_) <;> rfl
@[simp] theorem wp_callF {g : List D → M D} {ds : List D} {Q : Loc → S → Prop} : Wp (callF g ds ⟨e, t⟩) Q = Wp (g ds ⟨[], t⟩) fun d s' => Q (.val d) ⟨e, s'.t⟩ := by
  show Wp (match g ds ⟨[], t⟩ with | .ok d s' => .ok (.val d) ⟨e, s'.t⟩ | .exc x s' => .exc x ⟨e, s'.t⟩ | .stuck => .stuck) Q = _
  cases g ds ⟨[], t⟩ <;> rfl
@[simp] theorem wp_callP {g : List D → M D} {ds : List D} {Q : Loc → S → Prop} : Wp (callP g ds ⟨e, t⟩) Q = Wp (g ds ⟨[], t⟩) fun d s' => Q (.val d) ⟨e, s'.t⟩ := by
  unfold callP
  show Wp (match g ds ⟨[], t⟩ with | _ => _) Q = _
  cases g ds ⟨[], t⟩ <;> rfl
@[simp] theorem wp_eSl {m : M Loc} {ml mh : M (Option Int)} {Q : Loc → S → Prop} : Wp (eSl m ml mh s) Q = Wp (m s) fun l s1 => Wp (ml s1) fun lo s2 => Wp (mh s2) fun hi s3 => Wp (cont l s3) fun c s4 => Wp (opt (slD lo hi c) s4) Q := by unfold eSl; (repeat with_reducible refine wp_bndQ fun _ _ => ?_) <;> rfl
@[simp] theorem wp_pNo {Q : Option Int → S → Prop} : Wp (pNo s) Q = Q none s := rfl
@[simp] theorem wp_pSo {m : M Loc} {Q : Option Int → S → Prop} : Wp (pSo m s) Q = Wp (m s) fun l s1 => Wp (match l with | .val (.int i) => .ok (some i) s1 | _ => .stuck) Q := by unfold pSo; (repeat with_reducible refine wp_bndQ fun _ _ => ?_) <;> rfl
@[simp] theorem wp_eMe {kd : D → Bool} {f : D → List D → Option D} {mo : M Loc} {ma : M (List Loc)} {Q : Loc → S → Prop} : Wp (eMe kd f mo ma s) Q = Wp (mo s) fun l s1 => Wp (cont l s1) fun c0 s2 => Wp ((if kd c0 = true then bnd ma fun ls => bnd (cont l) fun c => bnd (conts ls) fun ds => opt (f c ds) else stk) s2) Q := by unfold eMe; (repeat with_reducible refine wp_bndQ fun _ _ => ?_) <;> rfl
@[simp] theorem wp_eIsi {isa : String ⊕ Nat → Option Bool} {m : M Loc} {Q : Loc → S → Prop} : Wp (eIsi isa m s) Q = Wp (m s) fun x s1 => Wp (cont x s1) fun dx s3 => Wp (opt (match tyN dx with | some k => (isa k).map .bl | none => none) s3) Q := by unfold eIsi; exact wp_op1
@[simp] theorem wp_eFld {c : Nat} {fn : Str} {m : M Loc} {Q : Loc → S → Prop} : Wp (eFld c fn m s) Q = Wp (m s) fun x s1 => Wp (cont x s1) fun dx s3 => Wp (opt (fldD c fn dx) s3) Q := by unfold eFld; exact wp_op1
@[simp] theorem wp_eInW {neg : Bool} {ws : List Str} {m : M Loc} {Q : Loc → S → Prop} : Wp (eInW neg ws m s) Q = Wp (m s) fun x s1 => Wp (cont x s1) fun dx s3 => Wp (opt (inWD neg ws dx) s3) Q := by unfold eInW; (repeat with_reducible refine wp_bndQ fun _ _ => ?_) <;> rfl
@[simp] theorem wp_eProp {c : Nat} {g : List D → M D} {m : M Loc} {Q : Loc → S → Prop} : Wp (eProp c g m s) Q = Wp (m s) fun l s1 => Wp (toVal l s1) fun d s2 => Wp (if isCls c d s2 = true then callP g [d] s2 else .stuck) Q := by unfold eProp; (repeat with_reducible refine wp_bndQ fun _ _ => ?_) <;> rfl
-- statements
def nxt (Q : Fl → S → Prop) (b : M Fl) : Fl → S → Prop := fun f s1 => match f with
  | .nx => Wp (b s1) Q
  | f => Q f s1
@[simp] theorem wp_sSeq {a b : M Fl} {Q : Fl → S → Prop} : Wp (sSeq a b s) Q = Wp (a s) (nxt Q b) := by
  unfold sSeq
  refine wp_bndQ fun f s1 => ?_
  cases f <;> rfl
@[simp] theorem nxt_nx {Q : Fl → S → Prop} {b : M Fl} : nxt Q b .nx s = Wp (b s) Q := rfl
@[simp] theorem nxt_rt {Q : Fl → S → Prop} {b : M Fl} {d : D} : nxt Q b (.rt d) s = Q (.rt d) s := rfl
@[simp] theorem nxt_bk {Q : Fl → S → Prop} {b : M Fl} : nxt Q b .bk s = Q .bk s := rfl
@[simp] theorem nxt_ct {Q : Fl → S → Prop} {b : M Fl} : nxt Q b .ct s = Q .ct s := rfl
@[simp] theorem wp_sNx {Q : Fl → S → Prop} : Wp (sNx s) Q = Q .nx s := rfl
@[simp] theorem wp_sExpr {m : M Loc} {Q : Fl → S → Prop} : Wp (sExpr m s) Q = Wp (m s) fun _ s1 => Q .nx s1 := by unfold sExpr; (repeat with_reducible refine wp_bndQ fun _ _ => ?_) <;> rfl
@[simp] theorem wp_sRet {m : M Loc} {Q : Fl → S → Prop} : Wp (sRet m s) Q = Wp (m s) fun l s1 => Wp (toVal l s1) fun d s2 => Q (.rt d) s2 := by unfold sRet; (repeat with_reducible refine wp_bndQ fun _ _ => ?_) <;> rfl
@[simp] theorem wp_sIf {c : M Bool} {a b : M Fl} {Q : Fl → S → Prop} : Wp (sIf c a b s) Q = Wp (c s) fun k s1 => Wp ((if k = true then a else b) s1) Q := by unfold sIf; (repeat with_reducible refine wp_bndQ fun _ _ => ?_) <;> rfl
@[simp] theorem wp_ifM {α : Type} {p : Prop} [Decidable p] {a b : M α} {Q : α → S → Prop} : Wp ((if p then a else b) s) Q = if p then Wp (a s) Q else Wp (b s) Q := by split <;> rfl
@[simp] theorem wp_if {α : Type} {p : Prop} [Decidable p] {a b : Res α} {Q : α → S → Prop} : Wp (if p then a else b) Q = if p then Wp a Q else Wp b Q := by split <;> rfl
@[simp] theorem wp_sAsgN {m : M Loc} {Q : Fl → S → Prop} : Wp (sAsg (gN i) m s) Q = Wp (m s) fun l s1 => Wp (toVal l s1) fun d s2 => if i < s2.e.length then Q .nx ⟨s2.e.set i (.val d), s2.t⟩ else False := by
  unfold sAsg gN
  refine wp_bndQ fun l s1 => wp_bndQ fun d s2 => ?_
  by_cases h : i < s2.e.length
  · simp only [if_pos h]; rfl
  · simp only [if_neg h]; rfl
theorem wp_sAsg {a : TgF} {m : M Loc} {Q : Fl → S → Prop} : Wp (sAsg a m s) Q = Wp (m s) fun l s1 => Wp (toVal l s1) fun d s2 => Wp (match a d s2 with | some s' => .ok .nx s' | none => .stuck) Q := by
  unfold sAsg; (repeat with_reducible refine wp_bndQ fun _ _ => ?_) <;> rfl
@[simp] theorem wp_sAsgT {b : List D → S → Option S} {n : Nat} {m : M Loc} {Q : Fl → S → Prop} : Wp (sAsg (gT b n) m s) Q = Wp (m s) fun l s1 => Wp (toVal l s1) fun d s2 => Wp (match gT b n d s2 with | some s' => .ok .nx s' | none => .stuck) Q := wp_sAsg
@[simp] theorem gT_tup {b : List D → S → Option S} {n : Nat} {ds : List D} : gT b n (.tup ds) s = if ds.length = n then b ds s else none := rfl
@[simp] theorem gsC_cons {a : TgF} {b : List D → S → Option S} {ds : List D} : gsC a b (d :: ds) s = (a d s).bind (b ds) := rfl
@[simp] theorem gsN_nil : gsN [] s = some s := rfl
@[simp] theorem gN_at : gN i d ⟨e, t⟩ = if i < e.length then some ⟨e.set i (.val d), t⟩ else none := rfl
@[simp] theorem wp_sAug {f : D → D → Option D} {m : M Loc} {Q : Fl → S → Prop} : Wp (sAug i f m s) Q = Wp (vr i s) fun l0 s1 => Wp (toVal l0 s1) fun d0 s2 => Wp (m s2) fun l s3 => Wp (cont l s3) fun d s4 => Wp (opt (f d0 d) s4) fun l2 s5 => Wp (toVal l2 s5) fun d2 s6 => Wp (match gN i d2 s6 with | some s' => .ok .nx s' | none => .stuck) Q := by
  unfold sAug; (repeat with_reducible refine wp_bndQ fun _ _ => ?_) <;> rfl
@[simp] theorem wp_sOwn {m : M D} {Q : Fl → S → Prop} : Wp (sOwn i m s) Q = Wp (m s) fun d s2 => if i < s2.e.length then Q .nx ⟨s2.e.set i (.own d), s2.t⟩ else False := by
  unfold sOwn
  refine wp_bndQ fun d s2 => ?_
  show Wp (if _ then _ else _) Q = _
  split <;> rfl
@[simp] theorem wp_sSub {f : D → D → D → Option D} {mv mo mi : M Loc} {Q : Fl → S → Prop} : Wp (sSub f mv mo mi s) Q = Wp (mv s) fun lv s1 => Wp (toVal lv s1) fun dv s2 => Wp (mo s2) fun l s3 => Wp (mi s3) fun li s4 => Wp (cont li s4) fun di s5 => Wp (cont l s5) fun c s6 => Wp ((match f c di dv with | some c' => bnd (setc l c') fun _ => ret Fl.nx | none => stk) s6) Q := by
  unfold sSub; (repeat with_reducible refine wp_bndQ fun _ _ => ?_) <;> rfl
@[simp] theorem wp_setcOwn {Q : Unit → S → Prop} : Wp (setc (.own i) d ⟨e, t⟩) Q = Wp (match e[i]? with | some (.own _) => .ok () ⟨e.set i (.own d), t⟩ | _ => .stuck) Q := rfl
@[simp] theorem wp_setcPtr {Q : Unit → S → Prop} : Wp (setc (.val (.ptr i)) d ⟨e, t⟩) Q = Wp (if i < t.length then .ok () ⟨e, t.set i d⟩ else .stuck) Q := rfl
@[simp] theorem wp_eMuG {kd : D → Bool} {f : D → List D → Option (D × D)} {mo : M Loc} {ma : M (List Loc)} {Q : Loc → S → Prop} : Wp (eMu kd f mo ma s) Q = Wp (mo s) fun l s1 => Wp (cont l s1) fun c0 s2 => Wp ((if kd c0 = true then bnd ma fun ls => bnd (vals ls) fun ds => bnd (cont l) fun c => match f c ds with
  | some cd => bnd (setc l cd.1) fun _ => ret (.val cd.2)
  | none => stk else stk) s2) Q := by
  unfold eMu
  refine wp_bndQ fun l s1 => wp_bndQ fun c0 s2 => ?_
  congr 3
@[simp] theorem wp_runB {n : Nat} {b : M Fl} {ds : List D} {Q : D → S → Prop} : Wp (runB n b ds s) Q = Wp (b ⟨ds.map .val ++ List.replicate (n - ds.length) .no, s.t⟩) fun f s' => match f with | .rt d => Q d ⟨[], s'.t⟩ | .nx => Q .non ⟨[], s'.t⟩ | _ => False := by
  unfold runB
  cases b ⟨ds.map .val ++ List.replicate (n - ds.length) .no, s.t⟩ with
  | ok f s' => cases f <;> rfl
  | exc x s' => rfl
  | stuck => rfl
-- loops
def forL (tg : TgF) (body : M Fl) : List D → M Fl
  | [] => ret .nx
  | d :: ds => fun s => match tg d s with
    | none => .stuck
    | some s' => (body s').bind (aft (forL tg body ds))
theorem forF_at {tg : TgF} {body : M Fl} {d : D} {ds : List D} (hs : seqOf d = some ds) (hp : noPtr d = true) : ∀ (n i : Nat) (s : S), ds.length - i < n → i ≤ ds.length → forF (.seq d) tg body n i s = forL tg body (ds.drop i) s
  | 0, i, s, h, _ => by omega
  | n + 1, i, s, h, hi => by
    have e1 : itN (.seq d) i s = .ok ds[i]? s := by
      unfold itN
      cases d <;> first | (simp only [hs]; done) | (cases hp; done) | (cases hs; done)
    unfold forF
    show (bnd (itN (.seq d) i) _) s = _
    unfold bnd
    rw [e1]
    by_cases c : i < ds.length
    · rw [List.getElem?_eq_getElem c, List.drop_eq_getElem_cons c]
      show (match tg ds[i] s with | none => Res.stuck | some s' => (body s').bind (aft (forF (.seq d) tg body n (i + 1)))) = (match tg ds[i] s with | none => Res.stuck | some s' => (body s').bind (aft (forL tg body (ds.drop (i + 1)))))
      have e2 : (forF (.seq d) tg body n (i + 1)) = forL tg body (ds.drop (i + 1)) := by
        funext s2
        exact forF_at hs hp n (i + 1) s2 (by omega) (by omega)
      rw [e2]
    · have : i = ds.length := by omega
      subst this
      rw [List.getElem?_eq_none (Nat.le_refl _), List.drop_length]
      rfl
theorem forF_rng {tg : TgF} {body : M Fl} {lo : Int} {m : Nat} : ∀ (n i : Nat) (s : S), m - i < n → i ≤ m → forF (.rng lo m) tg body n i s = forL tg body (((List.range m).map fun (j : Nat) => D.int (lo + (j : Int))).drop i) s
  | 0, i, s, h, _ => by omega
  | n + 1, i, s, h, hi => by
    unfold forF
    show (bnd (itN (.rng lo m) i) _) s = _
    unfold bnd
    show Res.bind (Res.ok (if i < m then some (D.int (lo + i)) else none) s) _ = _
    by_cases c : i < m
    · rw [if_pos c, List.drop_eq_getElem_cons (by simpa using c)]
      simp only [List.getElem_map, List.getElem_range]
      have e2 : (forF (.rng lo m) tg body n (i + 1)) = forL tg body (((List.range m).map fun (j : Nat) => D.int (lo + (j : Int))).drop (i + 1)) := by
        funext s2
        exact forF_rng n (i + 1) s2 (by omega) (by omega)
      show (match tg (.int (lo + i)) s with | none => Res.stuck | some s' => (body s').bind (aft (forF (.rng lo m) tg body n (i + 1)))) = (match tg (.int (lo + i)) s with | none => Res.stuck | some s' => (body s').bind (aft (forL tg body _)))
      rw [e2]
    · have : i = m := by omega
      subst this
      rw [if_neg c, List.drop_eq_nil_of_le (by simp)]
      rfl
theorem wp_forSeq {tg : TgF} {body : M Fl} {d : D} {ds : List D} {Q : Fl → S → Prop} (hs : seqOf d = some ds) (hp : noPtr d = true) (hl : ds.length < lim) : Wp (forF (.seq d) tg body lim 0 s) Q = Wp (forL tg body ds s) Q := by
  rw [forF_at hs hp lim 0 s (by omega) (by omega), List.drop_zero]
theorem wp_forRng {tg : TgF} {body : M Fl} {lo : Int} {m : Nat} {Q : Fl → S → Prop} (hl : m < lim) : Wp (forF (.rng lo m) tg body lim 0 s) Q = Wp (forL tg body ((List.range m).map fun (j : Nat) => D.int (lo + (j : Int))) s) Q := by
  rw [forF_rng lim 0 s (by omega) (by omega), List.drop_zero]
@[simp] theorem wp_forL_nil {tg : TgF} {body : M Fl} {Q : Fl → S → Prop} : Wp (forL tg body [] s) Q = Q .nx s := rfl
def nxtF (Q : Fl → S → Prop) (b : M Fl) : Fl → S → Prop := fun f s1 => match f with
  | .nx => Wp (b s1) Q
  | .ct => Wp (b s1) Q
  | .bk => Q .nx s1
  | .rt d => Q (.rt d) s1
@[simp] theorem nxtF_nx {Q : Fl → S → Prop} {b : M Fl} : nxtF Q b .nx s = Wp (b s) Q := rfl
@[simp] theorem nxtF_rt {Q : Fl → S → Prop} {b : M Fl} {d : D} : nxtF Q b (.rt d) s = Q (.rt d) s := rfl
@[simp] theorem nxtF_bk {Q : Fl → S → Prop} {b : M Fl} : nxtF Q b .bk s = Q .nx s := rfl
@[simp] theorem nxtF_ct {Q : Fl → S → Prop} {b : M Fl} : nxtF Q b .ct s = Wp (b s) Q := rfl
@[simp] theorem wp_aft {r : Res Fl} {k : M Fl} {Q : Fl → S → Prop} : Wp (r.bind (aft k)) Q = Wp r (nxtF Q k) := by
  cases r with
  | ok f s => cases f <;> rfl
  | exc x s => rfl
  | stuck => rfl
@[simp] theorem wp_forL_cons {body : M Fl} {ds : List D} {Q : Fl → S → Prop} : Wp (forL (gN i) body (d :: ds) ⟨e, t⟩) Q = if i < e.length then Wp (body ⟨e.set i (.val d), t⟩) (nxtF Q (forL (gN i) body ds)) else False := by
  show Wp (match gN i d ⟨e, t⟩ with | none => .stuck | some s' => (body s').bind (aft (forL (gN i) body ds))) Q = _
  unfold gN
  by_cases h : i < e.length
  · simp only [h, if_true]; rw [wp_aft]
  · simp only [h, if_false]; rfl
@[simp] theorem wp_sFor {mi : M Itd} {tg : TgF} {body : M Fl} {Q : Fl → S → Prop} : Wp (sFor mi tg body s) Q = Wp (mi s) fun I s1 => Wp (forF I tg body lim 0 s1) Q := by unfold sFor; (repeat with_reducible refine wp_bndQ fun _ _ => ?_) <;> rfl
@[simp] theorem wp_iSeq {m : M Loc} {Q : Itd → S → Prop} : Wp (iSeq m s) Q = Wp (m s) fun l s1 => Wp (toVal l s1) fun d s2 => Wp (match d with
  | .ptr n => match s2.t[n]? with | some (.lst _) => .ok (.seq d) s2 | _ => .stuck
  | _ => match seqOf d with | some _ => .ok (.seq d) s2 | none => .stuck) Q := by unfold iSeq; (repeat with_reducible refine wp_bndQ fun _ _ => ?_) <;> rfl
@[simp] theorem wp_iRng1 {m : M (List Loc)} {Q : Itd → S → Prop} : Wp (iRng1 m s) Q = Wp (m s) fun ls s1 => Wp (match ls with
  | [.val (.int j)] => if -(2 ^ 62) ≤ j ∧ j < 2 ^ 62 then .ok (.rng 0 j.toNat) s1 else .stuck
  | _ => .stuck) Q := by unfold iRng1; (repeat with_reducible refine wp_bndQ fun _ _ => ?_) <;> rfl
theorem wp_whF {c : M Bool} {body : M Fl} {n : Nat} {Q : Fl → S → Prop} : Wp (whF c body (n + 1) s) Q = Wp (c s) fun k s1 => if k = true then Wp (body s1) (nxtF Q (whF c body n)) else Q .nx s1 := by
  rw [whF]
  refine wp_bndQ fun k s1 => ?_
  cases k
  · rfl
  · show Wp ((bnd body (aft (whF c body n))) s1) Q = _
    refine Eq.trans (wp_bndQ (Q' := nxtF Q (whF c body n)) fun f s2 => ?_) rfl
    cases f <;> rfl
theorem wp_sWhile {c : M Bool} {body : M Fl} {Q : Fl → S → Prop} : Wp (sWhile c body s) Q = Wp (whF c body lim s) Q := rfl
-- comprehensions
def lcL (tg : TgF) (tt : M Bool) (te : M Loc) (vs : List Nat) : List D → List D → M D
  | acc, [] => ret (.lst acc)
  | acc, d :: ds => fun s => if freeOf s.e vs = true then match tg d ⟨wipeE s.e vs, s.t⟩ with
      | none => .stuck
      | some s1 => match tt s1 with
        | .ok true s2 => match (te s2).bind toVal with
          | .ok d s3 => if freeOf s3.e vs = true ∧ acc.length < lim then lcL tg tt te vs (acc ++ [d]) ds ⟨backE s.e s3.e vs, s3.t⟩ else .stuck
          | _ => .stuck
        | .ok false s2 => if freeOf s2.e vs = true then lcL tg tt te vs acc ds ⟨backE s.e s2.e vs, s2.t⟩ else .stuck
        | _ => .stuck
      else .stuck
theorem lcF_at {I : Itd} {tg : TgF} {tt : M Bool} {te : M Loc} {vs : List Nat} {ds : List D} (hI : ∀ i s, itN I i s = .ok ds[i]? s) : ∀ (n : Nat) (acc : List D) (i : Nat) (s : S), ds.length - i < n → i ≤ ds.length → lcF I tg tt te vs n acc i s = lcL tg tt te vs acc (ds.drop i) s
  | 0, acc, i, s, h, _ => by omega
  | n + 1, acc, i, s, h, hi => by
    unfold lcF
    show (bnd (itN I i) _) s = _
    unfold bnd
    rw [hI]
    by_cases c : i < ds.length
    · rw [List.getElem?_eq_getElem c, List.drop_eq_getElem_cons c]
      have e2 : ∀ a s2, lcF I tg tt te vs n a (i + 1) s2 = lcL tg tt te vs a (ds.drop (i + 1)) s2 := fun a s2 => lcF_at hI n a (i + 1) s2 (by omega) (by omega)
      simp only [Res.bind, lcL, e2]
      all_goals rfl
    · have : i = ds.length := by omega
      subst this
      rw [List.getElem?_eq_none (Nat.le_refl _), List.drop_length]
      rfl
theorem itN_seq' {d : D} {ds : List D} (hs : seqOf d = some ds) (hp : noPtr d = true) (i : Nat) (s : S) : itN (.seq d) i s = .ok ds[i]? s := by
  unfold itN
  cases d <;> first | (simp only [hs]; done) | (cases hp; done) | (cases hs; done)
theorem itN_rng' {lo : Int} {m : Nat} (i : Nat) (s : S) : itN (.rng lo m) i s = .ok ((List.range m).map fun (j : Nat) => D.int (lo + (j : Int)))[i]? s := by
  show Res.ok (if i < m then some (D.int (lo + i)) else none) s = _
  by_cases c : i < m
  · rw [if_pos c, List.getElem?_eq_getElem (by simpa using c)]; simp
  · rw [if_neg c, List.getElem?_eq_none (by simpa using c)]
theorem wp_lcSeq {tg : TgF} {tt : M Bool} {te : M Loc} {vs : List Nat} {d : D} {ds : List D} {Q : D → S → Prop} (hs : seqOf d = some ds) (hp : noPtr d = true) (hl : ds.length < lim) : Wp (lcF (.seq d) tg tt te vs lim [] 0 s) Q = Wp (lcL tg tt te vs [] ds s) Q := by
  rw [lcF_at (itN_seq' hs hp) lim [] 0 s (by omega) (by omega), List.drop_zero]
theorem wp_lcRng {tg : TgF} {tt : M Bool} {te : M Loc} {vs : List Nat} {lo : Int} {m : Nat} {Q : D → S → Prop} (hl : m < lim) : Wp (lcF (.rng lo m) tg tt te vs lim [] 0 s) Q = Wp (lcL tg tt te vs [] ((List.range m).map fun (j : Nat) => D.int (lo + (j : Int))) s) Q := by
  rw [lcF_at itN_rng' lim [] 0 s (by simp; omega) (by omega), List.drop_zero]
@[simp] theorem wp_nLc {mi : M Itd} {tg : TgF} {tt : M Bool} {te : M Loc} {vs : List Nat} {Q : D → S → Prop} : Wp (nLc mi tg tt te vs s) Q = Wp (mi s) fun I s1 => Wp (lcF I tg tt te vs lim [] 0 s1) Q := by unfold nLc; (repeat with_reducible refine wp_bndQ fun _ _ => ?_) <;> rfl
@[simp] theorem wp_lcL_nil {tg : TgF} {tt : M Bool} {te : M Loc} {vs : List Nat} {acc : List D} {Q : D → S → Prop} : Wp (lcL tg tt te vs acc [] s) Q = Q (.lst acc) s := by unfold lcL; rfl
theorem wp_lcL_cons {tg : TgF} {tt : M Bool} {te : M Loc} {vs : List Nat} {acc ds : List D} {Q : D → S → Prop} (hf : freeOf s.e vs = true) {s1 : S} (h1 : tg d ⟨wipeE s.e vs, s.t⟩ = some s1)
    (h : Wp (tt s1) fun b s2 => if b = true then Wp (te s2) fun l s3 => Wp (toVal l s3) fun d s4 => freeOf s4.e vs = true ∧ acc.length < lim ∧ Wp (lcL tg tt te vs (acc ++ [d]) ds ⟨backE s.e s4.e vs, s4.t⟩) Q
      else freeOf s2.e vs = true ∧ Wp (lcL tg tt te vs acc ds ⟨backE s.e s2.e vs, s2.t⟩) Q) : Wp (lcL tg tt te vs acc (d :: ds) s) Q := by
  rw [lcL]
  show Wp (if freeOf s.e vs = true then _ else _) Q
  rw [if_pos hf, h1]
  obtain ⟨b, s2, e2, h⟩ := wp_ex.mp h
  simp only [e2]
  cases b with
  | true =>
    rw [if_pos rfl] at h
    obtain ⟨l, s3, e3, h⟩ := wp_ex.mp h
    obtain ⟨d', s4, e4, h5, h6, h⟩ := wp_ex.mp h
    have e5 : (te s2).bind toVal = .ok d' s4 := by rw [e3]; exact e4
    simp only [e5]
    rw [if_pos ⟨h5, h6⟩]
    exact h
  | false =>
    have h : freeOf s2.e vs = true ∧ Wp (lcL tg tt te vs acc ds ⟨backE s.e s2.e vs, s2.t⟩) Q := h
    show Wp (if freeOf s2.e vs = true then _ else _) Q
    rw [if_pos h.1]
    exact h.2
variable {tg : TgF} {body : M Fl} {ds : List D} {tt : M Bool} {te : M Loc} {vs : List Nat}
@[simp] theorem wp_forTup {Q : Fl → S → Prop} (hl : ds.length < lim) : Wp (forF (.seq (.tup ds)) tg body lim 0 s) Q = Wp (forL tg body ds s) Q := wp_forSeq rfl rfl hl
@[simp] theorem wp_forLst {Q : Fl → S → Prop} (hl : ds.length < lim) : Wp (forF (.seq (.lst ds)) tg body lim 0 s) Q = Wp (forL tg body ds s) Q := wp_forSeq rfl rfl hl
@[simp] theorem wp_forLck {Q : Fl → S → Prop} (hl : ds.length < lim) : Wp (forF (.seq (.lck ds)) tg body lim 0 s) Q = Wp (forL tg body ds s) Q := wp_forSeq rfl rfl hl
@[simp] theorem wp_lcTup {Q : D → S → Prop} (hl : ds.length < lim) : Wp (lcF (.seq (.tup ds)) tg tt te vs lim [] 0 s) Q = Wp (lcL tg tt te vs [] ds s) Q := wp_lcSeq rfl rfl hl
@[simp] theorem wp_lcLst {Q : D → S → Prop} (hl : ds.length < lim) : Wp (lcF (.seq (.lst ds)) tg tt te vs lim [] 0 s) Q = Wp (lcL tg tt te vs [] ds s) Q := wp_lcSeq rfl rfl hl
@[simp] theorem wp_lcLck {Q : D → S → Prop} (hl : ds.length < lim) : Wp (lcF (.seq (.lck ds)) tg tt te vs lim [] 0 s) Q = Wp (lcL tg tt te vs [] ds s) Q := wp_lcSeq rfl rfl hl
-- values
@[simp] theorem addD_i {i j : Int} : addD (.int i) (.int j) = some (.int (i + j)) := rfl
@[simp] theorem subD_i {i j : Int} : subD (.int i) (.int j) = some (.int (i - j)) := rfl
@[simp] theorem addI_i {i j : Int} : addI (.int i) (.int j) = some (.int (i + j)) := rfl
theorem mulD_l {i j : Int} (h : smallI i = true) : mulD (.int i) (.int j) = some (.int (i * j)) := by unfold mulD; simp [h]
theorem mulD_r {i j : Int} (h : smallI j = true) : mulD (.int i) (.int j) = some (.int (i * j)) := by unfold mulD; simp [h]
theorem small_mod {a b : Int} (h0 : 0 < b) (h : b ≤ 18446744073709551616) : smallI (a % b) = true := by
  unfold smallI
  have h1 := Int.emod_nonneg a (show b ≠ 0 by omega)
  have h2 := Int.emod_lt_of_pos a h0
  rw [Bool.and_eq_true]
  exact ⟨decide_eq_true (by omega), decide_eq_true (by omega)⟩
theorem modD_i {i j : Int} (h : 0 < j) : modD (.int i) (.int j) = some (.int (i % j)) := by unfold modD; simp [h]
theorem fdivD_i {i j : Int} (h : 0 < j) (h2 : j < 1073741824) : fdivD (.int i) (.int j) = some (.int (i / j)) := by unfold fdivD; simp [h, h2]
@[simp] theorem cmpD_i {p : Int → Int → Bool} {i j : Int} : cmpD p (.int i) (.int j) = some (.bl (p i j)) := rfl
@[simp] theorem intD_i {i : Int} : intD [.int i] = some (.int i) := rfl
@[simp] theorem intD_b {k : Bool} : intD [.bl k] = some (.int (if k then 1 else 0)) := rfl
@[simp] theorem absD_i {i : Int} : absD [.int i] = some (.int (if i < 0 then -i else i)) := rfl
@[simp] theorem lenD_lst {ds : List D} : lenD [.lst ds] = some (.int ds.length) := rfl
@[simp] theorem lenD_lck {ds : List D} : lenD [.lck ds] = some (.int ds.length) := rfl
@[simp] theorem lenD_tup {ds : List D} : lenD [.tup ds] = some (.int ds.length) := rfl
@[simp] theorem lenD_dic {ds} : lenD [.dic ds] = some (.int ds.length) := rfl
@[simp] theorem tupleD_lst {ds : List D} : tupleD [.lst ds] = some (.tup ds) := rfl
@[simp] theorem tupleD_tup {ds : List D} : tupleD [.tup ds] = some (.tup ds) := rfl
@[simp] theorem truD_bl {b : Bool} : truD (.bl b) = some b := rfl
@[simp] theorem truD_lst {ds : List D} : truD (.lst ds) = some !ds.isEmpty := rfl
@[simp] theorem seqOf_lst {ds : List D} : seqOf (.lst ds) = some ds := rfl
@[simp] theorem seqOf_tup {ds : List D} : seqOf (.tup ds) = some ds := rfl
@[simp] theorem seqOf_lck {ds : List D} : seqOf (.lck ds) = some ds := rfl
@[simp] theorem slD_lst {lo hi} {ds : List D} : slD lo hi (.lst ds) = some (.lst (cutD ds lo hi)) := rfl
@[simp] theorem slD_lck {lo hi} {ds : List D} : slD lo hi (.lck ds) = some (.lst (cutD ds lo hi)) := rfl
@[simp] theorem slD_tup {lo hi} {ds : List D} : slD lo hi (.tup ds) = some (.tup (cutD ds lo hi)) := rfl
@[simp] theorem eqD_i {b : Bool} {i j : Int} : eqD b (.int i) (.int j) = some (.bl (b ^^ decide (i = j))) := by
  show some (D.bl (b ^^ (PyData.eqv (.int i) (.int j)))) = _
  congr 2
theorem eqD_s {b : Bool} {i j : Str} (hi : PyData.strOk i = true) (hj : PyData.strOk j = true) : eqD b (.str i) (.str j) = some (.bl (b ^^ decide (i = j))) := by
  have e : eqD b (.str i) (.str j) = if SeqAt.shaped (.str i) && SeqAt.shaped (.str j) then some (D.bl (b ^^ PyData.eqv (.str i) (.str j))) else none := rfl
  rw [e, if_pos (by simp [SeqAt.shaped, PyData.canLay0, PyData.depth, hi, hj])]
  show some (D.bl (b ^^ (i == j))) = _
  have e2 : (i == j) = decide (i = j) := by
    by_cases c : i = j
    · subst c; simp
    · simp [c]
  rw [e2]
@[simp] theorem ixD_tup {ds : List D} {i : Int} : ixD (.tup ds) (.int i) = atI ds i := rfl
@[simp] theorem ixD_lst {ds : List D} {i : Int} : ixD (.lst ds) (.int i) = atI ds i := rfl
@[simp] theorem ixD_lck {ds : List D} {i : Int} : ixD (.lck ds) (.int i) = atI ds i := rfl
end
@[simp] theorem sok_true : PyData.strOk ("true" : Str) = true := by decide +kernel
@[simp] theorem sok_mark : PyData.strOk ("mark" : Str) = true := by decide +kernel
@[simp] theorem sok_tie : PyData.strOk ("tie" : Str) = true := by decide +kernel
@[simp] theorem sok_same : PyData.strOk ("same" : Str) = true := by decide +kernel
@[simp] theorem sok_not : PyData.strOk ("not" : Str) = true := by decide +kernel
@[simp] theorem sok_and : PyData.strOk ("and" : Str) = true := by decide +kernel
@[simp] theorem sok_or : PyData.strOk ("or" : Str) = true := by decide +kernel
@[simp] theorem sok_each : PyData.strOk ("each" : Str) = true := by decide +kernel
@[simp] theorem sok_some : PyData.strOk ("some" : Str) = true := by decide +kernel
@[simp] theorem sok_x : PyData.strOk ("x" : Str) = true := by decide +kernel
@[simp] theorem sok_y : PyData.strOk ("y" : Str) = true := by decide +kernel
@[simp] theorem ne_true_mark : (("true" : Str) = ("mark" : Str)) = False := eq_false (by decide +kernel)
@[simp] theorem ne_true_tie : (("true" : Str) = ("tie" : Str)) = False := eq_false (by decide +kernel)
@[simp] theorem ne_true_same : (("true" : Str) = ("same" : Str)) = False := eq_false (by decide +kernel)
@[simp] theorem ne_true_not : (("true" : Str) = ("not" : Str)) = False := eq_false (by decide +kernel)
@[simp] theorem ne_true_and : (("true" : Str) = ("and" : Str)) = False := eq_false (by decide +kernel)
@[simp] theorem ne_true_or : (("true" : Str) = ("or" : Str)) = False := eq_false (by decide +kernel)
@[simp] theorem ne_true_each : (("true" : Str) = ("each" : Str)) = False := eq_false (by decide +kernel)
@[simp] theorem ne_true_some : (("true" : Str) = ("some" : Str)) = False := eq_false (by decide +kernel)
@[simp] theorem ne_true_x : (("true" : Str) = ("x" : Str)) = False := eq_false (by decide +kernel)
@[simp] theorem ne_true_y : (("true" : Str) = ("y" : Str)) = False := eq_false (by decide +kernel)
@[simp] theorem ne_mark_true : (("mark" : Str) = ("true" : Str)) = False := eq_false (by decide +kernel)
@[simp] theorem ne_mark_tie : (("mark" : Str) = ("tie" : Str)) = False := eq_false (by decide +kernel)
@[simp] theorem ne_mark_same : (("mark" : Str) = ("same" : Str)) = False := eq_false (by decide +kernel)
@[simp] theorem ne_mark_not : (("mark" : Str) = ("not" : Str)) = False := eq_false (by decide +kernel)
@[simp] theorem ne_mark_and : (("mark" : Str) = ("and" : Str)) = False := eq_false (by decide +kernel)
@[simp] theorem ne_mark_or : (("mark" : Str) = ("or" : Str)) = False := eq_false (by decide +kernel)
@[simp] theorem ne_mark_each : (("mark" : Str) = ("each" : Str)) = False := eq_false (by decide +kernel)
@[simp] theorem ne_mark_some : (("mark" : Str) = ("some" : Str)) = False := eq_false (by decide +kernel)
@[simp] theorem ne_mark_x : (("mark" : Str) = ("x" : Str)) = False := eq_false (by decide +kernel)
@[simp] theorem ne_mark_y : (("mark" : Str) = ("y" : Str)) = False := eq_false (by decide +kernel)
@[simp] theorem ne_tie_true : (("tie" : Str) = ("true" : Str)) = False := eq_false (by decide +kernel)
@[simp] theorem ne_tie_mark : (("tie" : Str) = ("mark" : Str)) = False := eq_false (by decide +kernel)
@[simp] theorem ne_tie_same : (("tie" : Str) = ("same" : Str)) = False := eq_false (by decide +kernel)
@[simp] theorem ne_tie_not : (("tie" : Str) = ("not" : Str)) = False := eq_false (by decide +kernel)
@[simp] theorem ne_tie_and : (("tie" : Str) = ("and" : Str)) = False := eq_false (by decide +kernel)
@[simp] theorem ne_tie_or : (("tie" : Str) = ("or" : Str)) = False := eq_false (by decide +kernel)
@[simp] theorem ne_tie_each : (("tie" : Str) = ("each" : Str)) = False := eq_false (by decide +kernel)
@[simp] theorem ne_tie_some : (("tie" : Str) = ("some" : Str)) = False := eq_false (by decide +kernel)
@[simp] theorem ne_tie_x : (("tie" : Str) = ("x" : Str)) = False := eq_false (by decide +kernel)
@[simp] theorem ne_tie_y : (("tie" : Str) = ("y" : Str)) = False := eq_false (by decide +kernel)
@[simp] theorem ne_same_true : (("same" : Str) = ("true" : Str)) = False := eq_false (by decide +kernel)
@[simp] theorem ne_same_mark : (("same" : Str) = ("mark" : Str)) = False := eq_false (by decide +kernel)
@[simp] theorem ne_same_tie : (("same" : Str) = ("tie" : Str)) = False := eq_false (by decide +kernel)
@[simp] theorem ne_same_not : (("same" : Str) = ("not" : Str)) = False := eq_false (by decide +kernel)
@[simp] theorem ne_same_and : (("same" : Str) = ("and" : Str)) = False := eq_false (by decide +kernel)
@[simp] theorem ne_same_or : (("same" : Str) = ("or" : Str)) = False := eq_false (by decide +kernel)
@[simp] theorem ne_same_each : (("same" : Str) = ("each" : Str)) = False := eq_false (by decide +kernel)
@[simp] theorem ne_same_some : (("same" : Str) = ("some" : Str)) = False := eq_false (by decide +kernel)
@[simp] theorem ne_same_x : (("same" : Str) = ("x" : Str)) = False := eq_false (by decide +kernel)
@[simp] theorem ne_same_y : (("same" : Str) = ("y" : Str)) = False := eq_false (by decide +kernel)
@[simp] theorem ne_not_true : (("not" : Str) = ("true" : Str)) = False := eq_false (by decide +kernel)
@[simp] theorem ne_not_mark : (("not" : Str) = ("mark" : Str)) = False := eq_false (by decide +kernel)
@[simp] theorem ne_not_tie : (("not" : Str) = ("tie" : Str)) = False := eq_false (by decide +kernel)
@[simp] theorem ne_not_same : (("not" : Str) = ("same" : Str)) = False := eq_false (by decide +kernel)
@[simp] theorem ne_not_and : (("not" : Str) = ("and" : Str)) = False := eq_false (by decide +kernel)
@[simp] theorem ne_not_or : (("not" : Str) = ("or" : Str)) = False := eq_false (by decide +kernel)
@[simp] theorem ne_not_each : (("not" : Str) = ("each" : Str)) = False := eq_false (by decide +kernel)
@[simp] theorem ne_not_some : (("not" : Str) = ("some" : Str)) = False := eq_false (by decide +kernel)
@[simp] theorem ne_not_x : (("not" : Str) = ("x" : Str)) = False := eq_false (by decide +kernel)
@[simp] theorem ne_not_y : (("not" : Str) = ("y" : Str)) = False := eq_false (by decide +kernel)
@[simp] theorem ne_and_true : (("and" : Str) = ("true" : Str)) = False := eq_false (by decide +kernel)
@[simp] theorem ne_and_mark : (("and" : Str) = ("mark" : Str)) = False := eq_false (by decide +kernel)
@[simp] theorem ne_and_tie : (("and" : Str) = ("tie" : Str)) = False := eq_false (by decide +kernel)
@[simp] theorem ne_and_same : (("and" : Str) = ("same" : Str)) = False := eq_false (by decide +kernel)
@[simp] theorem ne_and_not : (("and" : Str) = ("not" : Str)) = False := eq_false (by decide +kernel)
@[simp] theorem ne_and_or : (("and" : Str) = ("or" : Str)) = False := eq_false (by decide +kernel)
@[simp] theorem ne_and_each : (("and" : Str) = ("each" : Str)) = False := eq_false (by decide +kernel)
@[simp] theorem ne_and_some : (("and" : Str) = ("some" : Str)) = False := eq_false (by decide +kernel)
@[simp] theorem ne_and_x : (("and" : Str) = ("x" : Str)) = False := eq_false (by decide +kernel)
@[simp] theorem ne_and_y : (("and" : Str) = ("y" : Str)) = False := eq_false (by decide +kernel)
@[simp] theorem ne_or_true : (("or" : Str) = ("true" : Str)) = False := eq_false (by decide +kernel)
@[simp] theorem ne_or_mark : (("or" : Str) = ("mark" : Str)) = False := eq_false (by decide +kernel)
@[simp] theorem ne_or_tie : (("or" : Str) = ("tie" : Str)) = False := eq_false (by decide +kernel)
@[simp] theorem ne_or_same : (("or" : Str) = ("same" : Str)) = False := eq_false (by decide +kernel)
@[simp] theorem ne_or_not : (("or" : Str) = ("not" : Str)) = False := eq_false (by decide +kernel)
@[simp] theorem ne_or_and : (("or" : Str) = ("and" : Str)) = False := eq_false (by decide +kernel)
@[simp] theorem ne_or_each : (("or" : Str) = ("each" : Str)) = False := eq_false (by decide +kernel)
@[simp] theorem ne_or_some : (("or" : Str) = ("some" : Str)) = False := eq_false (by decide +kernel)
@[simp] theorem ne_or_x : (("or" : Str) = ("x" : Str)) = False := eq_false (by decide +kernel)
@[simp] theorem ne_or_y : (("or" : Str) = ("y" : Str)) = False := eq_false (by decide +kernel)
@[simp] theorem ne_each_true : (("each" : Str) = ("true" : Str)) = False := eq_false (by decide +kernel)
@[simp] theorem ne_each_mark : (("each" : Str) = ("mark" : Str)) = False := eq_false (by decide +kernel)
@[simp] theorem ne_each_tie : (("each" : Str) = ("tie" : Str)) = False := eq_false (by decide +kernel)
@[simp] theorem ne_each_same : (("each" : Str) = ("same" : Str)) = False := eq_false (by decide +kernel)
@[simp] theorem ne_each_not : (("each" : Str) = ("not" : Str)) = False := eq_false (by decide +kernel)
@[simp] theorem ne_each_and : (("each" : Str) = ("and" : Str)) = False := eq_false (by decide +kernel)
@[simp] theorem ne_each_or : (("each" : Str) = ("or" : Str)) = False := eq_false (by decide +kernel)
@[simp] theorem ne_each_some : (("each" : Str) = ("some" : Str)) = False := eq_false (by decide +kernel)
@[simp] theorem ne_each_x : (("each" : Str) = ("x" : Str)) = False := eq_false (by decide +kernel)
@[simp] theorem ne_each_y : (("each" : Str) = ("y" : Str)) = False := eq_false (by decide +kernel)
@[simp] theorem ne_some_true : (("some" : Str) = ("true" : Str)) = False := eq_false (by decide +kernel)
@[simp] theorem ne_some_mark : (("some" : Str) = ("mark" : Str)) = False := eq_false (by decide +kernel)
@[simp] theorem ne_some_tie : (("some" : Str) = ("tie" : Str)) = False := eq_false (by decide +kernel)
@[simp] theorem ne_some_same : (("some" : Str) = ("same" : Str)) = False := eq_false (by decide +kernel)
@[simp] theorem ne_some_not : (("some" : Str) = ("not" : Str)) = False := eq_false (by decide +kernel)
@[simp] theorem ne_some_and : (("some" : Str) = ("and" : Str)) = False := eq_false (by decide +kernel)
@[simp] theorem ne_some_or : (("some" : Str) = ("or" : Str)) = False := eq_false (by decide +kernel)
@[simp] theorem ne_some_each : (("some" : Str) = ("each" : Str)) = False := eq_false (by decide +kernel)
@[simp] theorem ne_some_x : (("some" : Str) = ("x" : Str)) = False := eq_false (by decide +kernel)
@[simp] theorem ne_some_y : (("some" : Str) = ("y" : Str)) = False := eq_false (by decide +kernel)
@[simp] theorem ne_x_true : (("x" : Str) = ("true" : Str)) = False := eq_false (by decide +kernel)
@[simp] theorem ne_x_mark : (("x" : Str) = ("mark" : Str)) = False := eq_false (by decide +kernel)
@[simp] theorem ne_x_tie : (("x" : Str) = ("tie" : Str)) = False := eq_false (by decide +kernel)
@[simp] theorem ne_x_same : (("x" : Str) = ("same" : Str)) = False := eq_false (by decide +kernel)
@[simp] theorem ne_x_not : (("x" : Str) = ("not" : Str)) = False := eq_false (by decide +kernel)
@[simp] theorem ne_x_and : (("x" : Str) = ("and" : Str)) = False := eq_false (by decide +kernel)
@[simp] theorem ne_x_or : (("x" : Str) = ("or" : Str)) = False := eq_false (by decide +kernel)
@[simp] theorem ne_x_each : (("x" : Str) = ("each" : Str)) = False := eq_false (by decide +kernel)
@[simp] theorem ne_x_some : (("x" : Str) = ("some" : Str)) = False := eq_false (by decide +kernel)
@[simp] theorem ne_x_y : (("x" : Str) = ("y" : Str)) = False := eq_false (by decide +kernel)
@[simp] theorem ne_y_true : (("y" : Str) = ("true" : Str)) = False := eq_false (by decide +kernel)
@[simp] theorem ne_y_mark : (("y" : Str) = ("mark" : Str)) = False := eq_false (by decide +kernel)
@[simp] theorem ne_y_tie : (("y" : Str) = ("tie" : Str)) = False := eq_false (by decide +kernel)
@[simp] theorem ne_y_same : (("y" : Str) = ("same" : Str)) = False := eq_false (by decide +kernel)
@[simp] theorem ne_y_not : (("y" : Str) = ("not" : Str)) = False := eq_false (by decide +kernel)
@[simp] theorem ne_y_and : (("y" : Str) = ("and" : Str)) = False := eq_false (by decide +kernel)
@[simp] theorem ne_y_or : (("y" : Str) = ("or" : Str)) = False := eq_false (by decide +kernel)
@[simp] theorem ne_y_each : (("y" : Str) = ("each" : Str)) = False := eq_false (by decide +kernel)
@[simp] theorem ne_y_some : (("y" : Str) = ("some" : Str)) = False := eq_false (by decide +kernel)
@[simp] theorem ne_y_x : (("y" : Str) = ("x" : Str)) = False := eq_false (by decide +kernel)
@[simp] theorem le_lim0 : ((0 : Nat) ≤ lim) = True := eq_true (by decide)
@[simp] theorem le_lim1 : ((1 : Nat) ≤ lim) = True := eq_true (by decide)
@[simp] theorem le_lim2 : ((2 : Nat) ≤ lim) = True := eq_true (by decide)
@[simp] theorem le_lim3 : ((3 : Nat) ≤ lim) = True := eq_true (by decide)
@[simp] theorem le_lim4 : ((4 : Nat) ≤ lim) = True := eq_true (by decide)
@[simp] theorem le_lim5 : ((5 : Nat) ≤ lim) = True := eq_true (by decide)
@[simp] theorem le_lim6 : ((6 : Nat) ≤ lim) = True := eq_true (by decide)
@[simp] theorem le_lim7 : ((7 : Nat) ≤ lim) = True := eq_true (by decide)
@[simp] theorem le_lim8 : ((8 : Nat) ≤ lim) = True := eq_true (by decide)
@[simp] theorem le_lim9 : ((9 : Nat) ≤ lim) = True := eq_true (by decide)
@[simp] theorem le_lim10 : ((10 : Nat) ≤ lim) = True := eq_true (by decide)
@[simp] theorem le_lim11 : ((11 : Nat) ≤ lim) = True := eq_true (by decide)
@[simp] theorem le_lim12 : ((12 : Nat) ≤ lim) = True := eq_true (by decide)
@[simp] theorem le_lim13 : ((13 : Nat) ≤ lim) = True := eq_true (by decide)
@[simp] theorem le_lim14 : ((14 : Nat) ≤ lim) = True := eq_true (by decide)
@[simp] theorem le_lim15 : ((15 : Nat) ≤ lim) = True := eq_true (by decide)
@[simp] theorem le_lim16 : ((16 : Nat) ≤ lim) = True := eq_true (by decide)
@[simp] theorem le_lim17 : ((17 : Nat) ≤ lim) = True := eq_true (by decide)
@[simp] theorem le_lim18 : ((18 : Nat) ≤ lim) = True := eq_true (by decide)
@[simp] theorem le_lim19 : ((19 : Nat) ≤ lim) = True := eq_true (by decide)
@[simp] theorem le_lim20 : ((20 : Nat) ≤ lim) = True := eq_true (by decide)
@[simp] theorem lt_lim0 : ((0 : Nat) < lim) = True := eq_true (by decide)
@[simp] theorem lt_lim1 : ((1 : Nat) < lim) = True := eq_true (by decide)
@[simp] theorem lt_lim2 : ((2 : Nat) < lim) = True := eq_true (by decide)
@[simp] theorem lt_lim3 : ((3 : Nat) < lim) = True := eq_true (by decide)
@[simp] theorem lt_lim4 : ((4 : Nat) < lim) = True := eq_true (by decide)
@[simp] theorem lt_lim5 : ((5 : Nat) < lim) = True := eq_true (by decide)
@[simp] theorem lt_lim6 : ((6 : Nat) < lim) = True := eq_true (by decide)
@[simp] theorem lt_lim7 : ((7 : Nat) < lim) = True := eq_true (by decide)
@[simp] theorem lt_lim8 : ((8 : Nat) < lim) = True := eq_true (by decide)
@[simp] theorem lt_lim9 : ((9 : Nat) < lim) = True := eq_true (by decide)
@[simp] theorem lt_lim10 : ((10 : Nat) < lim) = True := eq_true (by decide)
@[simp] theorem lt_lim11 : ((11 : Nat) < lim) = True := eq_true (by decide)
@[simp] theorem lt_lim12 : ((12 : Nat) < lim) = True := eq_true (by decide)
@[simp] theorem lt_lim13 : ((13 : Nat) < lim) = True := eq_true (by decide)
@[simp] theorem lt_lim14 : ((14 : Nat) < lim) = True := eq_true (by decide)
@[simp] theorem lt_lim15 : ((15 : Nat) < lim) = True := eq_true (by decide)
@[simp] theorem lt_lim16 : ((16 : Nat) < lim) = True := eq_true (by decide)
@[simp] theorem lt_lim17 : ((17 : Nat) < lim) = True := eq_true (by decide)
@[simp] theorem lt_lim18 : ((18 : Nat) < lim) = True := eq_true (by decide)
@[simp] theorem lt_lim19 : ((19 : Nat) < lim) = True := eq_true (by decide)
@[simp] theorem lt_lim20 : ((20 : Nat) < lim) = True := eq_true (by decide)
end Mi

namespace Mi
open PySem PySem.Spec PyProof.Rows L2
variable {R : List D}

theorem ixN_nat {n k : Nat} (h : k < n) : ixN n (k : Int) = some k := by
  unfold ixN; rw [if_pos (by omega), if_pos (by omega)]; simp
theorem ixN_int {n : Nat} {i : Int} (h0 : 0 ≤ i) (h : i < n) : ixN n i = some i.toNat := by
  unfold ixN; rw [if_pos h0, if_pos h]
theorem atI_int {α : Type} {xs : List α} {i : Int} (h0 : 0 ≤ i) (h : i < xs.length) : ∃ x, atI xs i = some x ∧ x ∈ xs := by
  unfold atI
  rw [ixN_int h0 h]
  have hl : i.toNat < xs.length := by omega
  exact ⟨xs[i.toNat], by simp [hl], List.getElem_mem hl⟩
@[simp] theorem atI_0 {α : Type} {x : α} {xs : List α} : atI (x :: xs) 0 = some x := by
  unfold atI; rw [ixN_int (by omega) (by simp <;> omega)]; rfl
@[simp] theorem atI_1 {α : Type} {x y : α} {xs : List α} : atI (x :: y :: xs) 1 = some y := by
  unfold atI; rw [ixN_int (by omega) (by simp <;> omega)]; rfl
@[simp] theorem atI_2 {α : Type} {x y z : α} {xs : List α} : atI (x :: y :: z :: xs) 2 = some z := by
  unfold atI; rw [ixN_int (by omega) (by simp <;> omega)]; rfl
@[simp] theorem atI_3 {α : Type} {x y z u : α} {xs : List α} : atI (x :: y :: z :: u :: xs) 3 = some u := by
  unfold atI; rw [ixN_int (by omega) (by simp <;> omega)]; rfl
@[simp] theorem setD_l0 {x d : D} {xs : List D} : setD (.lst (x :: xs)) (.int 0) d = some (.lst (d :: xs)) := by
  show (match ixN (x :: xs).length 0 with | some j => _ | none => _) = _
  rw [ixN_int (by omega) (by simp <;> omega)]; rfl
@[simp] theorem setD_l1 {x y d : D} {xs : List D} : setD (.lst (x :: y :: xs)) (.int 1) d = some (.lst (x :: d :: xs)) := by
  show (match ixN (x :: y :: xs).length 1 with | some j => _ | none => _) = _
  rw [ixN_int (by omega) (by simp <;> omega)]; rfl

/-- the pool in the store -/
def PoolOk (R : List D) (t : List D) : Prop := ∃ (cs : List Int) (seed count : Int), t = .lst (cs.map .int) :: .lst [.int seed, .int count, .ptr 0] :: R ∧ (∀ c ∈ cs, 0 ≤ c) ∧ cs.length ≤ 63

theorem draw_ok {t : List D} {n : Int} {Q : D → S → Prop} (hp : PoolOk R t) (h0 : 0 < n) (hn : n < 1073741824)
    (k : ∀ d t', 0 ≤ d → d < n → PoolOk R t' → Q (.int d) ⟨[], t'⟩) : Wp (g__law_draw [.ptr 1, .int n] ⟨[], t⟩) Q := by
  obtain ⟨cs, seed, count, rfl, hc, hl⟩ := hp
  cases cs with
  | nil =>
    simp [g__law_draw, b__law_draw, mulD_l, mulD_r, modD_i, fdivD_i, (by decide : smallI 7919 = true), (by decide : smallI 48271 = true), h0, hn, small_mod]
    exact k _ _ (Int.emod_nonneg _ (by omega)) (Int.emod_lt_of_pos _ h0) ⟨[], seed, count + 1, rfl, hc, hl⟩
  | cons c cs =>
    have c0 : 0 ≤ c := hc c List.mem_cons_self
    have c1 : 0 ≤ c / n := Int.ediv_nonneg c0 (by omega)
    have r0 := Int.emod_nonneg c (show n ≠ 0 by omega)
    have r1 := Int.emod_lt_of_pos c h0
    have hl' : cs.length ≤ 62 := by simpa using hl
    have g1 : (0 : Int) < (cs.length : Int) + 1 := by omega
    have g2 : cs.length + 1 ≤ lim := by show _ ≤ 1000000; omega
    simp [g__law_draw, b__law_draw, modD_i, fdivD_i, h0, hn, g1]
    split
    · simp [isLst, popAtD, g1, g2]
      exact k _ _ r0 r1 ⟨cs, seed, count + 1, rfl, fun x hx => hc x (List.mem_cons_of_mem _ hx), by omega⟩
    · exact k _ _ r0 r1 ⟨c / n :: cs, seed, count + 1, rfl, fun x hx => by
        rcases List.mem_cons.mp hx with e | e
        · rw [e]; exact c1
        · exact hc x (List.mem_cons_of_mem _ e), by simpa using hl⟩

theorem cutD_take {ds : List D} {k : Int} (h : 0 ≤ k) : cutD ds none (some k) = ds.take k.toNat := by
  unfold cutD HT.sIx
  simp only
  rw [if_neg (by omega)]
  simp only [List.drop_zero, Nat.sub_zero]
  by_cases c : k.toNat ≤ ds.length
  · rw [Nat.min_eq_left c]
  · rw [Nat.min_eq_right (by omega), List.take_of_length_le (Nat.le_refl _), List.take_of_length_le (by omega)]
theorem cutD_mid {ds : List D} {j k : Int} (hj : 0 ≤ j) (h : 0 ≤ k) : cutD ds (some j) (some k) = (ds.drop j.toNat).take (k.toNat - j.toNat) := by
  unfold cutD HT.sIx
  simp only
  rw [if_neg (by omega), if_neg (by omega)]
  by_cases c : j.toNat ≤ ds.length
  · rw [Nat.min_eq_left c]
    by_cases c2 : k.toNat ≤ ds.length
    · rw [Nat.min_eq_left c2]
    · rw [Nat.min_eq_right (by omega), List.take_of_length_le (by simp), List.take_of_length_le (by simp; omega)]
  · have e1 : min j.toNat ds.length = ds.length := by omega
    rw [e1, List.drop_length, List.drop_eq_nil_of_le (by omega)]
    simp
theorem intsD_map : ∀ ns : List Int, intsD (ns.map .int) = some ns
  | [] => rfl
  | n :: r => by rw [List.map_cons, intsD, intsD_map r]; rfl
theorem pool_loop {t : List D} {sc : Slot} {Q : Fl → S → Prop} (k : ∀ seed x, notOwn x = true → Q .nx ⟨[sc, .val (.int seed), x], t⟩) : ∀ (l : List Int) (seed : Int) (x : Slot), notOwn x = true →
    Wp (forL (gN 2) (sAsg (gN 1) (op2 modD (opC intD (aCons (op2 addD (op2 addD (op2 mulD (vr 1) (kk (.int (48271 : Int)))) (op2 modD (opC intD (aCons (vr 2) aNil)) (kk (.int (2147483629 : Int))))) (kk (.int (11 : Int)))) aNil)) (kk (.int (2147483647 : Int))))) (l.map .int) ⟨[sc, .val (.int seed), x], t⟩) Q
  | [], seed, x, hx => by simpa using k seed x hx
  | y :: l, seed, x, hx => by
    have := pool_loop k l
    simp [mulD_r, modD_i, (by decide : smallI 48271 = true)]
    exact this _ _ rfl
theorem pool_comp {t : List D} {e : List Slot} {tt : M Bool} {te : M Loc} (ht : tt = (tstB (op2 (cmpD fun i j => decide (j ≤ i)) (opC absD (aCons (vr 2) aNil)) (op2 powD (kk (.int (10 : Int))) (kk (.int (18 : Int))))))) (hte : te = (opC absD (aCons (vr 2) aNil)))
    {sc sd sx : Slot} (he : e = [sc, sd, sx]) (hx : notOwn sx = true) {Q : D → S → Prop} {m : Nat} (k : ∀ cs : List Int, (∀ c ∈ cs, 0 ≤ c) → cs.length ≤ m → Q (.lst (cs.map .int)) ⟨e, t⟩) : ∀ (l cs : List Int), (∀ c ∈ cs, 0 ≤ c) → cs.length + l.length ≤ m → m < 1000 →
    Wp (lcL (gN 2) tt te [2] (cs.map .int) (l.map .int) ⟨e, t⟩) Q
  | [], cs, h, hl, hm => by simpa using k cs h (by simpa using hl)
  | y :: l, cs, h, hl, hm => by
    have ih := pool_comp ht hte he hx k l
    have hl' : cs.length + (l.length + 1) ≤ m := hl
    subst ht hte he
    refine wp_lcL_cons (by simp [freeOf, hx]) (s1 := ⟨[sc, sd, .val (.int y)], t⟩) rfl ?_
    have c1 : cs.length < lim := by show _ < 1000000; omega
    obtain ⟨a, ha, a0⟩ : ∃ a : Int, absD [.int y] = some (.int a) ∧ 0 ≤ a := ⟨_, rfl, by split <;> omega⟩
    simp [powD, ha, -absD_i]
    split
    · simp [freeOf, notOwn, backE, c1, ha, -absD_i]
      have := ih (cs ++ [a]) (fun c hc => by
        rcases List.mem_append.mp hc with e | e
        · exact h c e
        · rw [List.mem_singleton.mp e]; exact a0) (by simp; omega) hm
      simpa using this
    · simp [freeOf, notOwn, backE]
      exact ih cs h (by omega) hm
theorem pool_ok (ns : List Int) (hn : ns.length ≤ 63) {Q : D → S → Prop} (k : ∀ t, PoolOk [] t → Q (.ptr 1) ⟨[], t⟩) : Wp (g__law_pool [.lck (ns.map .int)] ⟨[], []⟩) Q := by
  have t63 : (ns.map D.int).take 63 = ns.map .int := List.take_of_length_le (by simpa using hn)
  have lm : ns.length < lim := by show _ < 1000000; omega
  have s1 : ∃ z, sumD [.lst ((ns.map D.int).take 1)] = some (.int z) := by
    rw [← List.map_take]
    refine ⟨(ns.take 1).sum, ?_⟩
    show (intsD ((ns.take 1).map D.int)).map (fun ns => D.int ns.sum) = _
    rw [intsD_map]; rfl
  obtain ⟨z, s1⟩ := s1
  simp [g__law_pool, b__law_pool, cutD_take, s1, modD_i, t63, lm]
  refine pool_loop (fun seed x hx => ?_) ns _ _ rfl
  simp [cutD_take, t63, lm]
  refine pool_comp rfl rfl rfl hx (m := ns.length) (fun cs h0 hl => ?_) ns [] (by simp) (by simp) (by omega)
  simp
  exact k _ ⟨cs, seed, 0, rfl, h0, by omega⟩
end Mi

namespace Mi
open PySem PySem.Spec PyProof.Rows L2

def nxtI (I : S → Prop) (Q : Fl → S → Prop) : Fl → S → Prop := fun f s => match f with
  | .nx => I s
  | .ct => I s
  | .bk => Q .nx s
  | .rt d => Q (.rt d) s
@[simp] theorem nxtI_nx {I : S → Prop} {Q : Fl → S → Prop} {s : S} : nxtI I Q .nx s = I s := rfl
@[simp] theorem nxtI_ct {I : S → Prop} {Q : Fl → S → Prop} {s : S} : nxtI I Q .ct s = I s := rfl
@[simp] theorem nxtI_bk {I : S → Prop} {Q : Fl → S → Prop} {s : S} : nxtI I Q .bk s = Q .nx s := rfl
@[simp] theorem nxtI_rt {I : S → Prop} {Q : Fl → S → Prop} {s : S} {d : D} : nxtI I Q (.rt d) s = Q (.rt d) s := rfl
theorem wp_forL_at {tg : TgF} {body : M Fl} {Q : Fl → S → Prop} (Inv : Nat → S → Prop) (xs : List D) (step : ∀ i d s, xs[i]? = some d → Inv i s → ∃ s1, tg d s = some s1 ∧ Wp (body s1) (nxtI (Inv (i + 1)) Q)) (fin : ∀ s, Inv xs.length s → Q .nx s) : ∀ (l : List D) (i : Nat) (s : S), xs.drop i = l → i + l.length = xs.length → Inv i s → Wp (forL tg body l s) Q
  | [], i, s, h, hl, hi => by
    rw [wp_forL_nil]
    have : i = xs.length := by simpa using hl
    exact fin s (this ▸ hi)
  | d :: l, i, s, h, hl, hi => by
    have e1 : xs[i]? = some d := by rw [← List.head?_drop, h]; rfl
    obtain ⟨s1, e2, w⟩ := step i d s e1 hi
    show Wp (match tg d s with | none => .stuck | some s' => (body s').bind (aft (forL tg body l))) Q
    simp only [e2]
    rw [wp_aft]
    refine w.mono fun f s2 h2 => ?_
    have ih := fun s => wp_forL_at Inv xs step fin l (i + 1) s (by rw [← List.tail_drop, h]; rfl) (by simpa [Nat.add_assoc, Nat.add_comm 1] using hl)
    cases f with
    | nx => exact ih s2 h2
    | ct => exact ih s2 h2
    | bk => exact h2
    | rt d => exact h2
/-- a for by its invariant -/
theorem wp_forL_inv {tg : TgF} {body : M Fl} {Q : Fl → S → Prop} {xs : List D} {s : S} (Inv : Nat → S → Prop) (h0 : Inv 0 s) (step : ∀ i d s, xs[i]? = some d → Inv i s → ∃ s1, tg d s = some s1 ∧ Wp (body s1) (nxtI (Inv (i + 1)) Q)) (fin : ∀ s, Inv xs.length s → Q .nx s) : Wp (forL tg body xs s) Q :=
  wp_forL_at Inv xs step fin xs 0 s rfl (by simp) h0
theorem wp_lcL_at {tg : TgF} {tt : M Bool} {te : M Loc} {vs : List Nat} {e0 : List Slot} {Q : D → S → Prop} (hf : freeOf e0 vs = true) (Inv : Nat → List D → List D → Prop) (xs : List D)
    (step : ∀ i d acc t, xs[i]? = some d → Inv i acc t → ∃ s1, tg d ⟨wipeE e0 vs, t⟩ = some s1 ∧ Wp (tt s1) fun b s2 => if b = true then Wp (te s2) fun l s3 => Wp (toVal l s3) fun d' s4 => freeOf s4.e vs = true ∧ acc.length < lim ∧ backE e0 s4.e vs = e0 ∧ Inv (i + 1) (acc ++ [d']) s4.t
      else freeOf s2.e vs = true ∧ backE e0 s2.e vs = e0 ∧ Inv (i + 1) acc s2.t)
    (fin : ∀ acc t, Inv xs.length acc t → Q (.lst acc) ⟨e0, t⟩) : ∀ (l : List D) (i : Nat) (acc t : List D), xs.drop i = l → i + l.length = xs.length → Inv i acc t → Wp (lcL tg tt te vs acc l ⟨e0, t⟩) Q
  | [], i, acc, t, h, hl, hi => by
    rw [wp_lcL_nil]
    have : i = xs.length := by simpa using hl
    exact fin acc t (this ▸ hi)
  | d :: l, i, acc, t, h, hl, hi => by
    have e1 : xs[i]? = some d := by rw [← List.head?_drop, h]; rfl
    obtain ⟨s1, e2, w⟩ := step i d acc t e1 hi
    have ih := fun acc t => wp_lcL_at hf Inv xs step fin l (i + 1) acc t (by rw [← List.tail_drop, h]; rfl) (by simpa [Nat.add_assoc, Nat.add_comm 1] using hl)
    refine wp_lcL_cons hf e2 (w.mono fun b s2 h2 => ?_)
    cases b with
    | true =>
      rw [if_pos rfl] at h2 ⊢
      refine h2.mono fun l' s3 h3 => h3.mono fun d' s4 h4 => ?_
      obtain ⟨h5, h6, h7, h8⟩ := h4
      refine ⟨h5, h6, ?_⟩
      show Wp (lcL tg tt te vs (acc ++ [d']) l ⟨backE e0 s4.e vs, s4.t⟩) Q
      rw [h7]
      exact ih _ _ h8
    | false =>
      rw [if_neg (by simp)] at h2 ⊢
      obtain ⟨h5, h7, h8⟩ := h2
      refine ⟨h5, ?_⟩
      show Wp (lcL tg tt te vs acc l ⟨backE e0 s2.e vs, s2.t⟩) Q
      rw [h7]
      exact ih _ _ h8
/-- a list comprehension by its invariant -/
theorem wp_lcL_inv {tg : TgF} {tt : M Bool} {te : M Loc} {vs : List Nat} {e0 t : List Slot} : True := trivial
theorem wp_lcL_inv' {tg : TgF} {tt : M Bool} {te : M Loc} {vs : List Nat} {e0 : List Slot} {xs t : List D} {Q : D → S → Prop} (Inv : Nat → List D → List D → Prop) (hf : freeOf e0 vs = true) (h0 : Inv 0 [] t)
    (step : ∀ i d acc t, xs[i]? = some d → Inv i acc t → ∃ s1, tg d ⟨wipeE e0 vs, t⟩ = some s1 ∧ Wp (tt s1) fun b s2 => if b = true then Wp (te s2) fun l s3 => Wp (toVal l s3) fun d' s4 => freeOf s4.e vs = true ∧ acc.length < lim ∧ backE e0 s4.e vs = e0 ∧ Inv (i + 1) (acc ++ [d']) s4.t
      else freeOf s2.e vs = true ∧ backE e0 s2.e vs = e0 ∧ Inv (i + 1) acc s2.t)
    (fin : ∀ acc t, Inv xs.length acc t → Q (.lst acc) ⟨e0, t⟩) : Wp (lcL tg tt te vs [] xs ⟨e0, t⟩) Q :=
  wp_lcL_at hf Inv xs step fin xs 0 [] t rfl (by simp) h0
end Mi

namespace Mi
open PySem PySem.Spec PyProof.Rows L2

def wd (cs : List Nat) : Str := ⟨cs.toArray⟩
def ch (c : Nat) : D := .str ⟨#[c]⟩
theorem wd_len (cs : List Nat) : (wd cs).length = cs.length := by unfold wd Str.length; simp
theorem wd_inj {a b : List Nat} (h : wd a = wd b) : a = b := by
  have := congrArg (fun s => s.cps.toList) h
  simpa [wd] using this
theorem strs_ch : ∀ cs : List Nat, strsD (cs.map ch) = some ((cs.map fun c => [c]).map wd)
  | [] => rfl
  | c :: cs => by rw [List.map_cons, ch, strsD, strs_ch cs]; rfl
theorem joinL_one : ∀ cs : List Nat, TL.joinL [] (cs.map fun c => [c]) = cs
  | [] => rfl
  | [c] => rfl
  | c :: d :: cs => by
    show [c] ++ ([] ++ TL.joinL [] ((d :: cs).map fun c => [c])) = _
    rw [joinL_one (d :: cs)]; rfl
theorem sum_one : ∀ cs : List Nat, (((cs.map fun c => [c]).map wd).map (·.length)).sum = cs.length
  | [] => rfl
  | c :: cs => by
    have := sum_one cs
    simp only [List.map_cons, List.sum_cons, List.length_cons] at this ⊢
    rw [this]
    show 1 + _ = _
    omega
theorem joinD_ch {cs : List Nat} (h : cs.length ≤ 1000) : joinD (.str ("" : Str)) [.lst (cs.map ch)] = some (.str (wd cs)) := by
  show joinS ("" : Str) (cs.map ch) = _
  unfold joinS
  rw [strs_ch]
  have e0 : ("" : Str) = wd [] := by decide +kernel
  have l0 : (wd []).length = 0 := rfl
  simp only [e0, l0, sum_one]
  rw [if_pos (by show _ ≤ 1000000; omega)]
  exact congrArg (fun x => some (D.str x)) ((SX.join_S [] _).trans (by rw [joinL_one]; rfl))
def wordsOf5 : List Str := [("x" : Str), ("y" : Str), ("not" : Str), ("and" : Str), ("or" : Str)]
theorem in_strs (w : Str) (ws : List Str) : inD false (.str w) (.lst (ws.map .str)) = some (.bl (decide (w ∈ ws))) := by
  have h1 : (ws.map D.str).all flatD = true := by simp [flatD]
  show (if flatD (.str w) && (ws.map D.str).all flatD then some (D.bl (false ^^ inV (toV (.str w)) ((ws.map D.str).map toV))) else none) = _
  rw [h1]
  simp only [flatD, Bool.and_self, if_true]
  congr 2
  simp only [Bool.false_xor, inV, List.map_map, List.any_map]
  induction ws with
  | nil => simp
  | cons a r ih =>
    rw [List.any_cons]
    have ih := ih (by simp [flatD])
    rw [ih]
    have : ((fun y => eqV y (toV (D.str w))) ∘ toV ∘ D.str) a = decide (w = a) := by
      show (a == w) = _
      by_cases c : w = a
      · subst c; simp
      · simp [c]; exact fun z => c z.symm
    rw [this]
    by_cases c : w = a <;> simp [c]
theorem in_tups (w : Str) (ws : List Str) : inD false (.str w) (.tup (ws.map .str)) = some (.bl (decide (w ∈ ws))) := in_strs w ws
theorem notin_strs (w : Str) (ws : List Str) : inD true (.str w) (.lst (ws.map .str)) = some (.bl (!decide (w ∈ ws))) := by
  have h1 : (ws.map D.str).all flatD = true := by simp [flatD]
  have h := in_strs w ws
  have e1 : inD false (.str w) (.lst (ws.map .str)) = if flatD (.str w) && (ws.map D.str).all flatD then some (D.bl (false ^^ inV (toV (.str w)) ((ws.map D.str).map toV))) else none := rfl
  have e2 : inD true (.str w) (.lst (ws.map .str)) = if flatD (.str w) && (ws.map D.str).all flatD then some (D.bl (true ^^ inV (toV (.str w)) ((ws.map D.str).map toV))) else none := rfl
  rw [e1, h1] at h
  rw [e2, h1]
  simp only [flatD, Bool.and_self, if_true, Bool.false_xor, Option.some.injEq, D.bl.injEq] at h
  simp only [flatD, Bool.and_self, if_true, h, Bool.true_xor]
theorem notin_tups (w : Str) (ws : List Str) : inD true (.str w) (.tup (ws.map .str)) = some (.bl (!decide (w ∈ ws))) := notin_strs w ws
/-- a small letter -/
def Ltr (c : Nat) : Prop := 97 ≤ c ∧ c ≤ 122
def abc : Str := "abcdefghijklmnopqrstuvwxyz"
theorem abc_at {i : Int} (h0 : 0 ≤ i) (h : i < 26) : ixD (.str ("abcdefghijklmnopqrstuvwxyz" : Str)) (.int i) = some (ch (97 + i.toNat)) := by
  have e0 : ("abcdefghijklmnopqrstuvwxyz" : Str) = wd ((List.range 26).map (97 + ·)) := by decide +kernel
  rw [e0]
  show (if (wd ((List.range 26).map (97 + ·))).length ≤ lim then (atI (wd ((List.range 26).map (97 + ·))).cps.toList i).map (fun c => D.str ⟨#[c]⟩) else none) = _
  rw [if_pos (by rw [wd_len]; decide)]
  unfold wd
  simp only [atI]
  rw [ixN_int h0 (by simp; omega)]
  simp only [Option.bind]
  rw [List.getElem?_map, List.getElem?_range (by omega)]
  rfl
/-- a name that the language takes -/
def NmOk (w : Str) : Prop := 1 ≤ w.length ∧ w.length ≤ 6 ∧ (∀ c ∈ w.cps.toList, Ltr c) ∧ w ∉ KEPT_WORDS_ws
theorem kept3 {w : Str} (h : w.length ≤ 3) (n : w ∉ wordsOf5) : w ∉ KEPT_WORDS_ws := by
  intro m
  have l4 : ∀ v ∈ ([("true" : Str), ("each" : Str), ("some" : Str)] : List Str), v.length = 4 := by decide +kernel
  unfold KEPT_WORDS_ws at m
  unfold wordsOf5 at n
  simp only [List.mem_cons, List.not_mem_nil, or_false, not_or] at m n
  rcases m with e | e | e | e | e | e | e | e
  · exact n.1 e
  · exact n.2.1 e
  · rw [e, l4 _ (by simp)] at h; omega
  · exact n.2.2.1 e
  · exact n.2.2.2.1 e
  · exact n.2.2.2.2 e
  · rw [e, l4 _ (by simp)] at h; omega
  · rw [e, l4 _ (by simp)] at h; omega
theorem nm_wd {cs : List Nat} (h1 : 1 ≤ cs.length) (h3 : cs.length ≤ 3) (hc : ∀ c ∈ cs, Ltr c) (n : wd cs ∉ wordsOf5) : NmOk (wd cs) :=
  ⟨by rw [wd_len]; exact h1, by rw [wd_len]; omega, by simpa [wd] using hc, kept3 (by rw [wd_len]; exact h3) n⟩
theorem nm_q {w : Str} (h : w ∈ wordsOf5) : NmOk (w ++ ("q" : Str)) := by
  have : ∀ w ∈ wordsOf5, 1 ≤ (w ++ ("q" : Str)).length ∧ (w ++ ("q" : Str)).length ≤ 6 ∧ (∀ c ∈ (w ++ ("q" : Str)).cps.toList, 97 ≤ c ∧ c ≤ 122) ∧ (w ++ ("q" : Str)) ∉ KEPT_WORDS_ws := by decide +kernel
  exact this w h
theorem q_at {w : Str} {i : Nat} (h : i < w.cps.size) : (w ++ ("q" : Str)).cps[i]? = w.cps[i]? := by
  show (w.cps ++ ("q" : Str).cps)[i]? = _
  rw [Array.getElem?_append_left h]
end Mi

namespace Mi
open PySem PySem.Spec PyProof.Rows L2
variable {R : List D}
theorem steps_at {d : Int} (h0 : 0 ≤ d) (h : d < 12) : ∃ st : Int, atI ([.int 1, .int 3, .int 5, .int 7, .int 9, .int 11, .int 15, .int 17, .int 19, .int 21, .int 23, .int 25] : List D) d = some (.int st) ∧ st ∈ ([1, 3, 5, 7, 9, 11, 15, 17, 19, 21, 23, 25] : List Int) := by
  obtain ⟨n, rfl⟩ : ∃ n : Nat, d = n := ⟨d.toNat, by omega⟩
  have : n < 12 := by omega
  unfold atI
  rw [ixN_nat (by simpa using this)]
  match n, this with
  | 0, _ => exact ⟨_, rfl, by simp⟩
  | 1, _ => exact ⟨_, rfl, by simp⟩
  | 2, _ => exact ⟨_, rfl, by simp⟩
  | 3, _ => exact ⟨_, rfl, by simp⟩
  | 4, _ => exact ⟨_, rfl, by simp⟩
  | 5, _ => exact ⟨_, rfl, by simp⟩
  | 6, _ => exact ⟨_, rfl, by simp⟩
  | 7, _ => exact ⟨_, rfl, by simp⟩
  | 8, _ => exact ⟨_, rfl, by simp⟩
  | 9, _ => exact ⟨_, rfl, by simp⟩
  | 10, _ => exact ⟨_, rfl, by simp⟩
  | 11, _ => exact ⟨_, rfl, by simp⟩

theorem names_ok {t : List D} (hp : PoolOk R t) {Q : D → S → Prop} (k : ∀ (ws : List Str) t', PoolOk R t' → ws.length = 5 → (∀ w ∈ ws, NmOk w) → ws.Nodup → Q (.lst (ws.map .str)) ⟨[], t'⟩) : Wp (g__law_names [.ptr 1, .int 5] ⟨[], t⟩) Q := by
  simp [g__law_names, b__law_names]
  refine draw_ok hp (by omega) (by omega) fun pl t hl0 hl1 hp => ?_
  simp
  refine draw_ok hp (by omega) (by omega) fun sta t hs0 hs1 hp => ?_
  simp
  refine draw_ok hp (by omega) (by omega) fun d t hd0 hd1 hp => ?_
  obtain ⟨st, e1, hst⟩ := steps_at hd0 hd1
  simp [e1]
  have hst0 : 1 ≤ st ∧ st ≤ 25 := by
    simp only [List.mem_cons, List.not_mem_nil, or_false] at hst
    omega
  rw [wp_forRng (by decide)]
  refine wp_forL_inv (fun i s => ∃ (acc : List Str) (s7 s8 s9 : Slot) (t : List D), s = ⟨[.val (.ptr 1), .val (.int 5), .val (.int pl), .val (.int sta), .val (.int st), .val (.str ("abcdefghijklmnopqrstuvwxyz" : Str)), .own (.lst (acc.map .str)), s7, s8, s9, .no], t⟩ ∧ PoolOk R t ∧ acc.length = i ∧
    ∀ (j : Nat) w, acc[j]? = some w → NmOk w ∧ w.cps[pl.toNat]? = some (97 + ((sta + st * j) % 26).toNat)) ⟨[], _, _, _, t, rfl, hp, rfl, fun j w h => by simp at h⟩ ?_ ?_
  · rintro i d s hd ⟨acc, s7, s8, s9, t, rfl, hp, hl, hacc⟩
    have hi : i < 5 := by
      have := (List.getElem?_eq_some_iff.mp hd).1
      simpa using this
    have hd : d = .int i := by
      rw [List.getElem?_map, List.getElem?_range hi] at hd
      have := Option.some.inj hd
      rw [← this]; simp
    subst hd
    refine ⟨_, rfl, ?_⟩
    simp
    refine draw_ok hp (by omega) (by omega) fun dr t hr0 hr1 hp => ?_
    simp
    rw [if_pos (by constructor <;> omega)]
    rw [wp_lcRng (by show _ < 1000000; omega)]
    refine wp_lcL_inv' (fun i acc t => PoolOk R t ∧ ∃ cs : List Nat, acc = cs.map ch ∧ cs.length = i ∧ ∀ c ∈ cs, Ltr c) (by simp [freeOf, notOwn]) ⟨hp, [], rfl, rfl, fun c h => by simp at h⟩ ?_ ?_
    · rintro i2 d2 acc2 t2 hd2 ⟨hp2, cs, rfl, hcl, hcs⟩
      have hi2 : i2 < (pl + 1 + dr).toNat := by
        have := (List.getElem?_eq_some_iff.mp hd2).1
        simpa using this
      refine ⟨_, rfl, ?_⟩
      simp [wipeE]
      refine draw_ok hp2 (by omega) (by omega) fun x t3 hx0 hx1 hp3 => ?_
      have cl : cs.length < lim := by show _ < 1000000; omega
      simp [abc_at hx0 hx1, freeOf, notOwn, backE, cl]
      refine ⟨hp3, cs ++ [97 + x.toNat], by simp, by simp [hcl], fun c hc => ?_⟩
      rcases List.mem_append.mp hc with e | e
      · exact hcs c e
      · rw [List.mem_singleton.mp e]; exact ⟨by omega, by omega⟩
    · rintro acc2 t2 ⟨hp2, cs, rfl, hcl, hcs⟩
      simp at hcl
      have m0 := Int.emod_nonneg (sta + st * (i : Int)) (show (26 : Int) ≠ 0 by omega)
      have m1 := Int.emod_lt_of_pos (sta + st * (i : Int)) (show (0 : Int) < 26 by omega)
      have sst : smallI st = true := by
        unfold smallI
        rw [Bool.and_eq_true]
        exact ⟨decide_eq_true (by omega), decide_eq_true (by omega)⟩
      have es : setD (.lst (cs.map ch)) (.int pl) (ch (97 + ((sta + st * i) % 26).toNat)) = some (.lst ((cs.set pl.toNat (97 + ((sta + st * i) % 26).toNat)).map ch)) := by
        show (match ixN (cs.map ch).length pl with | some j => _ | none => _) = _
        rw [ixN_int hl0 (by simp; omega), List.map_set]
      have e10 : (cs.set pl.toNat (97 + ((sta + st * i) % 26).toNat)).length ≤ 1000 := by simp; omega
      have hpl : pl.toNat < cs.length := by omega
      obtain ⟨cs2, e2⟩ : ∃ cs2, cs2 = cs.set pl.toNat (97 + ((sta + st * i) % 26).toNat) := ⟨_, rfl⟩
      rw [← e2] at es e10
      have l2 : cs2.length = cs.length := by rw [e2, List.length_set]
      have at2 : cs2[pl.toNat]? = some (97 + ((sta + st * i) % 26).toNat) := by rw [e2]; simp [hpl]
      have hc2 : ∀ c ∈ cs2, Ltr c := fun c hc => by
        rw [e2] at hc
        rcases List.mem_or_eq_of_mem_set hc with h | h
        · exact hcs c h
        · rw [h]; exact ⟨by omega, by omega⟩
      have ein : inD false (.str (wd cs2)) (.lst [.str ("x" : Str), .str ("y" : Str), .str ("not" : Str), .str ("and" : Str), .str ("or" : Str)]) = some (.bl (decide (wd cs2 ∈ wordsOf5))) := in_strs (wd cs2) wordsOf5
      have eq1 : addD (.str (wd cs2)) (.str ("q" : Str)) = some (.str (wd cs2 ++ ("q" : Str))) := by
        show (if _ ≤ lim then _ else _) = _
        rw [if_pos (by rw [wd_len, show (("q" : Str)).length = 1 by decide +kernel]; show _ ≤ 1000000; omega)]
      have fin : ∀ (w : Str), NmOk w → w.cps[pl.toNat]? = some (97 + ((sta + st * i) % 26).toNat) → ∀ (j : Nat) v, (acc ++ [w])[j]? = some v → NmOk v ∧ v.cps[pl.toNat]? = some (97 + ((sta + st * j) % 26).toNat) := by
        intro w h1 h2 j v hv
        by_cases c : j < acc.length
        · rw [List.getElem?_append_left c] at hv
          exact hacc j v hv
        · have : j = i := by
            have := (List.getElem?_eq_some_iff.mp hv).1
            simp at this
            omega
          subst this
          rw [← hl, List.getElem?_append_right (Nat.le_refl _), Nat.sub_self] at hv
          cases hv
          exact ⟨h1, h2⟩
      have la : acc.length < lim := by show _ < 1000000; omega
      simp [mulD_l, sst, modD_i, abc_at m0 m1, es, isStr, joinD_ch e10, ein]
      by_cases c : wd cs2 ∈ wordsOf5
      · simp [c, eq1, isLst, appD, la]
        refine ⟨acc ++ [wd cs2 ++ ("q" : Str)], _, _, _, _, ⟨⟨by simp, rfl, rfl, rfl⟩, rfl⟩, hp2, by simp [hl], fin _ (nm_q c) ?_⟩
        rw [q_at (by simpa [wd] using (show pl.toNat < cs2.length by omega))]
        simpa [wd] using at2
      · simp [c, isLst, appD, la]
        refine ⟨acc ++ [wd cs2], _, _, _, _, ⟨⟨by simp, rfl, rfl, rfl⟩, rfl⟩, hp2, by simp [hl], fin _ (nm_wd (by omega) (by omega) hc2 c) ?_⟩
        simpa [wd] using at2
  · rintro s ⟨acc, s7, s8, s9, t, rfl, hp, hl, hacc⟩
    simp at hl
    simp
    refine k acc t hp hl (fun w hw => ?_) ?_
    · obtain ⟨j, hj⟩ := List.mem_iff_getElem?.mp hw
      exact (hacc j w hj).1
    · refine List.pairwise_iff_getElem.mpr fun i j hi hj hij he' => ?_
      have he : acc[i]? = acc[j]? := by rw [List.getElem?_eq_getElem hi, List.getElem?_eq_getElem hj, he']
      obtain ⟨w, hw⟩ : ∃ w, acc[j]? = some w := ⟨_, List.getElem?_eq_getElem hj⟩
      have a1 := (hacc j w hw).2
      have a2 := (hacc i w (he.trans hw)).2
      rw [a1] at a2
      have a3 := Option.some.inj a2
      rw [hl] at hj
      have m0 := Int.emod_nonneg (sta + st * (i : Int)) (show (26 : Int) ≠ 0 by omega)
      have m1 := Int.emod_nonneg (sta + st * (j : Int)) (show (26 : Int) ≠ 0 by omega)
      have a4 : (sta + st * (j : Int)) % 26 = (sta + st * (i : Int)) % 26 := by omega
      clear a1 a2 a3 e1
      have : ∃ u : Nat, u = j - i ∧ 1 ≤ u ∧ u ≤ 4 := ⟨j - i, rfl, by omega, by omega⟩
      obtain ⟨u, hu, u1, u4⟩ := this
      have ej : (j : Int) = i + u := by omega
      rw [ej, Int.mul_add] at a4
      simp only [List.mem_cons, List.not_mem_nil, or_false] at hst
      have hu' : u = 1 ∨ u = 2 ∨ u = 3 ∨ u = 4 := by omega
      rcases hst with h | h | h | h | h | h | h | h | h | h | h | h <;> subst h <;> rcases hu' with h | h | h | h <;> subst h <;> omega
end Mi

namespace Mi
open PySem PySem.Spec PyProof.Rows L2

/-! ### classes -/
@[simp] theorem tyN_non : tyN .non = some (.inl "NoneType") := rfl
@[simp] theorem tyN_bl {b : Bool} : tyN (.bl b) = some (.inl "bool") := rfl
@[simp] theorem tyN_int {b : Int} : tyN (.int b) = some (.inl "int") := rfl
@[simp] theorem tyN_str {b : Str} : tyN (.str b) = some (.inl "str") := rfl
@[simp] theorem tyN_tup {b : List D} : tyN (.tup b) = some (.inl "tuple") := rfl
@[simp] theorem tyN_lst {b : List D} : tyN (.lst b) = some (.inl "list") := rfl
/-! ### sets of words, as dicts -/
def dk (ws : List Str) : D := .dic (ws.map fun w => (Sum.inr w, D.bl true))
theorem has_dk (w : Str) : ∀ ws : List Str, hasK (ws.map fun w => ((Sum.inr w : Key), D.bl true)) (Sum.inr w) = decide (w ∈ ws)
  | [] => by simp [hasK]
  | a :: r => by
    have ih := has_dk w r
    unfold hasK at ih ⊢
    rw [List.map_cons, List.any_cons, ih]
    by_cases c : w = a
    · subst c; simp
    · have : ¬ ((Sum.inr a : Key) = Sum.inr w) := fun e => c (Sum.inr.inj e).symm
      simp [this, c]
@[simp] theorem in_dk {w : Str} {ws : List Str} {neg : Bool} : inD neg (.str w) (dk ws) = some (.bl (neg ^^ decide (w ∈ ws))) := by
  show some (D.bl (neg ^^ hasK _ _)) = _
  rw [has_dk]
def addW (ws : List Str) (w : Str) : List Str := if w ∈ ws then ws else ws ++ [w]
theorem set_dk {w : Str} {ws : List Str} (h : ws.length < lim) : setD (dk ws) (.str w) (.bl true) = some (dk (addW ws w)) := by
  show (if _ < lim then some (D.dic (putD (ws.map fun w => ((Sum.inr w : Key), D.bl true)) (Sum.inr w) (.bl true))) else none) = _
  rw [if_pos (by simpa using h)]
  have e := has_dk w ws
  unfold hasK at e
  unfold putD addW dk
  by_cases c : w ∈ ws
  · rw [if_pos (by rw [e]; simpa using c), if_pos c]
    congr 2
    rw [List.map_map]
    refine List.map_congr_left fun a _ => ?_
    show (if (Sum.inr a : Key) = Sum.inr w then ((Sum.inr a : Key), D.bl true) else _) = _
    split <;> rfl
  · rw [if_neg (by rw [e]; simpa using c), if_neg c]
    simp
@[simp] theorem cont_dk {ws : List Str} {s : S} {Q : D → S → Prop} : Wp (cont (.val (dk ws)) s) Q = Q (dk ws) s := rfl

theorem wp_forStr {tg : TgF} {body : M Fl} {x : Str} {s : S} {Q : Fl → S → Prop} (hl : x.length < lim) : Wp (forF (.seq (.str x)) tg body lim 0 s) Q = Wp (forL tg body (x.cps.toList.map fun c => D.str ⟨#[c]⟩) s) Q :=
  wp_forSeq rfl rfl (by simpa [Str.length] using hl)
theorem abc_has {c : Nat} (h : Ltr c) : c ∈ (("abcdefghijklmnopqrstuvwxyz" : Str)).cps.toList := by
  have e0 : ("abcdefghijklmnopqrstuvwxyz" : Str) = wd ((List.range 26).map (97 + ·)) := by decide +kernel
  rw [e0]
  simp only [wd, List.mem_map, List.mem_range]
  exact ⟨c - 97, by have := h.1; have := h.2; omega, by have := h.1; omega⟩
theorem isa_list_tuple_tup : isa_list_tuple (.inl "tuple") = some true := by decide
theorem isa_list_tuple_lst : isa_list_tuple (.inl "list") = some true := by decide
@[simp] theorem seq_ok_tup {t : List D} {xs : List D} {Q : D → S → Prop} : Wp (g_is_sequence [.tup xs] ⟨[], t⟩) Q = Q (.bl true) ⟨[], t⟩ := by
  simp [g_is_sequence, b_is_sequence, isa_list_tuple_tup]
theorem isa_str_str : isa_str (.inl "str") = some true := by decide
theorem word_ok {w : Str} (h : NmOk w) {t : List D} {Q : D → S → Prop} : Q (.bl true) ⟨[], t⟩ → Wp (g_is_word [.str w] ⟨[], t⟩) Q := by
  intro k
  obtain ⟨h1, h2, h3, h4⟩ := h
  have hl : w.length < lim := by show _ < 1000000; omega
  have e1 : lenD [.str w] = some (.int w.length) := if_pos (by show _ ≤ 1000000; omega)
  have g1 : (1 : Int) ≤ (w.length : Int) := by omega
  have g2 : (w.length : Int) ≤ 6 := by omega
  simp [g_is_word, b_is_word, isa_str_str, e1, g1, g2, seqOf]
  rw [wp_forStr hl]
  refine wp_forL_inv (fun i s => ∃ x, s = ⟨[.val (.str w), x], t⟩) ⟨_, rfl⟩ ?_ ?_
  · rintro i d s hd ⟨x, rfl⟩
    refine ⟨_, rfl, ?_⟩
    obtain ⟨c, hc, e⟩ := List.mem_map.mp (List.mem_of_getElem? hd)
    subst e
    have e2 : inD true (.str ⟨#[c]⟩) (.str ("abcdefghijklmnopqrstuvwxyz" : Str)) = some (.bl false) := by
      show some (D.bl (true ^^ decide (c ∈ _))) = _
      rw [decide_eq_true (abc_has (h3 c hc))]; rfl
    simp [e2]
  · rintro s ⟨x, rfl⟩
    simpa using k
theorem key_ok {w : Str} {ws : List Str} {t : List D} {Q : D → S → Prop} : Wp (g_is_key [.str w, .tup (ws.map .str)] ⟨[], t⟩) Q = Q (.bl (decide (w ∈ ws))) ⟨[], t⟩ := by
  simp [g_is_key, b_is_key, isa_str_str, in_tups]
theorem names_are {ws tk : List Str} {m : Int} (hm : (ws.length : Int) ≤ m) (hl : ws.length ≤ 10) (h : ∀ w ∈ ws, NmOk w) (hd : ws.Nodup) (ht : ∀ w ∈ ws, w ∉ tk) {t : List D} {Q : D → S → Prop} (k : Q (.bl true) ⟨[], t⟩) :
    Wp (g_are_names [.tup (ws.map .str), .int m, .tup (tk.map .str)] ⟨[], t⟩) Q := by
  have g1 : ¬ m < (ws.length : Int) := by omega
  have g2 : ws.length < lim := by show _ < 1000000; omega
  simp [g_are_names, b_are_names, g1, g2]
  refine wp_forL_inv (fun i s => ∃ x, s = ⟨[.val (.tup (ws.map .str)), .val (.int m), .val (.tup (tk.map .str)), .own (dk (ws.take i)), x], t⟩) ⟨_, rfl⟩ ?_ ?_
  · rintro i d s hi ⟨x, rfl⟩
    refine ⟨_, rfl, ?_⟩
    rw [List.getElem?_map] at hi
    obtain ⟨w, hw, e⟩ := Option.map_eq_some_iff.mp hi
    subst e
    have il := (List.getElem?_eq_some_iff.mp hw).1
    have ew := (List.getElem?_eq_some_iff.mp hw).2
    have mem := List.mem_of_getElem? hw
    have nk : w ∉ KEPT_WORDS_ws := (h w mem).2.2.2
    have nt := ht w mem
    have ni : w ∉ ws.take i := by
      intro hmem
      obtain ⟨j, hj, ej⟩ := List.mem_take_iff_getElem.mp hmem
      have hj' : j < i := by omega
      have := List.pairwise_iff_getElem.mp hd j i (by omega) il hj'
      exact this (ej.trans ew.symm)
    have st : setD (dk (ws.take i)) (.str w) (.bl true) = some (dk (ws.take (i + 1))) := by
      rw [set_dk (by simp; omega)]
      unfold addW
      rw [if_neg ni, List.take_succ, hw]
      rfl
    simp
    refine word_ok (h w mem) ?_
    simp [inWD, nk, in_tups, nt, ni, st]
  · rintro s ⟨x, rfl⟩
    simpa using k
theorem funs_are {ws tk : List Str} (hl : ws.length ≤ 1) (h : ∀ w ∈ ws, w ∈ tk) {t : List D} {Q : D → S → Prop} (k : Q (.bl true) ⟨[], t⟩) :
    Wp (g_are_functions [.tup (ws.map .str), .tup (tk.map .str)] ⟨[], t⟩) Q := by
  have g1 : ¬ (1 : Int) < (ws.length : Int) := by omega
  have g2 : ws.length < lim := by show _ < 1000000; omega
  simp [g_are_functions, b_are_functions, g1, g2]
  refine wp_forL_inv (fun i s => ∃ x, s = ⟨[.val (.tup (ws.map .str)), .val (.tup (tk.map .str)), x], t⟩) ⟨_, rfl⟩ ?_ ?_
  · rintro i d s hi ⟨x, rfl⟩
    refine ⟨_, rfl, ?_⟩
    obtain ⟨w, hw, e⟩ := List.mem_map.mp (List.mem_of_getElem? hi)
    subst e
    simp [key_ok, h w hw]
  · rintro s ⟨x, rfl⟩
    simpa using k
end Mi

namespace Mi
open PySem PySem.Spec PyProof.Rows L2
variable {R : List D}
section
variable {s : S} {e : List Slot} {t : List D}
@[simp] theorem wp_runI {c n : Nat} {b : M Fl} {ds : List D} {Q : D → S → Prop} : Wp (runI c n b ds s) Q = Wp (b ⟨.own (.obj c []) :: (ds.map .val ++ List.replicate (n - ds.length) .no), s.t⟩) fun f s' => match f with
    | .nx => (match s'.e[(0 : Nat)]? with | some (.own d) => Q d ⟨[], s'.t⟩ | _ => False)
    | .rt .non => (match s'.e[(0 : Nat)]? with | some (.own d) => Q d ⟨[], s'.t⟩ | _ => False)
    | _ => False := by
  unfold runI endI
  cases b ⟨.own (.obj c []) :: (ds.map .val ++ List.replicate (n - ds.length) .no), s.t⟩ with
  | ok f s' =>
    show Wp (match f with | .nx => _ | .rt .non => _ | _ => _) Q = (match f with | .nx => _ | .rt .non => _ | _ => _)
    cases f with
    | nx => show Wp (match s'.e[(0 : Nat)]? with | some (.own d) => _ | _ => _) Q = _; split <;> simp_all <;> first | rfl | exact fun h => h
    | rt d =>
      cases d with
      | non => show Wp (match s'.e[(0 : Nat)]? with | some (.own d) => _ | _ => _) Q = _; split <;> simp_all <;> first | rfl | exact fun h => h
      | _ => rfl
    | _ => rfl
  | exc x s' => rfl
  | stuck => rfl
@[simp] theorem wp_nMake {g : List D → M D} {m : M (List Loc)} {Q : D → S → Prop} : Wp (nMake g m s) Q = Wp (m s) fun ls s1 => Wp (vals ls s1) fun ds s2 => Wp (callI g ds s2) Q := by
  unfold nMake; (repeat with_reducible refine wp_bndQ fun _ _ => ?_) <;> rfl
@[simp] theorem wp_callI {g : List D → M D} {ds : List D} {Q : D → S → Prop} : Wp (callI g ds ⟨e, t⟩) Q = Wp (g ds ⟨[], t⟩) fun d s' => Q d ⟨e, s'.t⟩ := by
  unfold callI
  cases g ds ⟨[], t⟩ <;> rfl
@[simp] theorem wp_sFldS {c : Nat} {fn : Str} {mv mo : M Loc} {Q : Fl → S → Prop} : Wp (sFldS c fn mv mo s) Q = Wp (mv s) fun lv s1 => Wp (toVal lv s1) fun dv s2 => Wp (mo s2) fun l s3 => Wp (cont l s3) fun d s4 => Wp ((match (match d with | .obj c' fs => if c' = c ∧ fs.length < 1000 then some (D.obj c' (putFD fn dv fs), D.non) else none | _ => none) with
  | some cd => bnd (setc l cd.1) fun _ => ret Fl.nx
  | none => stk) s4) Q := by
  unfold sFldS; (repeat with_reducible refine wp_bndQ fun _ _ => ?_) <;> rfl
end
@[simp] theorem nf1 : (("kept_marks" : Str) = ("kept_ties" : Str)) = False := eq_false (by decide +kernel)
@[simp] theorem nf2 : (("kept_marks" : Str) = ("functions" : Str)) = False := eq_false (by decide +kernel)
@[simp] theorem nf3 : (("kept_ties" : Str) = ("functions" : Str)) = False := eq_false (by decide +kernel)
@[simp] theorem nf4 : (("kept_ties" : Str) = ("kept_marks" : Str)) = False := eq_false (by decide +kernel)
@[simp] theorem nf5 : (("functions" : Str) = ("kept_marks" : Str)) = False := eq_false (by decide +kernel)
@[simp] theorem nf6 : (("functions" : Str) = ("kept_ties" : Str)) = False := eq_false (by decide +kernel)
def tgD (mk ti fu : List Str) : D := .obj 0 [("kept_marks", .tup (mk.map .str)), ("kept_ties", .tup (ti.map .str)), ("functions", .tup (fu.map .str))]
/-- a tongue's parts -/
structure ShOk (mk ti fu : List Str) : Prop where
  mn : ∀ w ∈ mk, NmOk w
  tn : ∀ w ∈ ti, NmOk w
  md : mk.Nodup
  td : ti.Nodup
  ap : ∀ w ∈ ti, w ∉ mk
  m3 : mk.length ≤ 3
  t2 : ti.length ≤ 2
  f1 : fu.length ≤ 1
  fs : ∀ w ∈ fu, w ∈ ti
def shD (mk ti fu : List Str) : D := .tup [.tup (mk.map .str), .tup (ti.map .str), .tup (fu.map .str)]
def shapeD (p : Nat × Nat × Option Nat) : D := match p with
  | (a, b, none) => .tup [.int a, .int b]
  | (a, b, some c) => .tup [.int a, .int b, .int c]
end Mi

namespace Mi
open PySem PySem.Spec PyProof.Rows L2
/-! ### sayings -/
def nm : Bool → Str | false => "x" | true => "y"
@[simp] theorem nm_f : nm false = ("x" : Str) := rfl
@[simp] theorem nm_t : nm true = ("y" : Str) := rfl
inductive Sg where
  | tru | mark (m : Str) (x : Bool) | tie (r : Str) (x y : Bool) | same (x y : Bool) | neg (a : Sg) | bin (o : Bool) (a b : Sg) | qu (q x : Bool) (a : Sg)
def opN : Bool → Str | false => "and" | true => "or"
def quN : Bool → Str | false => "each" | true => "some"
def enc : Sg → D
  | .tru => .tup [.str ("true" : Str)]
  | .mark m x => .tup [.str ("mark" : Str), .str m, .str (nm x)]
  | .tie r x y => .tup [.str ("tie" : Str), .str r, .str (nm x), .str (nm y)]
  | .same x y => .tup [.str ("same" : Str), .str (nm x), .str (nm y)]
  | .neg a => .tup [.str ("not" : Str), enc a]
  | .bin o a b => .tup [.str (opN o), enc a, enc b]
  | .qu q x a => .tup [.str (quN q), .str (nm x), enc a]
def fr : Sg → Bool → Bool
  | .tru, _ => false
  | .mark _ x, z => x == z
  | .tie _ x y, z => x == z || y == z
  | .same x y, z => x == z || y == z
  | .neg a, z => fr a z
  | .bin _ a b, z => fr a z || fr b z
  | .qu _ x a, z => fr a z && !(x == z)
def dep : Sg → Nat
  | .neg a => dep a + 1
  | .bin _ a b => max (dep a) (dep b) + 1
  | .qu _ _ a => dep a + 1
  | _ => 1
def siz : Sg → Nat
  | .neg a => siz a + 1
  | .bin _ a b => siz a + siz b + 1
  | .qu _ _ a => siz a + 1
  | _ => 1
def SgIn (mk ti : List Str) : Sg → Prop
  | .mark m _ => m ∈ mk
  | .tie r _ _ => r ∈ ti
  | .neg a => SgIn mk ti a
  | .bin _ a b => SgIn mk ti a ∧ SgIn mk ti b
  | .qu _ _ a => SgIn mk ti a
  | _ => True
def two (p q : Bool) : List D := (if p then [.str ("x" : Str)] else []) ++ (if q then [.str ("y" : Str)] else [])
@[simp] theorem two_ff : two false false = [] := rfl
@[simp] theorem two_tf : two true false = [.str ("x" : Str)] := rfl
@[simp] theorem two_ft : two false true = [.str ("y" : Str)] := rfl
@[simp] theorem two_tt : two true true = [.str ("x" : Str), .str ("y" : Str)] := rfl
def frL (s : Sg) : List D := two (fr s false) (fr s true)
@[simp] theorem cont_enc {a : Sg} {s : S} {Q : D → S → Prop} : Wp (cont (.val (enc a)) s) Q = Q (enc a) s := by cases a <;> rfl
@[simp] theorem tyN_enc {a : Sg} : tyN (enc a) = some (.inl "tuple") := by cases a <;> rfl
@[simp] theorem isa_tuple_tuple : isa_tuple (.inl "tuple") = some true := by decide
@[simp] theorem isa_tuple_str : isa_tuple (.inl "str") = some false := by decide
@[simp] theorem isa_str_str' : isa_str (.inl "str") = some true := by decide
@[simp] theorem isa_str_tuple : isa_str (.inl "tuple") = some false := by decide
@[simp] theorem in_l0 {n : Bool} {w : Str} : inD n (.str w) (.lst []) = some (.bl n) := by cases n <;> rfl
theorem in_g {n : Bool} {w : Str} (ws : List Str) : inD n (.str w) (.lst (ws.map .str)) = some (.bl (n ^^ decide (w ∈ ws))) := by
  cases n
  · rw [in_strs]; simp
  · rw [notin_strs]; simp
@[simp] theorem in_l1 {n : Bool} {w a : Str} : inD n (.str w) (.lst [.str a]) = some (.bl (n ^^ decide (w = a))) := by have := @in_g n w [a]; simpa using this
@[simp] theorem in_l2 {n : Bool} {w a b : Str} : inD n (.str w) (.lst [.str a, .str b]) = some (.bl (n ^^ decide (w = a ∨ w = b))) := by have := @in_g n w [a, b]; simpa using this
@[simp] theorem in_l3 {n : Bool} {w a b c : Str} : inD n (.str w) (.lst [.str a, .str b, .str c]) = some (.bl (n ^^ decide (w = a ∨ w = b ∨ w = c))) := by have := @in_g n w [a, b, c]; simpa using this
@[simp] theorem in_l4 {n : Bool} {w a b c d : Str} : inD n (.str w) (.lst [.str a, .str b, .str c, .str d]) = some (.bl (n ^^ decide (w = a ∨ w = b ∨ w = c ∨ w = d))) := by have := @in_g n w [a, b, c, d]; simpa using this
theorem in_tl {n : Bool} {w : Str} {ds : List D} : inD n (.str w) (.tup ds) = inD n (.str w) (.lst ds) := rfl
theorem cutD_from {ds : List D} {k : Int} (h : 0 ≤ k) : cutD ds (some k) none = ds.drop k.toNat := by
  unfold cutD HT.sIx
  simp only
  rw [if_neg (by omega)]
  by_cases c : k.toNat ≤ ds.length
  · rw [Nat.min_eq_left c, List.take_of_length_le (by simp)]
  · have e : min k.toNat ds.length = ds.length := by omega
    rw [e, List.drop_length, List.drop_eq_nil_of_le (by omega)]; simp
@[simp] theorem addD_l {xs ys : List D} : addD (.lst xs) (.lst ys) = if xs.length + ys.length ≤ lim then some (.lst (xs ++ ys)) else none := rfl
@[simp] theorem wp_lcL_eq {tt : M Bool} {te : M Loc} {vs : List Nat} {i : Nat} {acc ds : List D} {d : D} {e : List Slot} {t : List D} {Q : D → S → Prop} : Wp (lcL (gN i) tt te vs acc (d :: ds) ⟨e, t⟩) Q =
    (if freeOf e vs = true ∧ i < (wipeE e vs).length then Wp (tt ⟨(wipeE e vs).set i (.val d), t⟩) fun b s2 => if b = true then Wp (te s2) fun l s3 => Wp (toVal l s3) fun d' s4 => if freeOf s4.e vs = true ∧ acc.length < lim then Wp (lcL (gN i) tt te vs (acc ++ [d']) ds ⟨backE e s4.e vs, s4.t⟩) Q else False
      else if freeOf s2.e vs = true then Wp (lcL (gN i) tt te vs acc ds ⟨backE e s2.e vs, s2.t⟩) Q else False else False) := by
  rw [lcL]
  show Wp (if freeOf e vs = true then _ else _) Q = _
  by_cases h1 : freeOf e vs = true
  · rw [if_pos h1]
    by_cases h2 : i < (wipeE e vs).length
    · rw [if_pos ⟨h1, h2⟩]
      have e2 : gN i d ⟨wipeE e vs, t⟩ = some ⟨(wipeE e vs).set i (.val d), t⟩ := if_pos h2
      simp only [e2]
      cases tt ⟨(wipeE e vs).set i (.val d), t⟩ with
      | ok b s2 =>
        cases b with
        | true =>
          show Wp (match (te s2).bind toVal with | .ok d s3 => _ | _ => _) Q = Wp (te s2) _
          cases te s2 with
          | ok l s3 =>
            show Wp (match toVal l s3 with | .ok d s3 => _ | _ => _) Q = Wp (toVal l s3) _
            cases toVal l s3 with
            | ok d' s4 =>
              show Wp (if _ then _ else _) Q = if _ then _ else _
              split <;> rfl
            | exc x s => rfl
            | stuck => rfl
          | exc x s => rfl
          | stuck => rfl
        | false =>
          show Wp (if _ then _ else _) Q = if _ then _ else _
          split <;> rfl
      | exc x s => rfl
      | stuck => rfl
    · rw [if_neg (fun z => h2 z.2)]
      have e2 : gN i d ⟨wipeE e vs, t⟩ = none := if_neg h2
      simp only [e2]
      rfl
  · rw [if_neg h1, if_neg (fun z => h1 z.1)]; rfl
end Mi

namespace Mi
open PySem PySem.Spec PyProof.Rows L2
variable {R : List D}
def nmD (bs : List Bool) : List D := bs.map fun b => .str (nm b)
theorem nm_at {bs : List Bool} {d : Int} (h0 : 0 ≤ d) (h : d < bs.length) : ∃ b, atI (nmD bs) d = some (.str (nm b)) ∧ b ∈ bs := by
  obtain ⟨x, e, m⟩ := atI_int (xs := nmD bs) h0 (by simpa [nmD] using h)
  obtain ⟨b, hb, rfl⟩ := List.mem_map.mp m
  exact ⟨b, e, hb⟩
@[simp] theorem nmD_len {bs : List Bool} : (nmD bs).length = bs.length := by simp [nmD]
theorem str_at {ws : List Str} {d : Int} (h0 : 0 ≤ d) (h : d < ws.length) : ∃ w, atI (ws.map D.str) d = some (.str w) ∧ w ∈ ws := by
  obtain ⟨x, e, m⟩ := atI_int (xs := ws.map D.str) h0 (by simpa using h)
  obtain ⟨b, hb, rfl⟩ := List.mem_map.mp m
  exact ⟨b, e, hb⟩
/-- what a drawn saying is -/
structure SgOk (mk ti : List Str) (F : List Bool) (z d : Nat) (s : Sg) : Prop where
  inn : SgIn mk ti s
  sz : siz s ≤ z
  dp : dep s ≤ d
  fv : ∀ x, fr s x = true → x ∈ F
end Mi

namespace Mi
open PySem PySem.Spec PyProof.Rows L2
variable {R : List D}
theorem SgOk.mono {mk ti : List Str} {F F' : List Bool} {z d z' d' : Nat} {s : Sg} (h : SgOk mk ti F z d s) (hz : z ≤ z') (hd : d ≤ d') (hF : ∀ x, x ∈ F → x ∈ F' := by first | exact fun _ h => h | (intro x hx; simp at hx ⊢ <;> grind)) : SgOk mk ti F' z' d' s := ⟨h.inn, Nat.le_trans h.sz hz, Nat.le_trans h.dp hd, fun x hx => hF x (h.fv x hx)⟩
theorem SgOk.neg {mk ti : List Str} {F : List Bool} {z d : Nat} {s : Sg} (h : SgOk mk ti F z d s) : SgOk mk ti F (z + 1) (d + 1) (.neg s) := ⟨h.inn, Nat.succ_le_succ h.sz, Nat.succ_le_succ h.dp, h.fv⟩
theorem SgOk.qu {mk ti : List Str} {F : List Bool} {z d : Nat} {s : Sg} (h : SgOk mk ti F z d s) (q x : Bool) : SgOk mk ti (F.filter fun y => !(x == y)) (z + 1) (d + 1) (.qu q x s) := ⟨h.inn, Nat.succ_le_succ h.sz, Nat.succ_le_succ h.dp, fun y hy => by
  simp only [fr, Bool.and_eq_true] at hy
  exact List.mem_filter.mpr ⟨h.fv y hy.1, hy.2⟩⟩
theorem SgOk.bin {mk ti : List Str} {F F' : List Bool} {z d z' d' : Nat} {s s' : Sg} (h : SgOk mk ti F z d s) (h' : SgOk mk ti F' z' d' s') (o : Bool) : SgOk mk ti (F ++ F') (z + z' + 1) (max d d' + 1) (.bin o s s') :=
  ⟨⟨h.inn, h'.inn⟩, by have := h.sz; have := h'.sz; simp only [siz]; omega, by have := h.dp; have := h'.dp; simp only [dep]; omega, fun x hx => by
    simp only [fr, Bool.or_eq_true] at hx
    exact List.mem_append.mpr (hx.imp (h.fv x) (h'.fv x))⟩
@[simp] theorem eqD_nm {b : Bool} : eqD false (.str (nm b)) (.str ("x" : Str)) = some (.bl (!b)) := by cases b <;> simp [eqD_s]
@[simp] theorem at_other {b : Bool} : atI ([.str ("x" : Str), .str ("y" : Str)] : List D) (if b = false then 1 else 0) = some (.str (nm (!b))) := by cases b <;> simp
theorem op_at {d : Int} (h0 : 0 ≤ d) (h1 : d < 2) : ∃ o, atI ([.str ("and" : Str), .str ("or" : Str)] : List D) d = some (.str (opN o)) := by
  have : d = 0 ∨ d = 1 := by omega
  rcases this with e | e <;> subst e
  · exact ⟨false, by simp [opN]⟩
  · exact ⟨true, by simp [opN]⟩
theorem xy_at {d : Int} (h0 : 0 ≤ d) (h1 : d < 2) : ∃ o, atI ([.str ("x" : Str), .str ("y" : Str)] : List D) d = some (.str (nm o)) := by
  have : d = 0 ∨ d = 1 := by omega
  rcases this with e | e <;> subst e
  · exact ⟨false, by simp⟩
  · exact ⟨true, by simp⟩
end Mi

namespace Mi
open PySem PySem.Spec PyProof.Rows L2
variable {R : List D}
end Mi

namespace Mi
open PySem PySem.Spec PyProof.Rows L2
@[simp] theorem dic_nil : D.dic [] = dk [] := rfl
@[simp] theorem set_dkb {w : Str} {ws : List Str} : setD (dk ws) (.str w) (.bl true) = if ws.length < lim then some (dk (addW ws w)) else none := by
  split
  · exact set_dk (by assumption)
  · show (if _ < lim then _ else _) = _
    rename_i h
    rw [if_neg (by rw [List.length_map]; exact h)]
end Mi

namespace Mi
open PySem PySem.Spec PyProof.Rows L2
def kids : Sg → List Sg
  | .neg a => [a]
  | .bin _ a b => [a, b]
  | .qu _ _ a => [a]
  | _ => []
@[simp] theorem cont_tg {mk ti fu : List Str} {s : S} {Q : D → S → Prop} : Wp (cont (.val (tgD mk ti fu)) s) Q = Q (tgD mk ti fu) s := rfl
@[simp] theorem cls_tg {mk ti fu : List Str} {s : S} : isCls 0 (tgD mk ti fu) s = true := rfl
@[simp] theorem fld_mk {mk ti fu : List Str} : fldD 0 ("kept_marks" : Str) (tgD mk ti fu) = some (.tup (mk.map .str)) := by simp [tgD, fldD]
@[simp] theorem fld_ti {mk ti fu : List Str} : fldD 0 ("kept_ties" : Str) (tgD mk ti fu) = some (.tup (ti.map .str)) := by
  have e : (("kept_ties" : Str) == ("kept_marks" : Str)) = false := by decide +kernel
  simp [tgD, fldD, List.lookup, e]
@[simp] theorem marks_ok {mk ti fu : List Str} {t : List D} {Q : D → S → Prop} : Wp (g_Tongue_marks [tgD mk ti fu] ⟨[], t⟩) Q = Q (.tup (mk.map .str)) ⟨[], t⟩ := by
  simp [g_Tongue_marks, b_Tongue_marks]
@[simp] theorem ties_ok {mk ti fu : List Str} {t : List D} {Q : D → S → Prop} : Wp (g_Tongue_ties [tgD mk ti fu] ⟨[], t⟩) Q = Q (.tup (ti.map .str)) ⟨[], t⟩ := by
  simp [g_Tongue_ties, b_Tongue_ties]
@[simp] theorem key_ok' {w : Str} {ws : List Str} {t : List D} {Q : D → S → Prop} : Wp (g_is_key [.str w, .tup (ws.map .str)] ⟨[], t⟩) Q = Q (.bl (decide (w ∈ ws))) ⟨[], t⟩ := key_ok
end Mi

namespace Mi
open PySem PySem.Spec PyProof.Rows L2
def stD (p : Sg × Nat) : D := .tup [enc p.1, .int p.2]
def szs (l : List (Sg × Nat)) : Nat := (l.map fun p => siz p.1).sum
theorem siz_pos (s : Sg) : 1 ≤ siz s := by cases s <;> simp [siz]
theorem szs_app (a b : List (Sg × Nat)) : szs (a ++ b) = szs a + szs b := by simp [szs]
theorem szs_kids (s : Sg) (d : Nat) : szs ((kids s).map fun x => (x, d)) + 1 = siz s := by
  cases s <;> simp [kids, szs, siz] <;> omega
theorem dep_kids {s x : Sg} (h : x ∈ kids s) : dep x + 1 ≤ dep s := by
  cases s with
  | neg a => simp only [kids, List.mem_singleton] at h; subst h; simp [dep]
  | qu q y a => simp only [kids, List.mem_singleton] at h; subst h; simp [dep]
  | bin o a b =>
    simp only [kids, List.mem_cons, List.not_mem_nil, or_false] at h
    rcases h with h | h <;> subst h <;> simp only [dep] <;> omega
  | _ => simp [kids] at h
theorem in_kids {mk ti : List Str} {s x : Sg} (hi : SgIn mk ti s) (h : x ∈ kids s) : SgIn mk ti x := by
  cases s with
  | neg a => simp only [kids, List.mem_singleton] at h; subst h; exact hi
  | qu q y a => simp only [kids, List.mem_singleton] at h; subst h; exact hi
  | bin o a b =>
    simp only [kids, List.mem_cons, List.not_mem_nil, or_false] at h
    rcases h with h | h <;> subst h
    · exact hi.1
    · exact hi.2
  | _ => simp [kids] at h
theorem szs_len : ∀ l : List (Sg × Nat), l.length ≤ szs l
  | [] => Nat.le_refl _
  | p :: l => by
    have := szs_len l
    have := siz_pos p.1
    simp only [szs, List.map_cons, List.sum_cons, List.length_cons] at *
    omega
end Mi

/-! the rules of runs for runs that may raise -/
namespace Mi
open PySem PySem.Spec PyProof.Rows L2
def Wx {α : Type} (XP : Xn → S → Prop) (r : Res α) (Q : α → S → Prop) (_ : Tg Q := .mk) : Prop := match r with
  | .ok a s => Q a s
  | .exc x s => XP x s
  | .stuck => False
def nxtX (XP : Xn → S → Prop) (Q : Fl → S → Prop) (b : M Fl) : Fl → S → Prop := fun f s1 => match f with
  | .nx => Wx XP (b s1) Q
  | f => Q f s1
def nxtXF (XP : Xn → S → Prop) (Q : Fl → S → Prop) (b : M Fl) : Fl → S → Prop := fun f s1 => match f with
  | .nx => Wx XP (b s1) Q
  | .ct => Wx XP (b s1) Q
  | .bk => Q .nx s1
  | .rt d => Q (.rt d) s1
section
variable {XP : Xn → S → Prop} {α β : Type} {s : S} {e : List Slot} {t : List D} {i : Nat} {d : D}
@[simp] theorem wx_ok {a : α} {Q : α → S → Prop} : Wx XP (.ok a s) Q = Q a s := rfl
@[simp] theorem wx_ret {a : α} {Q : α → S → Prop} : Wx XP (ret a s) Q = Q a s := rfl
@[simp] theorem wx_bnd {m : M α} {f : α → M β} {Q : β → S → Prop} : Wx XP (bnd m f s) Q = Wx XP (m s) fun a s1 => Wx XP (f a s1) Q := by
  unfold bnd Res.bind
  cases m s <;> rfl
theorem wx_bndQ {m : M α} {f : α → M β} {Q : β → S → Prop} {Q' : α → S → Prop} (h : ∀ a s1, Wx XP (f a s1) Q = Q' a s1) : Wx XP (bnd m f s) Q = Wx XP (m s) Q' := by
  rw [wx_bnd]
  have : (fun a s1 => Wx XP (f a s1) Q) = Q' := by funext a s1; exact h a s1
  rw [this]
@[simp] theorem wx_opt {d : D} {Q : Loc → S → Prop} : Wx XP (opt (some d) s) Q = Q (.val d) s := rfl
@[simp] theorem wx_op2 {f : D → D → Option D} {ma mb : M Loc} {Q : Loc → S → Prop} : Wx XP (op2 f ma mb s) Q = Wx XP (ma s) fun x s1 => Wx XP (mb s1) fun y s2 => Wx XP (cont x s2) fun dx s3 => Wx XP (cont y s3) fun dy s4 => Wx XP (opt (f dx dy) s4) Q := by
  unfold op2; (repeat with_reducible refine wx_bndQ fun _ _ => ?_) <;> rfl
@[simp] theorem wx_op1 {f : D → Option D} {ma : M Loc} {Q : Loc → S → Prop} : Wx XP (op1 f ma s) Q = Wx XP (ma s) fun x s1 => Wx XP (cont x s1) fun dx s3 => Wx XP (opt (f dx) s3) Q := by
  unfold op1; (repeat with_reducible refine wx_bndQ fun _ _ => ?_) <;> rfl
@[simp] theorem wx_opC {f : List D → Option D} {ma : M (List Loc)} {Q : Loc → S → Prop} : Wx XP (opC f ma s) Q = Wx XP (ma s) fun x s1 => Wx XP (conts x s1) fun dx s3 => Wx XP (opt (f dx) s3) Q := by
  unfold opC; (repeat with_reducible refine wx_bndQ fun _ _ => ?_) <;> rfl
@[simp] theorem wx_aNil {Q : List Loc → S → Prop} : Wx XP (aNil s) Q = Q [] s := rfl
@[simp] theorem wx_aCons {m : M Loc} {ms : M (List Loc)} {Q : List Loc → S → Prop} : Wx XP (aCons m ms s) Q = Wx XP (m s) fun x s1 => Wx XP (ms s1) fun xs s2 => Q (x :: xs) s2 := by
  unfold aCons; (repeat with_reducible refine wx_bndQ fun _ _ => ?_) <;> rfl
@[simp] theorem wx_conts_nil {Q : List D → S → Prop} : Wx XP (conts [] s) Q = Q [] s := rfl
@[simp] theorem wx_conts_cons {l : Loc} {ls : List Loc} {Q : List D → S → Prop} : Wx XP (conts (l :: ls) s) Q = Wx XP (cont l s) fun d s1 => Wx XP (conts ls s1) fun ds s2 => Q (d :: ds) s2 := by
  rw [conts]; (repeat with_reducible refine wx_bndQ fun _ _ => ?_) <;> rfl
@[simp] theorem wx_vals_nil {Q : List D → S → Prop} : Wx XP (vals [] s) Q = Q [] s := rfl
@[simp] theorem wx_vals_cons {l : Loc} {ls : List Loc} {Q : List D → S → Prop} : Wx XP (vals (l :: ls) s) Q = Wx XP (toVal l s) fun d s1 => Wx XP (vals ls s1) fun ds s2 => Q (d :: ds) s2 := by
  rw [vals]; (repeat with_reducible refine wx_bndQ fun _ _ => ?_) <;> rfl
@[simp] theorem wx_toVal {Q : D → S → Prop} : Wx XP (toVal (.val d) s) Q = Q d s := by
  unfold toVal; rfl
@[simp] theorem wx_toOwn {Q : D → S → Prop} : Wx XP (toVal (.own i) ⟨e, t⟩) Q = Wx XP (match e[i]? with | some (.own d) => .ok d ⟨e.set i (.val d), t⟩ | some (.val d) => .ok d ⟨e, t⟩ | _ => .stuck) Q := rfl
@[simp] theorem wx_contOwn {Q : D → S → Prop} : Wx XP (cont (.own i) ⟨e, t⟩) Q = Wx XP (match e[i]? with | some (.own d) => .ok d ⟨e, t⟩ | _ => .stuck) Q := rfl
@[simp] theorem wx_contPtr {Q : D → S → Prop} : Wx XP (cont (.val (.ptr i)) ⟨e, t⟩) Q = Wx XP (match t[i]? with | some d => .ok d ⟨e, t⟩ | none => .stuck) Q := rfl
theorem wx_cont {Q : D → S → Prop} (h : noPtr d = true) : Wx XP (cont (.val d) s) Q = Q d s := by
  cases d <;> first | rfl | cases h
@[simp] theorem wx_contInt {k : Int} {Q : D → S → Prop} : Wx XP (cont (.val (.int k)) s) Q = Q (.int k) s := rfl
@[simp] theorem wx_contStr {k : Str} {Q : D → S → Prop} : Wx XP (cont (.val (.str k)) s) Q = Q (.str k) s := rfl
@[simp] theorem wx_contBl {k : Bool} {Q : D → S → Prop} : Wx XP (cont (.val (.bl k)) s) Q = Q (.bl k) s := rfl
@[simp] theorem wx_contNon {Q : D → S → Prop} : Wx XP (cont (.val .non) s) Q = Q .non s := rfl
@[simp] theorem wx_contTup {k : List D} {Q : D → S → Prop} : Wx XP (cont (.val (.tup k)) s) Q = Q (.tup k) s := rfl
@[simp] theorem wx_contLst {k : List D} {Q : D → S → Prop} : Wx XP (cont (.val (.lst k)) s) Q = Q (.lst k) s := rfl
@[simp] theorem wx_contLck {k : List D} {Q : D → S → Prop} : Wx XP (cont (.val (.lck k)) s) Q = Q (.lck k) s := rfl
@[simp] theorem wx_contDic {k} {Q : D → S → Prop} : Wx XP (cont (.val (.dic k)) s) Q = Q (.dic k) s := rfl
@[simp] theorem wx_contObj {k c} {Q : D → S → Prop} : Wx XP (cont (.val (.obj c k)) s) Q = Q (.obj c k) s := rfl
@[simp] theorem wx_vr {Q : Loc → S → Prop} : Wx XP (vr i ⟨e, t⟩) Q = Wx XP (match e[i]? with | some (.val d) => .ok (.val d) ⟨e, t⟩ | some (.own _) => .ok (.own i) ⟨e, t⟩ | _ => .stuck) Q := rfl
@[simp] theorem wx_kk {Q : Loc → S → Prop} : Wx XP (kk d s) Q = Q (.val d) s := rfl
@[simp] theorem wx_tst {m : M Loc} {Q : Bool → S → Prop} : Wx XP (tst m s) Q = Wx XP (m s) fun x s1 => Wx XP (cont x s1) fun d s2 => Wx XP (match truD d with | some b => .ok b s2 | none => .stuck) Q := by
  unfold tst; (repeat with_reducible refine wx_bndQ fun _ _ => ?_) <;> rfl
@[simp] theorem wx_tstB {m : M Loc} {Q : Bool → S → Prop} : Wx XP (tstB m s) Q = Wx XP (m s) fun x s1 => Wx XP (match x with | .val (.bl b) => .ok b s1 | _ => .stuck) Q := by
  unfold tstB; (repeat with_reducible refine wx_bndQ fun _ _ => ?_) <;> rfl
@[simp] theorem wx_chn {f g : D → D → Option D} {ma mb mc : M Loc} {Q : Loc → S → Prop} : Wx XP (chn f g ma mb mc s) Q = Wx XP (ma s) fun x s1 => Wx XP (mb s1) fun y s2 => Wx XP (cont x s2) fun dx s3 => Wx XP (cont y s3) fun dy s4 => Wx XP (match f dx dy with
  | some (.bl true) => op2 g (ret y) mc s4
  | some (.bl false) => .ok (.val (.bl false)) s4
  | _ => .stuck) Q := by
  unfold chn; (repeat with_reducible refine wx_bndQ fun _ _ => ?_) <;> rfl
@[simp] theorem wx_mAnd {a b : M Bool} {Q : Bool → S → Prop} : Wx XP (mAnd a b s) Q = Wx XP (a s) fun k s1 => Wx XP ((if k = true then b else ret false) s1) Q := by unfold mAnd; (repeat with_reducible refine wx_bndQ fun _ _ => ?_) <;> rfl
@[simp] theorem wx_mOr {a b : M Bool} {Q : Bool → S → Prop} : Wx XP (mOr a b s) Q = Wx XP (a s) fun k s1 => Wx XP ((if k = true then ret true else b) s1) Q := by unfold mOr; (repeat with_reducible refine wx_bndQ fun _ _ => ?_) <;> rfl
@[simp] theorem wx_mNot {a : M Bool} {Q : Bool → S → Prop} : Wx XP (mNot a s) Q = Wx XP (a s) fun k s1 => Q (!k) s1 := by unfold mNot; (repeat with_reducible refine wx_bndQ fun _ _ => ?_) <;> rfl
@[simp] theorem wx_eAnd {a b : M Loc} {Q : Loc → S → Prop} : Wx XP (eAnd a b s) Q = Wx XP (a s) fun x s1 => Wx XP (match x with | .val (.bl true) => b s1 | .val (.bl false) => .ok (.val (.bl false)) s1 | _ => .stuck) Q := by unfold eAnd; (repeat with_reducible refine wx_bndQ fun _ _ => ?_) <;> rfl
@[simp] theorem wx_eOr {a b : M Loc} {Q : Loc → S → Prop} : Wx XP (eOr a b s) Q = Wx XP (a s) fun x s1 => Wx XP (match x with | .val (.bl false) => b s1 | .val (.bl true) => .ok (.val (.bl true)) s1 | _ => .stuck) Q := by unfold eOr; (repeat with_reducible refine wx_bndQ fun _ _ => ?_) <;> rfl
@[simp] theorem wx_eNot {a : M Loc} {Q : Loc → S → Prop} : Wx XP (eNot a s) Q = Wx XP (a s) fun x s1 => Wx XP (match x with | .val (.bl k) => .ok (.val (.bl (!k))) s1 | _ => .stuck) Q := by unfold eNot; (repeat with_reducible refine wx_bndQ fun _ _ => ?_) <;> rfl
@[simp] theorem wx_eIf {c : M Bool} {a b : M Loc} {Q : Loc → S → Prop} : Wx XP (eIf c a b s) Q = Wx XP (c s) fun k s1 => Wx XP ((if k = true then a else b) s1) Q := by unfold eIf; (repeat with_reducible refine wx_bndQ fun _ _ => ?_) <;> rfl
@[simp] theorem wx_eTup {m : M (List Loc)} {Q : Loc → S → Prop} : Wx XP (eTup m s) Q = Wx XP (m s) fun ls s1 => Wx XP (vals ls s1) fun ds s2 => Wx XP (if ds.length ≤ lim then .ok (.val (.tup ds)) s2 else .stuck) Q := by unfold eTup; (repeat with_reducible refine wx_bndQ fun _ _ => ?_) <;> rfl
@[simp] theorem wx_nLst {m : M (List Loc)} {Q : D → S → Prop} : Wx XP (nLst m s) Q = Wx XP (m s) fun ls s1 => Wx XP (vals ls s1) fun ds s2 => Wx XP (if ds.length ≤ lim then .ok (.lst ds) s2 else .stuck) Q := by unfold nLst; (repeat with_reducible refine wx_bndQ fun _ _ => ?_) <;> rfl
@[simp] theorem wx_eFrz {m : M D} {Q : Loc → S → Prop} : Wx XP (eFrz m s) Q = Wx XP (m s) fun d s1 => Q (.val d) s1 := by unfold eFrz; (repeat with_reducible refine wx_bndQ fun _ _ => ?_) <;> rfl
@[simp] theorem wx_ePtr {m : M D} {Q : Loc → S → Prop} : Wx XP (ePtr m s) Q = Wx XP (m s) fun d s1 => Q (.val (.ptr s1.t.length)) ⟨s1.e, s1.t ++ [d]⟩ := by unfold ePtr; (repeat with_reducible refine wx_bndQ fun _ _ => ?_) <;> rfl
@[simp] theorem wx_eCall {g : List D → M D} {m : M (List Loc)} {Q : Loc → S → Prop} : Wx XP (eCall g m s) Q = Wx XP (m s) fun ls s1 => Wx XP (vals ls s1) fun ds s2 => Wx XP (callF g ds s2) Q := by unfold eCall; (repeat with_reducible refine wx_bndQ fun _ _ => ?_) <;> rfl
@[simp] theorem wx_eCallK {pm : {α : Type} → List α → List α} {g : List D → M D} {m : M (List Loc)} {Q : Loc → S → Prop} : Wx XP (eCallK pm g m s) Q = Wx XP (m s) fun ls s1 => Wx XP (vals ls s1) fun ds s2 => Wx XP (callF g (pm ds) s2) Q := by unfold eCallK; (repeat with_reducible refine wx_bndQ fun _ _ => ?_) <;> rfl
@[simp] theorem wx_eSl {m : M Loc} {ml mh : M (Option Int)} {Q : Loc → S → Prop} : Wx XP (eSl m ml mh s) Q = Wx XP (m s) fun l s1 => Wx XP (ml s1) fun lo s2 => Wx XP (mh s2) fun hi s3 => Wx XP (cont l s3) fun c s4 => Wx XP (opt (slD lo hi c) s4) Q := by unfold eSl; (repeat with_reducible refine wx_bndQ fun _ _ => ?_) <;> rfl
@[simp] theorem wx_pNo {Q : Option Int → S → Prop} : Wx XP (pNo s) Q = Q none s := rfl
@[simp] theorem wx_pSo {m : M Loc} {Q : Option Int → S → Prop} : Wx XP (pSo m s) Q = Wx XP (m s) fun l s1 => Wx XP (match l with | .val (.int i) => .ok (some i) s1 | _ => .stuck) Q := by unfold pSo; (repeat with_reducible refine wx_bndQ fun _ _ => ?_) <;> rfl
@[simp] theorem wx_eMe {kd : D → Bool} {f : D → List D → Option D} {mo : M Loc} {ma : M (List Loc)} {Q : Loc → S → Prop} : Wx XP (eMe kd f mo ma s) Q = Wx XP (mo s) fun l s1 => Wx XP (cont l s1) fun c0 s2 => Wx XP ((if kd c0 = true then bnd ma fun ls => bnd (cont l) fun c => bnd (conts ls) fun ds => opt (f c ds) else stk) s2) Q := by unfold eMe; (repeat with_reducible refine wx_bndQ fun _ _ => ?_) <;> rfl
@[simp] theorem wx_eIsi {isa : String ⊕ Nat → Option Bool} {m : M Loc} {Q : Loc → S → Prop} : Wx XP (eIsi isa m s) Q = Wx XP (m s) fun x s1 => Wx XP (cont x s1) fun dx s3 => Wx XP (opt (match tyN dx with | some k => (isa k).map .bl | none => none) s3) Q := by unfold eIsi; exact wx_op1
@[simp] theorem wx_eFld {c : Nat} {fn : Str} {m : M Loc} {Q : Loc → S → Prop} : Wx XP (eFld c fn m s) Q = Wx XP (m s) fun x s1 => Wx XP (cont x s1) fun dx s3 => Wx XP (opt (fldD c fn dx) s3) Q := by unfold eFld; exact wx_op1
@[simp] theorem wx_eInW {neg : Bool} {ws : List Str} {m : M Loc} {Q : Loc → S → Prop} : Wx XP (eInW neg ws m s) Q = Wx XP (m s) fun x s1 => Wx XP (cont x s1) fun dx s3 => Wx XP (opt (inWD neg ws dx) s3) Q := by unfold eInW; (repeat with_reducible refine wx_bndQ fun _ _ => ?_) <;> rfl
@[simp] theorem wx_eProp {c : Nat} {g : List D → M D} {m : M Loc} {Q : Loc → S → Prop} : Wx XP (eProp c g m s) Q = Wx XP (m s) fun l s1 => Wx XP (toVal l s1) fun d s2 => Wx XP (if isCls c d s2 = true then callP g [d] s2 else .stuck) Q := by unfold eProp; (repeat with_reducible refine wx_bndQ fun _ _ => ?_) <;> rfl
@[simp] theorem wx_sSeq {a b : M Fl} {Q : Fl → S → Prop} : Wx XP (sSeq a b s) Q = Wx XP (a s) (nxtX XP Q b) := by
  unfold sSeq
  refine wx_bndQ fun f s1 => ?_
  cases f <;> rfl
@[simp] theorem wx_sNx {Q : Fl → S → Prop} : Wx XP (sNx s) Q = Q .nx s := rfl
@[simp] theorem wx_sExpr {m : M Loc} {Q : Fl → S → Prop} : Wx XP (sExpr m s) Q = Wx XP (m s) fun _ s1 => Q .nx s1 := by unfold sExpr; (repeat with_reducible refine wx_bndQ fun _ _ => ?_) <;> rfl
@[simp] theorem wx_sRet {m : M Loc} {Q : Fl → S → Prop} : Wx XP (sRet m s) Q = Wx XP (m s) fun l s1 => Wx XP (toVal l s1) fun d s2 => Q (.rt d) s2 := by unfold sRet; (repeat with_reducible refine wx_bndQ fun _ _ => ?_) <;> rfl
@[simp] theorem wx_sIf {c : M Bool} {a b : M Fl} {Q : Fl → S → Prop} : Wx XP (sIf c a b s) Q = Wx XP (c s) fun k s1 => Wx XP ((if k = true then a else b) s1) Q := by unfold sIf; (repeat with_reducible refine wx_bndQ fun _ _ => ?_) <;> rfl
@[simp] theorem wx_ifM {α : Type} {p : Prop} [Decidable p] {a b : M α} {Q : α → S → Prop} : Wx XP ((if p then a else b) s) Q = if p then Wx XP (a s) Q else Wx XP (b s) Q := by split <;> rfl
@[simp] theorem wx_if {α : Type} {p : Prop} [Decidable p] {a b : Res α} {Q : α → S → Prop} : Wx XP (if p then a else b) Q = if p then Wx XP a Q else Wx XP b Q := by split <;> rfl
@[simp] theorem wx_sAsgN {m : M Loc} {Q : Fl → S → Prop} : Wx XP (sAsg (gN i) m s) Q = Wx XP (m s) fun l s1 => Wx XP (toVal l s1) fun d s2 => if i < s2.e.length then Q .nx ⟨s2.e.set i (.val d), s2.t⟩ else False := by
  unfold sAsg gN
  refine wx_bndQ fun l s1 => wx_bndQ fun d s2 => ?_
  by_cases h : i < s2.e.length
  · simp only [if_pos h]; rfl
  · simp only [if_neg h]; rfl
theorem wx_sAsg {a : TgF} {m : M Loc} {Q : Fl → S → Prop} : Wx XP (sAsg a m s) Q = Wx XP (m s) fun l s1 => Wx XP (toVal l s1) fun d s2 => Wx XP (match a d s2 with | some s' => .ok .nx s' | none => .stuck) Q := by
  unfold sAsg; (repeat with_reducible refine wx_bndQ fun _ _ => ?_) <;> rfl
@[simp] theorem wx_sAsgT {b : List D → S → Option S} {n : Nat} {m : M Loc} {Q : Fl → S → Prop} : Wx XP (sAsg (gT b n) m s) Q = Wx XP (m s) fun l s1 => Wx XP (toVal l s1) fun d s2 => Wx XP (match gT b n d s2 with | some s' => .ok .nx s' | none => .stuck) Q := wx_sAsg
@[simp] theorem wx_sAug {f : D → D → Option D} {m : M Loc} {Q : Fl → S → Prop} : Wx XP (sAug i f m s) Q = Wx XP (vr i s) fun l0 s1 => Wx XP (toVal l0 s1) fun d0 s2 => Wx XP (m s2) fun l s3 => Wx XP (cont l s3) fun d s4 => Wx XP (opt (f d0 d) s4) fun l2 s5 => Wx XP (toVal l2 s5) fun d2 s6 => Wx XP (match gN i d2 s6 with | some s' => .ok .nx s' | none => .stuck) Q := by
  unfold sAug; (repeat with_reducible refine wx_bndQ fun _ _ => ?_) <;> rfl
@[simp] theorem wx_sOwn {m : M D} {Q : Fl → S → Prop} : Wx XP (sOwn i m s) Q = Wx XP (m s) fun d s2 => if i < s2.e.length then Q .nx ⟨s2.e.set i (.own d), s2.t⟩ else False := by
  unfold sOwn
  refine wx_bndQ fun d s2 => ?_
  show Wx XP (if _ then _ else _) Q = _
  split <;> rfl
@[simp] theorem wx_sSub {f : D → D → D → Option D} {mv mo mi : M Loc} {Q : Fl → S → Prop} : Wx XP (sSub f mv mo mi s) Q = Wx XP (mv s) fun lv s1 => Wx XP (toVal lv s1) fun dv s2 => Wx XP (mo s2) fun l s3 => Wx XP (mi s3) fun li s4 => Wx XP (cont li s4) fun di s5 => Wx XP (cont l s5) fun c s6 => Wx XP ((match f c di dv with | some c' => bnd (setc l c') fun _ => ret Fl.nx | none => stk) s6) Q := by
  unfold sSub; (repeat with_reducible refine wx_bndQ fun _ _ => ?_) <;> rfl
@[simp] theorem wx_setcOwn {Q : Unit → S → Prop} : Wx XP (setc (.own i) d ⟨e, t⟩) Q = Wx XP (match e[i]? with | some (.own _) => .ok () ⟨e.set i (.own d), t⟩ | _ => .stuck) Q := rfl
@[simp] theorem wx_setcPtr {Q : Unit → S → Prop} : Wx XP (setc (.val (.ptr i)) d ⟨e, t⟩) Q = Wx XP (if i < t.length then .ok () ⟨e, t.set i d⟩ else .stuck) Q := rfl
@[simp] theorem wx_eMuG {kd : D → Bool} {f : D → List D → Option (D × D)} {mo : M Loc} {ma : M (List Loc)} {Q : Loc → S → Prop} : Wx XP (eMu kd f mo ma s) Q = Wx XP (mo s) fun l s1 => Wx XP (cont l s1) fun c0 s2 => Wx XP ((if kd c0 = true then bnd ma fun ls => bnd (vals ls) fun ds => bnd (cont l) fun c => match f c ds with
  | some cd => bnd (setc l cd.1) fun _ => ret (.val cd.2)
  | none => stk else stk) s2) Q := by
  unfold eMu
  refine wx_bndQ fun l s1 => wx_bndQ fun c0 s2 => ?_
  congr 3
@[simp] theorem wx_runB {n : Nat} {b : M Fl} {ds : List D} {Q : D → S → Prop} : Wx XP (runB n b ds s) Q = Wx (fun x s' => XP x ⟨[], s'.t⟩) (b ⟨ds.map .val ++ List.replicate (n - ds.length) .no, s.t⟩) fun f s' => match f with | .rt d => Q d ⟨[], s'.t⟩ | .nx => Q .non ⟨[], s'.t⟩ | _ => False := by
  unfold runB
  cases b ⟨ds.map .val ++ List.replicate (n - ds.length) .no, s.t⟩ with
  | ok f s' => cases f <;> rfl
  | exc x s' => rfl
  | stuck => rfl
theorem wx_forSeq {tg : TgF} {body : M Fl} {d : D} {ds : List D} {Q : Fl → S → Prop} (hs : seqOf d = some ds) (hp : noPtr d = true) (hl : ds.length < lim) : Wx XP (forF (.seq d) tg body lim 0 s) Q = Wx XP (forL tg body ds s) Q := by
  rw [forF_at hs hp lim 0 s (by omega) (by omega), List.drop_zero]
@[simp] theorem wx_forL_nil {tg : TgF} {body : M Fl} {Q : Fl → S → Prop} : Wx XP (forL tg body [] s) Q = Q .nx s := rfl
@[simp] theorem nxtXF_nx {Q : Fl → S → Prop} {b : M Fl} : nxtXF XP Q b .nx s = Wx XP (b s) Q := rfl
@[simp] theorem nxtXF_ct {Q : Fl → S → Prop} {b : M Fl} : nxtXF XP Q b .ct s = Wx XP (b s) Q := rfl
@[simp] theorem wx_aft {r : Res Fl} {k : M Fl} {Q : Fl → S → Prop} : Wx XP (r.bind (aft k)) Q = Wx XP r (nxtXF XP Q k) := by
  cases r with
  | ok f s => cases f <;> rfl
  | exc x s => rfl
  | stuck => rfl
@[simp] theorem wx_forL_cons {body : M Fl} {ds : List D} {Q : Fl → S → Prop} : Wx XP (forL (gN i) body (d :: ds) ⟨e, t⟩) Q = if i < e.length then Wx XP (body ⟨e.set i (.val d), t⟩) (nxtXF XP Q (forL (gN i) body ds)) else False := by
  show Wx XP (match gN i d ⟨e, t⟩ with | none => .stuck | some s' => (body s').bind (aft (forL (gN i) body ds))) Q = _
  unfold gN
  by_cases h : i < e.length
  · simp only [h, if_true]; rw [wx_aft]
  · simp only [h, if_false]; rfl
@[simp] theorem wx_sFor {mi : M Itd} {tg : TgF} {body : M Fl} {Q : Fl → S → Prop} : Wx XP (sFor mi tg body s) Q = Wx XP (mi s) fun I s1 => Wx XP (forF I tg body lim 0 s1) Q := by unfold sFor; (repeat with_reducible refine wx_bndQ fun _ _ => ?_) <;> rfl
@[simp] theorem wx_iSeq {m : M Loc} {Q : Itd → S → Prop} : Wx XP (iSeq m s) Q = Wx XP (m s) fun l s1 => Wx XP (toVal l s1) fun d s2 => Wx XP (match d with
  | .ptr n => match s2.t[n]? with | some (.lst _) => .ok (.seq d) s2 | _ => .stuck
  | _ => match seqOf d with | some _ => .ok (.seq d) s2 | none => .stuck) Q := by unfold iSeq; (repeat with_reducible refine wx_bndQ fun _ _ => ?_) <;> rfl
@[simp] theorem wx_iRng1 {m : M (List Loc)} {Q : Itd → S → Prop} : Wx XP (iRng1 m s) Q = Wx XP (m s) fun ls s1 => Wx XP (match ls with
  | [.val (.int j)] => if -(2 ^ 62) ≤ j ∧ j < 2 ^ 62 then .ok (.rng 0 j.toNat) s1 else .stuck
  | _ => .stuck) Q := by unfold iRng1; (repeat with_reducible refine wx_bndQ fun _ _ => ?_) <;> rfl
@[simp] theorem nxtX_nx {Q : Fl → S → Prop} {b : M Fl} : nxtX XP Q b .nx s = Wx XP (b s) Q := rfl
@[simp] theorem nxtX_rt {Q : Fl → S → Prop} {b : M Fl} {d : D} : nxtX XP Q b (.rt d) s = Q (.rt d) s := rfl
@[simp] theorem nxtX_bk {Q : Fl → S → Prop} {b : M Fl} : nxtX XP Q b .bk s = Q .bk s := rfl
@[simp] theorem nxtX_ct {Q : Fl → S → Prop} {b : M Fl} : nxtX XP Q b .ct s = Q .ct s := rfl
@[simp] theorem wx_callF {g : List D → M D} {ds : List D} {Q : Loc → S → Prop} : Wx XP (callF g ds ⟨e, t⟩) Q = Wx (fun x s' => XP x ⟨e, s'.t⟩) (g ds ⟨[], t⟩) fun d s' => Q (.val d) ⟨e, s'.t⟩ := by
  show Wx XP (match g ds ⟨[], t⟩ with | .ok d s' => .ok (.val d) ⟨e, s'.t⟩ | .exc x s' => .exc x ⟨e, s'.t⟩ | .stuck => .stuck) Q = _
  cases g ds ⟨[], t⟩ <;> rfl
@[simp] theorem wx_forTup {tg : TgF} {body : M Fl} {ds : List D} {Q : Fl → S → Prop} (hl : ds.length < lim) : Wx XP (forF (.seq (.tup ds)) tg body lim 0 s) Q = Wx XP (forL tg body ds s) Q := wx_forSeq rfl rfl hl
@[simp] theorem wx_raise0 {c : Nat} {Q : Fl → S → Prop} : Wx XP (sRaise0 c s) Q = XP ⟨c, none⟩ s := rfl
/-- a run that ends as told -/
theorem wx_of {r : Res α} {a : α} (h : ∀ {Q : α → S → Prop}, Wp r Q = Q a s) {Q : α → S → Prop} : Wx XP r Q = Q a s := by
  have h1 : Wp r fun a' s' => a' = a ∧ s' = s := by rw [h]; exact ⟨rfl, rfl⟩
  obtain ⟨a', s', e, rfl, rfl⟩ := wp_ex.mp h1
  rw [e]; rfl
@[simp] theorem wx_eMeth {c : Nat} {mn : Str} {g : List D → M D} {mo : M Loc} {ma : M (List Loc)} {Q : Loc → S → Prop} : Wx XP (eMeth c mn g mo ma s) Q = Wx XP (mo s) fun l s1 => Wx XP (toVal l s1) fun d s2 => if hasM c mn d s2 = true then Wx XP (ma s2) fun ls s3 => Wx XP (vals ls s3) fun ds s4 => Wx XP (callF g (d :: ds) s4) Q else False := by
  unfold eMeth
  refine wx_bndQ fun l s1 => wx_bndQ fun d s2 => ?_
  show Wx XP (if hasM c mn d s2 = true then (bnd ma fun ls => bnd (vals ls) fun ds => callF g (d :: ds)) s2 else .stuck) Q = _
  by_cases h : hasM c mn d s2 = true
  · rw [if_pos h, if_pos h]; (repeat with_reducible refine wx_bndQ fun _ _ => ?_) <;> rfl
  · rw [if_neg h, if_neg h]; rfl
@[simp] theorem wx_sFldA {c : Nat} {fn : Str} {mo mv : M Loc} {Q : Fl → S → Prop} : Wx XP (sFldA c fn mo mv s) Q = Wx XP (mo s) fun l s1 => Wx XP (cont l s1) fun d s2 => Wx XP ((match fldI c fn d with
  | some i => bnd mv fun lv => bnd (cont lv) fun dv => match dv with
    | .int j => bnd (cont l) fun d2 => match updI c fn (i + j) d2 with
      | some cd => bnd (setc l cd.1) fun _ => ret Fl.nx
      | none => stk
    | _ => stk
  | none => stk) s2) Q := by
  unfold sFldA; (repeat with_reducible refine wx_bndQ fun _ _ => ?_) <;> rfl
@[simp] theorem wx_nMake {g : List D → M D} {m : M (List Loc)} {Q : D → S → Prop} : Wx XP (nMake g m s) Q = Wx XP (m s) fun ls s1 => Wx XP (vals ls s1) fun ds s2 => Wx XP (callI g ds s2) Q := by
  unfold nMake; (repeat with_reducible refine wx_bndQ fun _ _ => ?_) <;> rfl
@[simp] theorem wx_cont_enc {a : Sg} {Q : D → S → Prop} : Wx XP (cont (.val (enc a)) s) Q = Q (enc a) s := by cases a <;> rfl
@[simp] theorem wx_cont_tg {mk ti fu : List Str} {Q : D → S → Prop} : Wx XP (cont (.val (tgD mk ti fu)) s) Q = Q (tgD mk ti fu) s := rfl
/-- a try -/
theorem wp_sTry {ex : Nat → Nat → Option Bool} {m : M Fl} {hs : List (Nat × M Fl)} {Q : Fl → S → Prop} : Wp (sTry ex m hs s) Q = Wx (fun x s' => Wp (runH ex x s' hs) Q) (m s) Q := by
  show Wp (match m s with | .exc x s' => runH ex x s' hs | r => r) Q = _
  cases m s <;> rfl
end
end Mi

namespace Mi
open PySem PySem.Spec PyProof.Rows L2
/-! ### data that can be compared -/
def PyOk (n : Nat) (d : D) : Prop := ∃ p, toPy d = some p ∧ p.canLay0 = true ∧ p.depth ≤ n
theorem PyOk.mono {n m : Nat} {d : D} (h : PyOk n d) (k : n ≤ m) : PyOk m d := let ⟨p, a, b, c⟩ := h; ⟨p, a, b, Nat.le_trans c k⟩
theorem eqD_refl {d : D} (h : PyOk 64 d) {b : Bool} : eqD b d d = some (.bl (b ^^ true)) := by
  obtain ⟨p, e, hl, hd⟩ := h
  unfold eqD
  rw [e]
  simp only
  have sh : SeqAt.shaped p = true := by
    show (p.canLay0 && decide (p.depth ≤ 64)) = true
    rw [hl, decide_eq_true hd]; rfl
  rw [sh, SeqAt.eqv_refl _ hl]
  rfl
theorem pyok_int {n : Nat} {i : Int} : PyOk n (.int i) := ⟨_, rfl, rfl, by simp [PyData.depth]⟩
theorem pyok_bl {n : Nat} {i : Bool} : PyOk n (.bl i) := ⟨_, rfl, rfl, by simp [PyData.depth]⟩
theorem pyok_non {n : Nat} : PyOk n .non := ⟨_, rfl, rfl, by simp [PyData.depth]⟩
theorem pyok_str {n : Nat} {w : Str} (h : PyData.strOk w = true) : PyOk n (.str w) := ⟨_, rfl, by simpa [PyData.canLay0] using h, by simp [PyData.depth]⟩
theorem pyok_all {n : Nat} : ∀ {ds : List D}, (∀ d ∈ ds, PyOk n d) → ∃ ps, toPys ds = some ps ∧ PyData.canLayAll0 ps = true ∧ PyData.depthAll ps ≤ n
  | [], _ => ⟨[], rfl, rfl, by simp [PyData.depthAll]⟩
  | d :: ds, h => by
    obtain ⟨p, e, hl, hd⟩ := h d (by simp)
    obtain ⟨ps, e2, hl2, hd2⟩ := pyok_all (ds := ds) fun d m => h d (by simp [m])
    exact ⟨p :: ps, by simp [toPys, e, e2], by simp [PyData.canLayAll0, hl, hl2], by simp [PyData.depthAll]; omega⟩
theorem pyok_lst {n : Nat} {ds : List D} (h : ∀ d ∈ ds, PyOk n d) : PyOk (n + 1) (.lst ds) := by
  obtain ⟨ps, e, hl, hd⟩ := pyok_all h
  exact ⟨.list ps, by simp [toPy, e], by simpa [PyData.canLay0] using hl, by simp [PyData.depth]; omega⟩
theorem pyok_tup {n : Nat} {ds : List D} (h : ∀ d ∈ ds, PyOk n d) : PyOk (n + 1) (.tup ds) := by
  obtain ⟨ps, e, hl, hd⟩ := pyok_all h
  exact ⟨.tuple ps, by simp [toPy, e], by simpa [PyData.canLay0] using hl, by simp [PyData.depth]; omega⟩
theorem sok_ltr {w : Str} (h : ∀ c ∈ w.cps.toList, Ltr c) : PyData.strOk w = true := by
  show w.cps.all (· < 0x110000) = true
  rw [← Array.all_toList, List.all_eq_true]
  intro c hc
  exact decide_eq_true (by have := (h c hc).2; omega)
theorem NmOk.sok {w : Str} (h : NmOk w) : PyData.strOk w = true := sok_ltr h.2.2.1
@[simp] theorem sok_nm {b : Bool} : PyData.strOk (nm b) = true := by cases b <;> simp
@[simp] theorem sok_op {b : Bool} : PyData.strOk (opN b) = true := by cases b <;> simp [opN]
@[simp] theorem sok_qu {b : Bool} : PyData.strOk (quN b) = true := by cases b <;> simp [quN]
theorem pyok_enc {mk ti : List Str} (hm : ∀ w ∈ mk, NmOk w) (ht : ∀ w ∈ ti, NmOk w) : ∀ {s : Sg}, SgIn mk ti s → PyOk (dep s) (enc s)
  | .tru, _ => pyok_tup (n := 0) (by simp; exact pyok_str (by simp))
  | .mark m x, h => pyok_tup (n := 0) (by simp; exact ⟨pyok_str (by simp), pyok_str (hm m h).sok, pyok_str (by simp)⟩)
  | .tie m x y, h => pyok_tup (n := 0) (by simp; exact ⟨pyok_str (by simp), pyok_str (ht m h).sok, pyok_str (by simp), pyok_str (by simp)⟩)
  | .same x y, h => pyok_tup (n := 0) (by simp; exact ⟨pyok_str (by simp), pyok_str (by simp), pyok_str (by simp)⟩)
  | .neg a, h => pyok_tup (by simp; exact ⟨pyok_str (by simp), pyok_enc hm ht (s := a) h⟩)
  | .bin o a b, h => pyok_tup (n := max (dep a) (dep b)) (by simp; exact ⟨pyok_str (by simp), (pyok_enc hm ht (s := a) h.1).mono (by omega), (pyok_enc hm ht (s := b) h.2).mono (by omega)⟩)
  | .qu q x a, h => pyok_tup (by simp; exact ⟨pyok_str (by simp), pyok_str (by simp), pyok_enc hm ht (s := a) h⟩)
theorem pyok_strs {ws : List Str} (h : ∀ w ∈ ws, NmOk w) : PyOk 1 (.tup (ws.map .str)) := pyok_tup (n := 0) fun d hd => by
  obtain ⟨w, hw, rfl⟩ := List.mem_map.mp hd
  exact pyok_str (h w hw).sok
/-! ### the store behind the pool -/
variable {R : List D}
theorem PoolOk.elim {t : List D} (h : PoolOk R t) : ∃ c p, t = c :: p :: R ∧ ∀ R', PoolOk R' (c :: p :: R') := by
  obtain ⟨cs, seed, count, rfl, hc, hl⟩ := h
  exact ⟨_, _, rfl, fun R' => ⟨cs, seed, count, rfl, hc, hl⟩⟩
end Mi

/-! the rules of runs for what Mi16 .. Mi20 add -/
namespace Mi
open PySem PySem.Spec PyProof.Rows L2
section
variable {XP : Xn → S → Prop} {α β : Type} {s : S} {e : List Slot} {t : List D} {i j : Nat} {d : D} {c : Nat} {mn fn : Str}
@[simp] theorem wp_eMeth {g : List D → M D} {mo : M Loc} {ma : M (List Loc)} {Q : Loc → S → Prop} : Wp (eMeth c mn g mo ma s) Q = Wp (mo s) fun l s1 => Wp (toVal l s1) fun d s2 => if hasM c mn d s2 = true then Wp (ma s2) fun ls s3 => Wp (vals ls s3) fun ds s4 => Wp (callF g (d :: ds) s4) Q else False := by
  unfold eMeth
  refine wp_bndQ fun l s1 => wp_bndQ fun d s2 => ?_
  show Wp (if hasM c mn d s2 = true then (bnd ma fun ls => bnd (vals ls) fun ds => callF g (d :: ds)) s2 else .stuck) Q = _
  by_cases h : hasM c mn d s2 = true
  · rw [if_pos h, if_pos h]; (repeat with_reducible refine wp_bndQ fun _ _ => ?_) <;> rfl
  · rw [if_neg h, if_neg h]; rfl
def copyR (c : D) (s : S) : Res D := match c with | .dic kvs => .ok (.dic kvs) s | _ => .stuck
@[simp] theorem wp_copyR {kvs : List (Key × D)} {Q : D → S → Prop} : Wp (copyR (.dic kvs) s) Q = Q (.dic kvs) s := rfl
@[simp] theorem wx_copyR {kvs : List (Key × D)} {Q : D → S → Prop} : Wx XP (copyR (.dic kvs) s) Q = Q (.dic kvs) s := rfl
@[simp] theorem wp_nCopy {mo : M Loc} {Q : D → S → Prop} : Wp (nCopy mo s) Q = Wp (mo s) fun l s1 => Wp (cont l s1) fun c s2 => Wp (copyR c s2) Q := by
  unfold nCopy; (repeat with_reducible refine wp_bndQ fun _ _ => ?_) <;> rfl
@[simp] theorem wx_nCopy {mo : M Loc} {Q : D → S → Prop} : Wx XP (nCopy mo s) Q = Wx XP (mo s) fun l s1 => Wx XP (cont l s1) fun c s2 => Wx XP (copyR c s2) Q := by
  unfold nCopy; (repeat with_reducible refine wx_bndQ fun _ _ => ?_) <;> rfl
def inRngR (neg : Bool) (x : Loc) (ls : List Loc) (s : S) : Res Loc := match x, ls with
  | .val (.int i), [.val (.int j)] => .ok (.val (.bl (neg ^^ decide (0 ≤ i ∧ i < j)))) s
  | _, _ => .stuck
@[simp] theorem wp_inRngR {neg : Bool} {i j : Int} {Q : Loc → S → Prop} : Wp (inRngR neg (.val (.int i)) [.val (.int j)] s) Q = Q (.val (.bl (neg ^^ decide (0 ≤ i ∧ i < j)))) s := rfl
@[simp] theorem wp_eInRng {neg : Bool} {mx : M Loc} {mA : M (List Loc)} {Q : Loc → S → Prop} : Wp (eInRng neg mx mA s) Q = Wp (mx s) fun x s1 => Wp (mA s1) fun ls s2 => Wp (inRngR neg x ls s2) Q := by
  unfold eInRng; (repeat with_reducible refine wp_bndQ fun _ _ => ?_) <;> rfl
def parR (i j : Nat) (ds : List D) (s : S) : Res Fl := match ds with
  | [d1, d2] => (match gN i d1 s with | none => .stuck | some s' => (match gN j d2 s' with | none => .stuck | some s2 => .ok .nx s2))
  | _ => .stuck
@[simp] theorem wp_parR {d1 d2 : D} {Q : Fl → S → Prop} : Wp (parR i j [d1, d2] ⟨e, t⟩) Q = (if i < e.length ∧ j < e.length then Q .nx ⟨(e.set i (.val d1)).set j (.val d2), t⟩ else False) := by
  show Wp (match gN i d1 ⟨e, t⟩ with | none => .stuck | some s' => (match gN j d2 s' with | none => .stuck | some s2 => .ok .nx s2)) Q = _
  unfold gN
  by_cases h : i < e.length
  · simp only [h, if_true, true_and]
    by_cases h2 : j < e.length
    · simp only [List.length_set, h2, if_true]; rfl
    · simp only [List.length_set, h2, if_false]; rfl
  · simp only [h, if_false, false_and]; rfl
@[simp] theorem wp_sPar {mA : M (List Loc)} {Q : Fl → S → Prop} : Wp (sPar i j mA s) Q = Wp (mA s) fun ls s1 => Wp (vals ls s1) fun ds s2 => Wp (parR i j ds s2) Q := by
  unfold sPar; (repeat with_reducible refine wp_bndQ fun _ _ => ?_) <;> rfl
def asgFR (c : Nat) (mo : M Loc) (fs : List Str) (n : Nat) (d : D) : M Fl := match d with
  | .tup ds => if ds.length = n then setFs c mo fs ds else stk
  | _ => stk
@[simp] theorem wx_asgFR {mo : M Loc} {fs : List Str} {n : Nat} {ds : List D} {Q : Fl → S → Prop} : Wx XP (asgFR c mo fs n (.tup ds) s) Q = if ds.length = n then Wx XP (setFs c mo fs ds s) Q else False := by
  show Wx XP ((if ds.length = n then setFs c mo fs ds else stk) s) Q = _
  split <;> rfl
@[simp] theorem wx_sAsgF {mo m : M Loc} {fs : List Str} {n : Nat} {Q : Fl → S → Prop} : Wx XP (sAsgF c mo fs n m s) Q = Wx XP (m s) fun l s1 => Wx XP (toVal l s1) fun d s2 => Wx XP (asgFR c mo fs n d s2) Q := by
  unfold sAsgF; (repeat with_reducible refine wx_bndQ fun _ _ => ?_) <;> rfl
@[simp] theorem wx_setFs0 {mo : M Loc} {Q : Fl → S → Prop} : Wx XP (setFs c mo [] [] s) Q = Q .nx s := rfl
def setFR (c : Nat) (mo : M Loc) (fs : List Str) (ds : List D) (l : Loc) (o : Option (D × D)) : M Fl := match o with
  | some cd => bnd (setc l cd.1) fun _ => setFs c mo fs ds
  | none => stk
@[simp] theorem wx_setFR {mo : M Loc} {fs : List Str} {ds : List D} {l : Loc} {cd : D × D} {Q : Fl → S → Prop} : Wx XP (setFR c mo fs ds l (some cd) s) Q = Wx XP (setc l cd.1 s) fun _ s1 => Wx XP (setFs c mo fs ds s1) Q := wx_bnd
@[simp] theorem wx_setFs {mo : M Loc} {f : Str} {fs : List Str} {ds : List D} {Q : Fl → S → Prop} : Wx XP (setFs c mo (f :: fs) (d :: ds) s) Q = Wx XP (mo s) fun l s1 => Wx XP (cont l s1) fun x s2 => Wx XP (setFR c mo fs ds l (putO c f d x) s2) Q := by
  rw [setFs]; (repeat with_reducible refine wx_bndQ fun _ _ => ?_) <;> rfl
def neOR (c : Nat) (g : List D → M D) (dx dy : D) (s : S) : Res Loc := if (isCls c dx s && isCls c dy s) = true then (callP g [dx, dy] s).bind notL else .stuck
theorem wp_neOR {g : List D → M D} {dx dy : D} {k : Bool} {Q : Loc → S → Prop} (h : (isCls c dx ⟨e, t⟩ && isCls c dy ⟨e, t⟩) = true) (hg : ∀ {Q : D → S → Prop}, Wp (g [dx, dy] ⟨[], t⟩) Q = Q (.bl k) ⟨[], t⟩) : Wp (neOR c g dx dy ⟨e, t⟩) Q = Q (.val (.bl !k)) ⟨e, t⟩ := by
  unfold neOR
  rw [if_pos h]
  have h1 : Wp (callP g [dx, dy] ⟨e, t⟩) fun a s' => a = .val (.bl k) ∧ s' = ⟨e, t⟩ := by rw [wp_callP, hg]; exact ⟨rfl, rfl⟩
  obtain ⟨a, s', h2, rfl, rfl⟩ := wp_ex.mp h1
  rw [h2]; rfl
@[simp] theorem wp_eNeO {g : List D → M D} {ma mb : M Loc} {Q : Loc → S → Prop} : Wp (eNeO c g ma mb s) Q = Wp (ma s) fun x s1 => Wp (mb s1) fun y s2 => Wp (toVal x s2) fun dx s3 => Wp (toVal y s3) fun dy s4 => Wp (neOR c g dx dy s4) Q := by
  unfold eNeO; (repeat with_reducible refine wp_bndQ fun _ _ => ?_) <;> rfl
def lstOf (o : Option (List D)) (s : S) : Res D := match o with | some es => .ok (.lst es) s | none => .stuck
@[simp] theorem lstOf_some {es : List D} {Q : D → S → Prop} : Wp (lstOf (some es) s) Q = Q (.lst es) s := rfl
@[simp] theorem wp_nC {f : List D → Option (List D)} {ma : M (List Loc)} {Q : D → S → Prop} : Wp (nC f ma s) Q = Wp (ma s) fun ls s1 => Wp (conts ls s1) fun ds s2 => Wp (lstOf (f ds) s2) Q := by
  unfold nC
  refine wp_bndQ fun _ _ => wp_bndQ fun _ _ => ?_
  rfl
@[simp] theorem listD_lst {ds : List D} : listD [.lst ds] = some ds := rfl
@[simp] theorem listD_tup {ds : List D} : listD [.tup ds] = some ds := rfl
/-- what a run that is known by its continuations is -/
theorem wx_ofk {r : Res α} {a : α} (h : ∀ {Q : α → S → Prop}, Q a s → Wp r Q) {Q : α → S → Prop} : Wx XP r Q = Q a s := by
  obtain ⟨a', s', e, rfl, rfl⟩ := wp_ex.mp (h (Q := fun a' s' => a' = a ∧ s' = s) ⟨rfl, rfl⟩)
  rw [e]; rfl
theorem wp_ofk {r : Res α} {a : α} (h : ∀ {Q : α → S → Prop}, Q a s → Wp r Q) {Q : α → S → Prop} : Wp r Q = Q a s := by
  obtain ⟨a', s', e, rfl, rfl⟩ := wp_ex.mp (h (Q := fun a' s' => a' = a ∧ s' = s) ⟨rfl, rfl⟩)
  rw [e]; rfl
@[simp] theorem wp_calmR {r : Res Fl} {Q : Fl → S → Prop} : Wp (calmR r) Q = Wp r Q := by cases r <;> rfl
end
@[simp] theorem ixN_m1 {n : Nat} : ixN (n + 1) (-1) = some n := by
  unfold ixN
  rw [if_neg (by omega)]
  simp
  omega
@[simp] theorem atI_m1 {α : Type} {xs : List α} {x : α} : atI (xs ++ [x]) (-1) = some x := by
  unfold atI
  rw [List.length_append, List.length_singleton, ixN_m1]
  simp
@[simp] theorem popD_snoc {xs : List D} {x : D} : popD (.lst (xs ++ [x])) [] = some (.lst xs, x) := by simp [popD]
end Mi

namespace Mi
open PySem PySem.Spec PyProof.Rows L2
variable {R : List D}
/-! ### closed sayings of any room -/
end Mi

namespace Mi
open PySem PySem.Spec PyProof.Rows L2
variable {R : List D}
def pl : Sg → Int × Int
  | .neg a => pl a
  | .bin _ a b => ((pl a).1 + (pl b).1, (pl a).2 + (pl b).2)
  | .qu _ x a => if (!(fr a false && !(x == false)) && !(fr a true && !(x == true))) = true then ((pl a).1, 1 + (pl a).2) else (1 + (pl a).1, (pl a).2)
  | _ => (0, 0)
end Mi

namespace Mi
open PySem PySem.Spec PyProof.Rows L2
variable {R : List D}
/-! ### plain worlds -/
structure Pl where
  m : Str → Nat → Bool
  r : Str → Nat → Nat → Bool
def blL (n : Nat) (f : Nat → Bool) : D := .lst ((List.range n).map fun i => .bl (f i))
def matL (n : Nat) (f : Nat → Nat → Bool) : D := .lst ((List.range n).map fun i => blL n (f i))
def mkDs (mk : List Str) (n : Nat) (m : Str → Nat → Bool) : List (Key × D) := mk.map fun w => (Sum.inr w, blL n (m w))
def tiDs (ti : List Str) (n : Nat) (r : Str → Nat → Nat → Bool) : List (Key × D) := ti.map fun w => (Sum.inr w, matL n (r w))
def plD (mk ti : List Str) (n : Nat) (P : Pl) : D := .tup [.int n, .dic (mkDs mk n P.m), .dic (tiDs ti n P.r)]
def unB : D → Bool | .bl b => b | _ => false
def rowF : D → Nat → Bool | .lst es, j => unB (es.getD j .non) | _, _ => false
theorem blL_of {ds : List D} {n : Nat} (hl : ds.length = n) (h : ∀ (i : Nat) (d : D), ds[i]? = some d → ∃ b, d = .bl b) : D.lst ds = blL n fun i => unB (ds.getD i .non) := by
  unfold blL
  congr 1
  apply List.ext_getElem?
  intro i
  by_cases hi : i < n
  · have hi' : i < ds.length := by omega
    obtain ⟨b, e⟩ := h i ds[i] (by simp [hi'])
    simp [hi', hi, e, unB]
  · simp [List.getElem?_eq_none (show ds.length ≤ i by omega), hi]
theorem matL_of {ds : List D} {n : Nat} (hl : ds.length = n) (h : ∀ (i : Nat) (d : D), ds[i]? = some d → ∃ f, d = blL n f) : D.lst ds = matL n fun i => rowF (ds.getD i .non) := by
  unfold matL
  congr 1
  apply List.ext_getElem?
  intro i
  by_cases hi : i < n
  · have hi' : i < ds.length := by omega
    obtain ⟨f, e⟩ := h i ds[i] (by simp [hi'])
    have e2 : blL n (rowF (blL n f)) = blL n f := by
      unfold blL
      congr 1
      refine List.map_congr_left fun j hj => ?_
      have hj : j < n := List.mem_range.mp hj
      simp [rowF, hj, unB]
    simp [hi', hi, e, e2]
  · simp [List.getElem?_eq_none (show ds.length ≤ i by omega), hi]
theorem blL_congr {n : Nat} {f g : Nat → Bool} (h : ∀ i, i < n → f i = g i) : blL n f = blL n g := by
  unfold blL
  congr 1
  exact List.map_congr_left fun i hi => by rw [h i (List.mem_range.mp hi)]
theorem matL_congr {n : Nat} {f g : Nat → Nat → Bool} (h : ∀ i j, i < n → j < n → f i j = g i j) : matL n f = matL n g := by
  unfold matL
  congr 1
  exact List.map_congr_left fun i hi => blL_congr fun j hj => h i j (List.mem_range.mp hi) hj
/-- a comprehension whose elements are as told, over a store that stays as told -/
theorem lc_all {tg : TgF} {te : M Loc} {vs : List Nat} {e0 : List Slot} {xs t : List D} {Q : D → S → Prop} (Pd : Nat → D → Prop) (St : List D → Prop) (hf : freeOf e0 vs = true) (hl : xs.length < lim) (h0 : St t)
    (step : ∀ (i : Nat) (d : D) (t : List D), xs[i]? = some d → St t → ∃ s1, tg d ⟨wipeE e0 vs, t⟩ = some s1 ∧ Wp (te s1) fun l s3 => Wp (toVal l s3) fun d' s4 => Pd i d' ∧ freeOf s4.e vs = true ∧ backE e0 s4.e vs = e0 ∧ St s4.t)
    (k : ∀ ds t', ds.length = xs.length → (∀ (i : Nat) (d : D), ds[i]? = some d → Pd i d) → St t' → Q (.lst ds) ⟨e0, t'⟩) : Wp (lcL tg (ret true) te vs [] xs ⟨e0, t⟩) Q := by
  refine wp_lcL_inv' (fun i acc t => St t ∧ acc.length = i ∧ ∀ (j : Nat) (d : D), acc[j]? = some d → Pd j d) hf ⟨h0, rfl, fun j d h => by simp at h⟩ ?_ fun acc t h => k acc t h.2.1 h.2.2 h.1
  rintro i d acc t hd ⟨hs, ha, hp⟩
  obtain ⟨s1, e1, w⟩ := step i d t hd hs
  refine ⟨s1, e1, ?_⟩
  rw [wp_ret, if_pos rfl]
  refine w.mono fun l s3 h3 => h3.mono fun d' s4 h4 => ?_
  obtain ⟨q1, q2, q3, q4⟩ := h4
  have il := (List.getElem?_eq_some_iff.mp hd).1
  refine ⟨q2, by omega, q3, q4, by simp [ha], fun j d hj => ?_⟩
  by_cases c : j < acc.length
  · rw [List.getElem?_append_left c] at hj
    exact hp j d hj
  · have : j = i := by
      have := (List.getElem?_eq_some_iff.mp hj).1
      simp at this
      omega
    subst this
    rw [← ha, List.getElem?_append_right (Nat.le_refl _), Nat.sub_self] at hj
    cases hj
    exact q1
theorem has_mk {mk : List Str} {n : Nat} {m : Str → Nat → Bool} {w : Str} {f : Str → D} : hasK (mk.map fun w => ((Sum.inr w : Key), f w)) (Sum.inr w) = decide (w ∈ mk) := by
  induction mk with
  | nil => simp [hasK]
  | cons a r ih =>
    unfold hasK at ih ⊢
    rw [List.map_cons, List.any_cons, ih]
    by_cases c : w = a
    · subst c; simp
    · have : ¬ ((Sum.inr a : Key) = Sum.inr w) := fun e => c (Sum.inr.inj e).symm
      simp [this, c]
/-- a new name in a dict of names -/
theorem set_new {mk : List Str} {w : Str} {f : Str → D} {d : D} (h : w ∉ mk) (hl : mk.length < lim) : setD (.dic (mk.map fun w => ((Sum.inr w : Key), f w))) (.str w) d = some (.dic ((mk ++ [w]).map fun v => ((Sum.inr v : Key), if v = w then d else f v))) := by
  show (if (mk.map fun w => ((Sum.inr w : Key), f w)).length < lim then some (D.dic (putD (mk.map fun w => ((Sum.inr w : Key), f w)) (Sum.inr w) d)) else none) = _
  rw [if_pos (by simpa using hl)]
  have e := has_mk (mk := mk) (n := 0) (m := fun _ _ => false) (w := w) (f := f)
  unfold hasK at e
  unfold putD
  rw [if_neg (by rw [e]; simpa using h)]
  congr 2
  rw [List.map_append]
  congr 1
  · refine List.map_congr_left fun v hv => ?_
    rw [if_neg (fun (z : v = w) => h (z ▸ hv))]
  · simp
theorem look_mk {mk : List Str} {w : Str} {f : Str → D} (h : w ∈ mk) : lookK (mk.map fun w => ((Sum.inr w : Key), f w)) (Sum.inr w) = some (f w) := by
  induction mk with
  | nil => cases h
  | cons a r ih =>
    by_cases c : a = w
    · subst c; simp [lookK, List.find?]
    · have : ¬ ((Sum.inr a : Key) = Sum.inr w) := fun e => c (Sum.inr.inj e)
      have ih := ih ((List.mem_cons.mp h).resolve_left fun z => c z.symm)
      simpa [lookK, List.find?, this] using ih
theorem ix_mk {mk : List Str} {w : Str} {f : Str → D} (h : w ∈ mk) : ixDD (.dic (mk.map fun w => ((Sum.inr w : Key), f w))) (.str w) = some (f w) := look_mk h
@[simp] theorem ix_bl {n i : Nat} {f : Nat → Bool} (h : i < n) : ixD (blL n f) (.int (i : Int)) = some (.bl (f i)) := by
  show atI _ _ = _
  unfold atI
  rw [ixN_nat (by simpa using h)]
  simp [h]
@[simp] theorem ix_mat {n i : Nat} {f : Nat → Nat → Bool} (h : i < n) : ixD (matL n f) (.int (i : Int)) = some (blL n (f i)) := by
  show atI _ _ = _
  unfold atI
  rw [ixN_nat (by simpa using h)]
  simp [h]
@[simp] theorem cont_bl {n : Nat} {f : Nat → Bool} {s : S} {Q : D → S → Prop} : Wp (cont (.val (blL n f)) s) Q = Q (blL n f) s := rfl
@[simp] theorem cont_mat {n : Nat} {f : Nat → Nat → Bool} {s : S} {Q : D → S → Prop} : Wp (cont (.val (matL n f)) s) Q = Q (matL n f) s := rfl
end Mi

namespace Mi
open PySem PySem.Spec PyProof.Rows L2
variable {R : List D}
@[simp] theorem not_own_val {d : D} : notOwn (.val d) = true := rfl
@[simp] theorem not_own_no : notOwn .no = true := rfl
/-- a row of drawn flags -/
theorem drawn_row {e : List Slot} {x n : Nat} {xs : List D} (hl : xs.length = n) {t : List D} {sh : Int} {Q : D → S → Prop} (hx : x < e.length) (hn : n < 1000) (hf : freeOf e [x] = true) (h0 : x ≠ 0) (h5 : x ≠ 5) (e0 : e[0]? = some (.val (.ptr 1))) (e5 : e[5]? = some (.val (.int sh))) (hp : PoolOk R t)
    (k : ∀ f t', PoolOk R t' → Q (blL n f) ⟨e, t'⟩) : Wp (lcL (gN x) (ret true) (op2 (cmpD fun i j => decide (i < j)) (eCall g__law_draw (aCons (vr 0) (aCons (kk (.int (5 : Int))) aNil))) (vr 5)) [x] [] xs ⟨e, t⟩) Q := by
  refine lc_all (fun _ d => ∃ b, d = .bl b) (PoolOk R) hf (by rw [hl]; show _ < 1000000; omega) hp ?_ fun ds t' h1 h2 h3 => ?_
  · intro i d t hd hp
    have w0 : (wipeE e [x]).length = e.length := wipeE_len _
    refine ⟨⟨(wipeE e [x]).set x (.val d), t⟩, by show (if x < (wipeE e [x]).length then _ else _) = _; rw [if_pos (by rw [w0]; exact hx)], ?_⟩
    have g0 : ((wipeE e [x]).set x (.val d))[0]? = some (.val (.ptr 1)) := by rw [List.getElem?_set_ne h0, wipeE_out (by simpa using Ne.symm h0)]; exact e0
    have g5 : ((wipeE e [x]).set x (.val d))[5]? = some (.val (.int sh)) := by rw [List.getElem?_set_ne h5, wipeE_out (by simpa using Ne.symm h5)]; exact e5
    have hx2 : x < (wipeE e [x]).length := by rw [w0]; exact hx
    obtain ⟨E, hE⟩ : ∃ E, E = (wipeE e [x]).set x (.val d) := ⟨_, rfl⟩
    rw [← hE] at g0 g5 ⊢
    simp [g0, g5]
    refine draw_ok hp (by omega) (by omega) fun c t h0 h1 hp => ?_
    simp [g5]
    refine ⟨?_, ?_, hp⟩
    · rw [hE]
      simp [freeOf, List.getD_eq_getElem?_getD, List.getElem?_set_self hx2]
    · rw [hE]
      unfold backE
      show ((backE e ((wipeE e [x]).set x (.val d)) [])).set x _ = e
      unfold backE wipeE
      rw [List.set_set]
      show ((wipeE e []).set x Slot.no).set x _ = e
      unfold wipeE
      rw [List.set_set]
      apply List.ext_getElem?
      intro i
      by_cases c : x = i
      · subst c
        rw [List.getElem?_set_self hx, List.getD_eq_getElem?_getD, List.getElem?_eq_getElem hx]; rfl
      · rw [List.getElem?_set_ne c]
  · rw [hl] at h1
    rw [blL_of h1 h2]
    exact k _ t' h3
theorem rng_ok {n : Nat} (h : n < 1000) : (-4611686018427387904 ≤ (n : Int) ∧ (n : Int) < 4611686018427387904) = True := eq_true (by omega)
theorem take_new {mk : List Str} {i : Nat} {w : Str} (hd : mk.Nodup) (hw : mk[i]? = some w) : w ∉ mk.take i := by
  intro hmem
  obtain ⟨j, hj, ej⟩ := List.mem_take_iff_getElem.mp hmem
  have il := (List.getElem?_eq_some_iff.mp hw).1
  have ew := (List.getElem?_eq_some_iff.mp hw).2
  have := List.pairwise_iff_getElem.mp hd j i (by omega) il (by omega)
  exact this (ej.trans ew.symm)
theorem take_up {mk : List Str} {i : Nat} {w : Str} (hw : mk[i]? = some w) : mk.take i ++ [w] = mk.take (i + 1) := by rw [List.take_succ, hw]; rfl
theorem ints_of {ds : List D} {n : Nat} (h1 : ds.length = n) (h2 : ∀ (i : Nat) (d : D), ds[i]? = some d → ∃ g : Nat, g < n ∧ d = .int g) : ∃ g : Nat → Nat, ∀ j, j < n → g j < n ∧ ds[j]? = some (.int (g j)) := by
  refine ⟨fun j => match ds[j]? with | some (.int z) => z.toNat | _ => 0, fun j hj => ?_⟩
  have hj' : j < ds.length := by omega
  obtain ⟨g, g1, g2⟩ := h2 j ds[j] (by simp [hj'])
  have e : ds[j]? = some (.int (g : Int)) := by rw [List.getElem?_eq_getElem hj', g2]
  simp only [e]
  exact ⟨by simpa using g1, by simp⟩
theorem lc_ints {n : Nat} {tg : TgF} {te : M Loc} {vs : List Nat} {e0 : List Slot} {xs t : List D} {Q : D → S → Prop} (St : List D → Prop) (hf : freeOf e0 vs = true) (hx : xs.length = n) (hl : n < lim) (h0 : St t)
    (step : ∀ (i : Nat) (d : D) (t : List D), xs[i]? = some d → St t → ∃ s1, tg d ⟨wipeE e0 vs, t⟩ = some s1 ∧ Wp (te s1) fun l s3 => Wp (toVal l s3) fun d' s4 => (∃ g : Nat, g < n ∧ d' = .int g) ∧ freeOf s4.e vs = true ∧ backE e0 s4.e vs = e0 ∧ St s4.t)
    (k : ∀ ds t' (g : Nat → Nat), ds.length = n → (∀ j, j < n → g j < n ∧ ds[j]? = some (.int (g j))) → St t' → Q (.lst ds) ⟨e0, t'⟩) : Wp (lcL tg (ret true) te vs [] xs ⟨e0, t⟩) Q :=
  lc_all (fun _ d => ∃ g : Nat, g < n ∧ d = .int g) St hf (by rw [hx]; exact hl) h0 step fun ds t' h1 h2 h3 => by
    obtain ⟨g, hg⟩ := ints_of (h1.trans hx) h2
    exact k ds t' g (h1.trans hx) hg h3
end Mi

namespace Mi
open PySem PySem.Spec PyProof.Rows L2
variable {R : List D}
theorem wp_calmE {r : Res Fl} {f : Fl → M Fl} {Q : Fl → S → Prop} : Wp ((calmE r).bind f) Q = Wp (r.bind f) Q := by cases r <;> rfl
theorem wp_keysF {ks : List Key} {tg : TgF} {body : M Fl} {Q : Fl → S → Prop} : ∀ (n i : Nat) (s : S), ks.length - i < n → Wp (keysF ks tg body n i s) Q = Wp (forL tg body ((ks.map kD).drop i) s) Q
  | 0, i, s, h => by omega
  | n + 1, i, s, h => by
    unfold keysF
    by_cases hi : i < ks.length
    · have e1 : ks[i]? = some ks[i] := List.getElem?_eq_getElem hi
      have e2 : (ks.map kD).drop i = kD ks[i] :: (ks.map kD).drop (i + 1) := by
        rw [List.drop_eq_getElem_cons (by simpa using hi)]; simp
      rw [e2]
      simp only [e1]
      show Wp (match tg (kD ks[i]) s with | none => .stuck | some s' => (calmE (body s')).bind (aft (keysF ks tg body n (i + 1)))) Q = Wp (match tg (kD ks[i]) s with | none => .stuck | some s' => (body s').bind (aft (forL tg body ((ks.map kD).drop (i + 1))))) Q
      cases tg (kD ks[i]) s with
      | none => rfl
      | some s' =>
        show Wp ((calmE (body s')).bind _) Q = _
        have e : nxtF Q (keysF ks tg body n (i + 1)) = nxtF Q (forL tg body ((ks.map kD).drop (i + 1))) := by
          funext f s1
          cases f with
          | nx => exact wp_keysF n (i + 1) s1 (by omega)
          | ct => exact wp_keysF n (i + 1) s1 (by omega)
          | bk => rfl
          | rt d => rfl
        rw [wp_calmE, wp_aft, wp_aft, e]
    · have e1 : ks[i]? = none := List.getElem?_eq_none (by omega)
      have e2 : (ks.map kD).drop i = [] := List.drop_eq_nil_of_le (by simpa using Nat.le_of_not_lt hi)
      rw [e2]
      simp only [e1]
      rfl
theorem wp_forK {i : Nat} {e : List Slot} {t : List D} {kvs : List (Key × D)} {tg : TgF} {body : M Fl} {Q : Fl → S → Prop} (h : e[i]? = some (.val (.dic kvs))) (hl : kvs.length < 1000) : Wp (sForK i tg body ⟨e, t⟩) Q = Wp (forL tg body (kvs.map fun kv => kD kv.1) ⟨e, t⟩) Q := by
  unfold sForK
  simp only [h]
  rw [wp_keysF lim 0 _ (by simp; show _ < 1000000; omega), List.drop_zero, List.map_map]
  rfl
theorem wp_forKx {i : Nat} {j : Int} {e : List Slot} {t ds : List D} {kvs : List (Key × D)} {tg : TgF} {body : M Fl} {Q : Fl → S → Prop} (h : e[i]? = some (.val (.tup ds))) (h2 : atI ds j = some (.dic kvs)) (hl : kvs.length < 1000) : Wp (sForKx i j tg body ⟨e, t⟩) Q = Wp (forL tg body (kvs.map fun kv => kD kv.1) ⟨e, t⟩) Q := by
  unfold sForKx
  simp only [h, h2]
  rw [wp_keysF lim 0 _ (by simp; show _ < 1000000; omega), List.drop_zero, List.map_map]
  rfl
/-- a comprehension with a test over what stays -/
theorem lc_filt {α : Type} {tg : TgF} {tt : M Bool} {te : M Loc} {vs : List Nat} {e0 : List Slot} {t : List D} {Q : D → S → Prop} {xs : List α} {en h : α → D} {f : α → Bool} {ds : List D} (hds : ds = xs.map en) (hf : freeOf e0 vs = true) (hl : xs.length < 1000)
    (step : ∀ a ∈ xs, ∃ s1, tg (en a) ⟨wipeE e0 vs, t⟩ = some s1 ∧ Wp (tt s1) fun b s2 => b = f a ∧ if f a = true then Wp (te s2) fun l s3 => Wp (toVal l s3) fun d' s4 => d' = h a ∧ freeOf s4.e vs = true ∧ backE e0 s4.e vs = e0 ∧ s4.t = t
      else freeOf s2.e vs = true ∧ backE e0 s2.e vs = e0 ∧ s2.t = t)
    (k : Q (.lst ((xs.filter f).map h)) ⟨e0, t⟩) : Wp (lcL tg tt te vs [] ds ⟨e0, t⟩) Q := by
  subst hds
  refine wp_lcL_inv' (fun i acc t' => t' = t ∧ acc = ((xs.take i).filter f).map h) hf ⟨rfl, by simp⟩ ?_ ?_
  · rintro i d acc t' hd ⟨rfl, rfl⟩
    rw [List.getElem?_map] at hd
    obtain ⟨a, ha, rfl⟩ := Option.map_eq_some_iff.mp hd
    have il := (List.getElem?_eq_some_iff.mp ha).1
    obtain ⟨s1, e1, w⟩ := step a (List.mem_of_getElem? ha)
    refine ⟨s1, e1, w.mono fun b s2 h2 => ?_⟩
    obtain ⟨rfl, h2⟩ := h2
    have tk : (xs.take (i + 1)) = xs.take i ++ [a] := by rw [List.take_succ, ha]; rfl
    have len : (((xs.take i).filter f).map h).length < lim := by
      have := List.length_filter_le f (xs.take i)
      rw [List.length_take] at this
      rw [List.length_map]
      show _ < 1000000
      omega
    by_cases c : f a = true
    · rw [if_pos c] at h2 ⊢
      refine h2.mono fun l s3 h3 => h3.mono fun d' s4 h4 => ?_
      obtain ⟨rfl, q1, q2, q3⟩ := h4
      exact ⟨q1, len, q2, q3, by rw [tk, List.filter_append, List.map_append]; simp [c]⟩
    · rw [if_neg c] at h2 ⊢
      obtain ⟨q1, q2, q3⟩ := h2
      exact ⟨q1, q2, q3, by rw [tk, List.filter_append, List.map_append]; simp [c]⟩
  · rintro acc t' ⟨rfl, rfl⟩
    rw [List.length_map, List.take_length]
    exact k
def thOf (n : Nat) (f : Nat → Bool) : List Nat := (List.range n).filter f
def prOf (n m : Nat) (g : Nat → Nat → Bool) : List (Nat × Nat) := (List.range m).flatMap fun i => ((List.range n).filter (g i)).map fun j => (i, j)
def prD (p : Nat × Nat) : D := .tup [.int p.1, .int p.2]
theorem prOf_len {n m : Nat} {g : Nat → Nat → Bool} : (prOf n m g).length ≤ m * n := by
  unfold prOf
  induction m with
  | zero => simp
  | succ m ih =>
    rw [List.range_succ, List.flatMap_append, List.length_append]
    have h := List.length_filter_le (g m) (List.range n)
    rw [List.length_range] at h
    simp only [List.flatMap_cons, List.flatMap_nil, List.append_nil, List.length_map]
    rw [Nat.succ_mul]
    omega
theorem prOf_succ {n m : Nat} {g : Nat → Nat → Bool} : prOf n (m + 1) g = prOf n m g ++ ((List.range n).filter (g m)).map fun j => (m, j) := by
  unfold prOf
  rw [List.range_succ, List.flatMap_append]
  simp
def liM (mk : List Str) (n : Nat) (P : Pl) : List (Key × D) := mk.map fun w => (Sum.inr w, .lst ((thOf n (P.m w)).map fun (i : Nat) => .int i))
def liT (ti : List Str) (n : Nat) (P : Pl) : List (Key × D) := ti.map fun w => (Sum.inr w, .lst ((prOf n n (P.r w)).map prD))
theorem ix_n {n j : Nat} {d : D} (h : ((List.range n).map fun (j : Nat) => D.int (j : Int))[j]? = some d) : j < n ∧ d = .int j := by
  have hj := (List.getElem?_eq_some_iff.mp h).1
  simp at hj
  simp [hj] at h
  exact ⟨hj, h.symm⟩
end Mi

namespace Mi
open PySem PySem.Spec PyProof.Rows L2
variable {R : List D}
/-! ### mixed lists -/
theorem er_perm {α : Type} : ∀ (l : List α) (i : Nat) (h : i < l.length), (l[i] :: l.eraseIdx i).Perm l
  | a :: l, 0, h => List.Perm.refl _
  | a :: l, i + 1, h => by
    have h' : i < l.length := by simpa using h
    exact (List.Perm.swap _ _ _).trans (List.Perm.cons _ (er_perm l i h'))
  | [], i, h => by simp at h
theorem er_mapE {α : Type} {en : α → D} : ∀ (l : List α) (i : Nat), (l.map en).eraseIdx i = (l.eraseIdx i).map en
  | [], i => by simp
  | a :: l, 0 => rfl
  | a :: l, i + 1 => by
    show en a :: (l.map en).eraseIdx i = _
    rw [er_mapE l i]; rfl
theorem popAt_ok {ds : List D} {i : Int} {d : D} (h0 : 0 ≤ i) (h1 : i < ds.length) (hl : ds.length ≤ 1000000) (e : ds[i.toNat]? = some d) : popAtD (.lst ds) [.int i] = some (.lst (ds.eraseIdx i.toNat), d) := by
  have c : 0 ≤ i ∧ i < ds.length ∧ ds.length ≤ lim := ⟨h0, h1, hl⟩
  simp only [popAtD, if_pos c, e]
theorem rngN {m : M (List Loc)} {n : Nat} {s : S} {Q : Itd → S → Prop} (h : n < 1000000) (hm : ∀ Q' : List Loc → S → Prop, Wp (m s) Q' = Q' [.val (.int n)] s) : Wp (iRng1 m s) Q = Q (.rng 0 n) s := by
  have c : -(2 ^ 62 : Int) ≤ (n : Int) ∧ (n : Int) < 2 ^ 62 := ⟨by omega, by omega⟩
  rw [wp_iRng1, hm]
  show Wp (if -(2 ^ 62 : Int) ≤ (n : Int) ∧ (n : Int) < 2 ^ 62 then Res.ok (Itd.rng 0 (n : Int).toNat) s else .stuck) Q = _
  rw [if_pos c]
  rfl
theorem mixed_okE {α : Type} {en : α → D} {l : List α} {x : D} (hx : x = .lst (l.map en)) (hw : l.length ≤ 100000) {t : List D} (hp : PoolOk R t) {Q : D → S → Prop} (k : ∀ (v : List α) t', PoolOk R t' → v.Perm l → Q (.lst (v.map en)) ⟨[], t'⟩) :
    Wp (g__law_mixed [.ptr 1, x] ⟨[], t⟩) Q := by
  have hl : l.length < lim := by show _ < 1000000; omega
  have hc : ∀ {s : S} {Q : D → S → Prop}, Wp (cont (.val x) s) Q = Q (.lst (l.map en)) s := by rw [hx]; intros; rfl
  clear hx
  simp [g__law_mixed, b__law_mixed, hc, listD_lst, -wp_iRng1]
  rw [rngN (n := l.length) (by omega) (by intro Q'; simp [hc])]
  rw [wp_forRng hl]
  refine wp_forL_inv (fun i s => ∃ (left made : List α) (s4 : Slot) (t : List D), s = ⟨[.val (.ptr 1), .val x, .own (.lst (left.map en)), .own (.lst (made.map en)), s4], t⟩ ∧ PoolOk R t ∧ (made ++ left).Perm l ∧ made.length = i)
    ⟨l, [], _, t, rfl, hp, List.Perm.refl _, rfl⟩ ?_ ?_
  · rintro i d s hd ⟨left, made, s4, t, rfl, hp, pm, ml⟩
    refine ⟨_, rfl, ?_⟩
    have hi : i < l.length := by
      have := (List.getElem?_eq_some_iff.mp hd).1
      simpa using this
    have hlen := pm.length_eq
    rw [List.length_append] at hlen
    simp [isLst]
    refine draw_ok hp (by omega) (by omega) fun j t h0 h1 hp => ?_
    have hj : j.toNat < left.length := by omega
    have pe := popAt_ok (ds := left.map en) (i := j) (d := en (left[j.toNat])) h0 (by simpa using h1) (by rw [List.length_map]; omega) (by rw [List.getElem?_map, List.getElem?_eq_getElem hj]; rfl)
    rw [er_mapE] at pe
    have ml2 : made.length < lim := by show _ < 1000000; omega
    simp [pe, isLst, appD, ml2]
    refine ⟨left.eraseIdx j.toNat, made ++ [left[j.toNat]], _, _, ⟨⟨rfl, by simp, rfl⟩, rfl⟩, hp, ?_, by simp [ml]⟩
    refine List.Perm.trans ?_ pm
    rw [List.append_assoc]
    exact List.Perm.append_left _ (er_perm left j.toNat hj)
  · rintro s ⟨left, made, s4, t, rfl, hp, pm, ml⟩
    simp at ml
    have hlen := pm.length_eq
    rw [List.length_append] at hlen
    have : left = [] := List.length_eq_zero_iff.mp (by omega)
    subst this
    simp
    exact k made t hp (by simpa using pm)
/-! ### worlds -/
def dkI (l : List Nat) : D := .dic (l.map fun (i : Nat) => ((Sum.inl (i : Int) : Key), D.bl true))
def ppK (p : Nat × Nat) : List Key := [.inl (p.1 : Int), .inl (p.2 : Int)]
def dkP (l : List (Nat × Nat)) : D := .dit (l.map fun p => (ppK p, D.bl true))
theorem has_dkI {l : List Nat} {i : Nat} : hasK (l.map fun (i : Nat) => ((Sum.inl (i : Int) : Key), D.bl true)) (Sum.inl (i : Int)) = decide (i ∈ l) := by
  induction l with
  | nil => simp [hasK]
  | cons a r ih =>
    unfold hasK at ih ⊢
    rw [List.map_cons, List.any_cons, ih]
    by_cases c : i = a
    · subst c; simp
    · have : ¬ ((Sum.inl (a : Int) : Key) = Sum.inl (i : Int)) := fun e => c (by have := Sum.inl.inj e; omega)
      simp [this, c]
theorem ppK_inj {p q : Nat × Nat} : ppK p = ppK q ↔ p = q := by
  constructor
  · intro h
    unfold ppK at h
    simp only [List.cons.injEq, Sum.inl.injEq, and_true] at h
    exact Prod.ext (by omega) (by omega)
  · intro h; rw [h]
theorem has_dkP {l : List (Nat × Nat)} {p : Nat × Nat} : hasK (l.map fun p => (ppK p, D.bl true)) (ppK p) = decide (p ∈ l) := by
  induction l with
  | nil => simp [hasK]
  | cons a r ih =>
    unfold hasK at ih ⊢
    rw [List.map_cons, List.any_cons, ih]
    by_cases c : p = a
    · subst c; simp
    · have : ¬ (ppK a = ppK p) := fun e => c (ppK_inj.mp e).symm
      simp [this, c]
theorem in_dkI {l : List Nat} {i : Nat} {neg : Bool} : inD neg (.int (i : Int)) (dkI l) = some (.bl (neg ^^ decide (i ∈ l))) := by
  show some (D.bl (neg ^^ hasK _ _)) = _
  rw [has_dkI]
theorem keyT_pr {p : Nat × Nat} : keyTD (prD p) = some (ppK p) := rfl
theorem in_dkP {l : List (Nat × Nat)} {p : Nat × Nat} {neg : Bool} : inTD neg (prD p) (dkP l) = some (.bl (neg ^^ decide (p ∈ l))) := by
  show (keyTD (prD p)).map (fun k => D.bl (neg ^^ hasK (l.map fun p => (ppK p, D.bl true)) k)) = _
  rw [keyT_pr, Option.map_some, has_dkP]
theorem set_dkI {l : List Nat} {i : Nat} (h : i ∉ l) (hl : l.length < lim) : setKD (dkI l) (.int (i : Int)) (.bl true) = some (dkI (l ++ [i])) ∧ setD (dkI l) (.int (i : Int)) (.bl true) = some (dkI (l ++ [i])) := by
  have e := has_dkI (l := l) (i := i)
  unfold hasK at e
  have key : (if (l.map fun (i : Nat) => ((Sum.inl (i : Int) : Key), D.bl true)).length < lim then some (D.dic (putD (l.map fun (i : Nat) => ((Sum.inl (i : Int) : Key), D.bl true)) (Sum.inl (i : Int)) (.bl true))) else none) = some (dkI (l ++ [i])) := by
    rw [if_pos (by simpa using hl)]
    unfold putD dkI
    rw [if_neg (by rw [e]; simpa using h)]
    simp
  exact ⟨key, key⟩
theorem set_dkP {l : List (Nat × Nat)} {p : Nat × Nat} (h : p ∉ l) (hl : l.length < lim) : setTD (dkP l) (prD p) (.bl true) = some (dkP (l ++ [p])) := by
  have e := has_dkP (l := l) (p := p)
  unfold hasK at e
  show (match keyTD (prD p) with | some j => if (l.map fun p => (ppK p, D.bl true)).length < lim then some (D.dit (putD (l.map fun p => (ppK p, D.bl true)) j (.bl true))) else none | none => none) = _
  rw [keyT_pr]
  show (if (l.map fun p => (ppK p, D.bl true)).length < lim then some (D.dit (putD (l.map fun p => (ppK p, D.bl true)) (ppK p) (.bl true))) else none) = _
  rw [if_pos (by simpa using hl)]
  unfold putD dkP
  rw [if_neg (by rw [e]; simpa using h)]
  simp
@[simp] theorem cont_dkI {l : List Nat} {s : S} {Q : D → S → Prop} : Wp (cont (.val (dkI l)) s) Q = Q (dkI l) s := rfl
@[simp] theorem cont_dkP {l : List (Nat × Nat)} {s : S} {Q : D → S → Prop} : Wp (cont (.val (dkP l)) s) Q = Q (dkP l) s := rfl
@[simp] theorem cont_prD {p : Nat × Nat} {s : S} {Q : D → S → Prop} : Wp (cont (.val (prD p)) s) Q = Q (prD p) s := rfl
@[simp] theorem isa_int_int' : isa_int (.inl "int") = some true := by decide
@[simp] theorem isa_bool_int' : isa_bool (.inl "int") = some false := by decide
@[simp] theorem integer_ok {i : Int} {t : List D} {Q : D → S → Prop} : Wp (g_is_integer [.int i] ⟨[], t⟩) Q = Q (.bl true) ⟨[], t⟩ := by
  simp [g_is_integer, b_is_integer]
theorem within_ok {i a b : Int} {t : List D} {Q : D → S → Prop} : Wp (g_is_within [.int i, .int a, .int b] ⟨[], t⟩) Q = Q (.bl (decide (a ≤ i ∧ i ≤ b))) ⟨[], t⟩ := by
  by_cases h : a ≤ i <;> simp [g_is_within, b_is_within, h]
theorem thing_ok {i n : Nat} (h : i < n) {t : List D} {Q : D → S → Prop} : Wp (g_is_thing [.int i, .int n] ⟨[], t⟩) Q = Q (.bl true) ⟨[], t⟩ := by
  have hw := fun {t Q} => within_ok (i := i) (a := 0) (b := (n : Int) - 1) (t := t) (Q := Q)
  rw [decide_eq_true (by omega)] at hw
  simp [g_is_thing, b_is_thing, hw]
theorem pair_ok {p : Nat × Nat} {n : Nat} (h1 : p.1 < n) (h2 : p.2 < n) {t : List D} {Q : D → S → Prop} : Wp (g_is_pair [prD p, .int n] ⟨[], t⟩) Q = Q (.bl true) ⟨[], t⟩ := by
  simp [g_is_pair, b_is_pair, g_is_tuple, b_is_tuple, prD, thing_ok h1, thing_ok h2]
@[simp] theorem seq_ok_lst {t : List D} {xs : List D} {Q : D → S → Prop} : Wp (g_is_sequence [.lst xs] ⟨[], t⟩) Q = Q (.bl true) ⟨[], t⟩ := by
  simp [g_is_sequence, b_is_sequence, isa_list_tuple_lst]
theorem nd_take {α : Type} {l : List α} {i : Nat} {a : α} (hd : l.Nodup) (ha : l[i]? = some a) : a ∉ l.take i := by
  intro hmem
  obtain ⟨j, hj, ej⟩ := List.mem_take_iff_getElem.mp hmem
  have il := (List.getElem?_eq_some_iff.mp ha).1
  have ea := (List.getElem?_eq_some_iff.mp ha).2
  exact List.pairwise_iff_getElem.mp hd j i (by omega) il (by omega) (ej.trans ea.symm)
theorem things_ok {l : List Nat} {n : Nat} (hd : l.Nodup) (hn : ∀ i ∈ l, i < n) (hl : l.length < 100000) {t : List D} {Q : D → S → Prop} (k : Q (.bl true) ⟨[], t⟩) : Wp (g_are_things [.lst (l.map fun (i : Nat) => .int (i : Int)), .int n] ⟨[], t⟩) Q := by
  have ll : l.length < lim := by show _ < 1000000; omega
  simp [g_are_things, b_are_things, -dic_nil, ll]
  refine wp_forL_inv (fun i s => ∃ x, s = ⟨[.val (.lst (l.map fun (i : Nat) => .int (i : Int))), .val (.int n), .own (dkI (l.take i)), x], t⟩) ⟨_, rfl⟩ ?_ ?_
  · rintro i d s hi ⟨x, rfl⟩
    rw [List.getElem?_map] at hi
    obtain ⟨a, ha, rfl⟩ := Option.map_eq_some_iff.mp hi
    have am := List.mem_of_getElem? ha
    have st := (set_dkI (nd_take hd ha) (by rw [List.length_take]; omega)).2
    have tk : l.take i ++ [a] = l.take (i + 1) := by rw [List.take_succ, ha]; rfl
    rw [tk] at st
    refine ⟨_, rfl, ?_⟩
    have nk := nd_take hd ha
    simp [thing_ok (hn a am), in_dkI, nk, st]
  · rintro s ⟨x, rfl⟩
    simpa using k
theorem pairs_ok {l : List (Nat × Nat)} {n : Nat} (hd : l.Nodup) (hn : ∀ p ∈ l, p.1 < n ∧ p.2 < n) (hl : l.length < 100000) {t : List D} {Q : D → S → Prop} (k : Q (.bl true) ⟨[], t⟩) : Wp (g_are_pairs [.tup (l.map prD), .int n] ⟨[], t⟩) Q := by
  have ll : l.length < lim := by show _ < 1000000; omega
  simp [g_are_pairs, b_are_pairs, ll]
  refine wp_forL_inv (fun i s => ∃ x, s = ⟨[.val (.tup (l.map prD)), .val (.int n), .own (dkP (l.take i)), x], t⟩) ⟨_, rfl⟩ ?_ ?_
  · rintro i d s hi ⟨x, rfl⟩
    rw [List.getElem?_map] at hi
    obtain ⟨a, ha, rfl⟩ := Option.map_eq_some_iff.mp hi
    have am := List.mem_of_getElem? ha
    have st := set_dkP (nd_take hd ha) (by rw [List.length_take]; omega)
    have tk : l.take i ++ [a] = l.take (i + 1) := by rw [List.take_succ, ha]; rfl
    rw [tk] at st
    refine ⟨_, rfl, ?_⟩
    have nk := nd_take hd ha
    simp [pair_ok (hn a am).1 (hn a am).2, in_dkP, nk, st]
  · rintro s ⟨x, rfl⟩
    simpa using k
end Mi

namespace Mi
open PySem PySem.Spec PyProof.Rows L2
variable {R : List D}
/-! ### dict comprehensions: rules of runs -/
def dcL (f : D → D → D → Option D) (tg : TgF) (tt : M Bool) (tk tv : M Loc) (vs : List Nat) : D → List D → M D
  | acc, [] => ret acc
  | acc, d :: ds => fun s => if freeOf s.e vs = true then match tg d ⟨wipeE s.e vs, s.t⟩ with
      | none => .stuck
      | some s1 => match tt s1 with
        | .ok true s2 => match (tk s2).bind toVal with
          | .ok k s3 => match (tv s3).bind toVal with
            | .ok d s4 => if freeOf s4.e vs = true then (match f acc k d with | some acc' => dcL f tg tt tk tv vs acc' ds ⟨backE s.e s4.e vs, s4.t⟩ | none => .stuck) else .stuck
            | _ => .stuck
          | _ => .stuck
        | .ok false s2 => if freeOf s2.e vs = true then dcL f tg tt tk tv vs acc ds ⟨backE s.e s2.e vs, s2.t⟩ else .stuck
        | _ => .stuck
      else .stuck
section
variable {f : D → D → D → Option D} {tg : TgF} {tt : M Bool} {tk tv : M Loc} {vs : List Nat} {s : S}
theorem dcF_at {I : Itd} {ds : List D} (hI : ∀ i s, itN I i s = .ok ds[i]? s) : ∀ (n : Nat) (acc : D) (i : Nat) (s : S), ds.length - i < n → i ≤ ds.length → dcF f I tg tt tk tv vs n acc i s = dcL f tg tt tk tv vs acc (ds.drop i) s
  | 0, acc, i, s, h, _ => by omega
  | n + 1, acc, i, s, h, hi => by
    unfold dcF
    show (bnd (itN I i) _) s = _
    unfold bnd
    rw [hI]
    by_cases c : i < ds.length
    · rw [List.getElem?_eq_getElem c, List.drop_eq_getElem_cons c]
      have e2 : ∀ a s2, dcF f I tg tt tk tv vs n a (i + 1) s2 = dcL f tg tt tk tv vs a (ds.drop (i + 1)) s2 := fun a s2 => dcF_at hI n a (i + 1) s2 (by omega) (by omega)
      simp only [Res.bind, dcL, e2]
      all_goals rfl
    · have : i = ds.length := by omega
      subst this
      rw [List.getElem?_eq_none (Nat.le_refl _), List.drop_length]
      rfl
theorem wp_dcSeq {acc d : D} {ds : List D} {Q : D → S → Prop} (hs : seqOf d = some ds) (hp : noPtr d = true) (hl : ds.length < lim) : Wp (dcF f (.seq d) tg tt tk tv vs lim acc 0 s) Q = Wp (dcL f tg tt tk tv vs acc ds s) Q := by
  rw [dcF_at (itN_seq' hs hp) lim acc 0 s (by omega) (by omega), List.drop_zero]
@[simp] theorem wp_dcTup {acc : D} {ds : List D} {Q : D → S → Prop} (hl : ds.length < lim) : Wp (dcF f (.seq (.tup ds)) tg tt tk tv vs lim acc 0 s) Q = Wp (dcL f tg tt tk tv vs acc ds s) Q := wp_dcSeq rfl rfl hl
@[simp] theorem wp_dcLst {acc : D} {ds : List D} {Q : D → S → Prop} (hl : ds.length < lim) : Wp (dcF f (.seq (.lst ds)) tg tt tk tv vs lim acc 0 s) Q = Wp (dcL f tg tt tk tv vs acc ds s) Q := wp_dcSeq rfl rfl hl
@[simp] theorem wp_nDc {d0 : D} {mi : M Itd} {Q : D → S → Prop} : Wp (nDc d0 f mi tg tt tk tv vs s) Q = Wp (mi s) fun I s1 => Wp (dcF f I tg tt tk tv vs lim d0 0 s1) Q := by unfold nDc; (repeat with_reducible refine wp_bndQ fun _ _ => ?_) <;> rfl
theorem dc_all {e0 : List Slot} {t xs : List D} {acc0 : D} {Q : D → S → Prop} (acc : Nat → D) (hf : freeOf e0 vs = true) (h0 : acc 0 = acc0)
    (step : ∀ (i : Nat) (d : D), xs[i]? = some d → ∃ s1, tg d ⟨wipeE e0 vs, t⟩ = some s1 ∧ Wp (tk s1) fun l s2 => Wp (toVal l s2) fun kd s3 => Wp (tv s3) fun l s4 => Wp (toVal l s4) fun vd s5 => freeOf s5.e vs = true ∧ backE e0 s5.e vs = e0 ∧ s5.t = t ∧ f (acc i) kd vd = some (acc (i + 1)))
    (k : Q (acc xs.length) ⟨e0, t⟩) : Wp (dcL f tg (ret true) tk tv vs acc0 xs ⟨e0, t⟩) Q := by
  suffices g : ∀ (l : List D) (i : Nat), xs.drop i = l → i + l.length = xs.length → Wp (dcL f tg (ret true) tk tv vs (acc i) l ⟨e0, t⟩) Q by
    rw [← h0]; exact g xs 0 rfl (by simp)
  intro l
  induction l with
  | nil =>
    intro i _ hi
    have : i = xs.length := by simpa using hi
    subst this
    exact k
  | cons d l ih =>
    intro i hd hi
    have e1 : xs[i]? = some d := by rw [← List.head?_drop, hd]; rfl
    have ih := ih (i + 1) (by rw [← List.tail_drop, hd]; rfl) (by simpa [Nat.add_assoc, Nat.add_comm 1] using hi)
    obtain ⟨s1, es, w⟩ := step i d e1
    unfold dcL
    show Wp (if freeOf e0 vs = true then _ else _) Q
    rw [if_pos hf]
    simp only [es]
    show Wp (match (tk s1).bind toVal with | .ok k s3 => _ | _ => .stuck) Q
    obtain ⟨l1, s2, q1, w⟩ := wp_ex.mp w
    obtain ⟨kd, s3, q2, w⟩ := wp_ex.mp w
    obtain ⟨l2, s4, q3, w⟩ := wp_ex.mp w
    obtain ⟨vd, s5, q4, w⟩ := wp_ex.mp w
    obtain ⟨g1, g2, g3, g4⟩ := w
    have b1 : (tk s1).bind toVal = .ok kd s3 := by rw [q1]; exact q2
    have b2 : (tv s3).bind toVal = .ok vd s5 := by rw [q3]; exact q4
    simp only [b1, b2, if_pos g1, g4]
    show Wp (dcL f tg (ret true) tk tv vs (acc (i + 1)) l ⟨backE e0 s5.e vs, s5.t⟩) Q
    rw [g2, g3]
    exact ih
end
/-! ### World(..) -/
def dkN (l : List Str) (f : Str → D) : D := .dic (l.map fun w => ((Sum.inr w : Key), f w))
def inL (l : List Nat) : D := .lst (l.map fun (i : Nat) => .int (i : Int))
@[simp] theorem cont_dkN {l : List Str} {f : Str → D} {s : S} {Q : D → S → Prop} : Wp (cont (.val (dkN l f)) s) Q = Q (dkN l f) s := rfl
@[simp] theorem tyN_dkN {l : List Str} {f : Str → D} : tyN (dkN l f) = some (.inl "dict") := rfl
@[simp] theorem isa_dict_dict : isa_dict (.inl "dict") = some true := by decide
@[simp] theorem len_dkN {l : List Str} {f : Str → D} : lenD [dkN l f] = some (.int l.length) := by show some (D.int ((l.map fun w => ((Sum.inr w : Key), f w)).length : Int)) = _; simp
theorem ix_dkN {l : List Str} {f : Str → D} {w : Str} (h : w ∈ l) : ixDD (dkN l f) (.str w) = some (f w) := ix_mk h
theorem forK_dkN {i : Nat} {e : List Slot} {t : List D} {l : List Str} {f : Str → D} {tg : TgF} {body : M Fl} {Q : Fl → S → Prop} (h : e[i]? = some (.val (dkN l f))) (hl : l.length < 1000) : Wp (sForK i tg body ⟨e, t⟩) Q = Wp (forL tg body (l.map .str) ⟨e, t⟩) Q := by
  rw [wp_forK h (by simpa using hl), List.map_map]
  rfl
theorem dict_of_ok {l mk : List Str} {f : Str → D} (hp : l.Perm mk) (hl : mk.length < 100) {t : List D} {Q : D → S → Prop} (k : Q (.bl true) ⟨[], t⟩) : Wp (g_is_dict_of [dkN l f, .tup (mk.map .str)] ⟨[], t⟩) Q := by
  have e := hp.length_eq
  simp [g_is_dict_of, b_is_dict_of, e]
  rw [forK_dkN (l := l) (f := f) rfl (by omega)]
  refine wp_forL_inv (fun i s => ∃ x, s = ⟨[.val (dkN l f), .val (.tup (mk.map .str)), x], t⟩) ⟨_, rfl⟩ ?_ ?_
  · rintro i d s hi ⟨x, rfl⟩
    rw [List.getElem?_map] at hi
    obtain ⟨w, hw, rfl⟩ := Option.map_eq_some_iff.mp hi
    have wm := hp.mem_iff.mp (List.mem_of_getElem? hw)
    refine ⟨_, rfl, ?_⟩
    simp [key_ok, wm]
  · rintro s ⟨x, rfl⟩
    simpa using k
theorem marks_ck {l mk ti fu : List Str} {n : Nat} {M : Str → List Nat} (hp : l.Perm mk) (hl : mk.length < 100) (hM : ∀ w ∈ mk, (M w).Nodup ∧ (∀ i ∈ M w, i < n) ∧ (M w).length < 100000) {t : List D} {Q : D → S → Prop} (k : Q .non ⟨[], t⟩) :
    Wp (g_check_marks [tgD mk ti fu, .int n, dkN l fun w => inL (M w)] ⟨[], t⟩) Q := by
  have e := hp.length_eq
  simp [g_check_marks, b_check_marks]
  refine dict_of_ok hp hl ?_
  simp
  rw [forK_dkN (l := l) (f := fun w => inL (M w)) rfl (by omega)]
  refine wp_forL_inv (fun i s => ∃ x, s = ⟨[.val (tgD mk ti fu), .val (.int n), .val (dkN l fun w => inL (M w)), x], t⟩) ⟨_, rfl⟩ ?_ ?_
  · rintro i d s hi ⟨x, rfl⟩
    rw [List.getElem?_map] at hi
    obtain ⟨w, hw, rfl⟩ := Option.map_eq_some_iff.mp hi
    have wl := List.mem_of_getElem? hw
    obtain ⟨h1, h2, h3⟩ := hM w (hp.mem_iff.mp wl)
    refine ⟨_, rfl, ?_⟩
    simp [ix_dkN (f := fun w => inL (M w)) wl]
    refine things_ok h1 h2 h3 ?_
    simp
  · rintro s ⟨x, rfl⟩
    simpa using k
def prT (l : List (Nat × Nat)) : D := .tup (l.map prD)
@[simp] theorem fld_fu {mk ti fu : List Str} : fldD 0 ("functions" : Str) (tgD mk ti fu) = some (.tup (fu.map .str)) := by
  have e : (("functions" : Str) == ("kept_marks" : Str)) = false := by decide +kernel
  have e2 : (("functions" : Str) == ("kept_ties" : Str)) = false := by decide +kernel
  simp [tgD, fldD, List.lookup, e, e2]
theorem sortI_range {ns : List Int} {n : Nat} (h : ns.Perm ((List.range n).map fun (i : Nat) => (i : Int))) : sortI ns = (List.range n).map fun (i : Nat) => (i : Int) := by
  refine (sortI_uniq h.symm ?_).symm
  rw [List.pairwise_map]
  exact List.pairwise_lt_range.imp fun h => by omega
theorem function_ok {l : List (Nat × Nat)} {n : Nat} (h : (l.map (·.1)).Perm (List.range n)) (hl : l.length < 100000) (hn : n < 1000) {t : List D} {Q : D → S → Prop} (k : Q (.bl true) ⟨[], t⟩) : Wp (g_is_function [prT l, .int n] ⟨[], t⟩) Q := by
  have ll : l.length < lim := by show _ < 1000000; omega
  simp [g_is_function, b_is_function, prT, ll]
  refine lc_filt (xs := l) (en := prD) (h := fun p => .int (p.1 : Int)) (f := fun _ => true) rfl (by simp [freeOf]) (by have := h.length_eq; simp at this; omega) (fun a _ => ⟨_, rfl, ?_⟩) ?_
  · simp [wipeE, freeOf, backE, prD]
  · have e0 : l.filter (fun _ => true) = l := by simp
    rw [e0]
    have e1 : (l.map fun p => D.int (p.1 : Int)) = ((l.map (·.1)).map fun (i : Nat) => (i : Int)).map D.int := by simp [List.map_map, Function.comp_def]
    have e2 : sortD [.lst (l.map fun p => D.int (p.1 : Int))] = some (((List.range n).map fun (i : Nat) => (i : Int)).map D.int) := by
      rw [e1]
      show (intsD _).map _ = _
      rw [intsD_map, Option.map_some, sortI_range (h.map _)]
    have e3 : ((List.range n).map fun (i : Nat) => D.int (i : Int)) = ((List.range n).map fun (i : Nat) => (i : Int)).map D.int := by simp [List.map_map, Function.comp_def]
    have py : ∀ {b}, eqD b (.lst (((List.range n).map fun (i : Nat) => (i : Int)).map D.int)) (.lst (((List.range n).map fun (i : Nat) => (i : Int)).map D.int)) = some (.bl (b ^^ true)) := fun {b} => eqD_refl ((pyok_lst (n := 0) fun d hd => by
      obtain ⟨i, _, rfl⟩ := List.mem_map.mp hd
      exact pyok_int).mono (by omega))
    have hn0 : (0 : Int) ≤ n ∧ (n : Int) ≤ 1000000 := ⟨by omega, by omega⟩
    obtain ⟨X, hX⟩ : ∃ X, X = ((List.range n).map fun (i : Nat) => (i : Int)).map D.int := ⟨_, rfl⟩
    rw [← hX] at e2 e3 py
    simp [e2, nRng, hn0, py, e3]
    exact k
end Mi

namespace Mi
open PySem PySem.Spec PyProof.Rows L2
variable {R : List D}
theorem ties_ck {l mk ti fu : List Str} {n : Nat} {T : Str → List (Nat × Nat)} (hp : l.Perm ti) (hl : ti.length < 100) (hn : n < 1000) (hT : ∀ w ∈ ti, (T w).Nodup ∧ (∀ p ∈ T w, p.1 < n ∧ p.2 < n) ∧ (T w).length < 100000) (hf : ∀ w ∈ fu, ((T w).map (·.1)).Perm (List.range n)) {t : List D} {Q : D → S → Prop} (k : Q .non ⟨[], t⟩) :
    Wp (g_check_ties [tgD mk ti fu, .int n, dkN l fun w => prT (T w)] ⟨[], t⟩) Q := by
  have e := hp.length_eq
  simp [g_check_ties, b_check_ties]
  refine dict_of_ok hp hl ?_
  simp
  rw [forK_dkN (l := l) (f := fun w => prT (T w)) rfl (by omega)]
  refine wp_forL_inv (fun i s => ∃ x, s = ⟨[.val (tgD mk ti fu), .val (.int n), .val (dkN l fun w => prT (T w)), x], t⟩) ⟨_, rfl⟩ ?_ ?_
  · rintro i d s hi ⟨x, rfl⟩
    rw [List.getElem?_map] at hi
    obtain ⟨w, hw, rfl⟩ := Option.map_eq_some_iff.mp hi
    have wl := List.mem_of_getElem? hw
    obtain ⟨h1, h2, h3⟩ := hT w (hp.mem_iff.mp wl)
    refine ⟨_, rfl, ?_⟩
    simp [ix_dkN (f := fun w => prT (T w)) wl]
    refine pairs_ok h1 h2 h3 ?_
    by_cases c : w ∈ fu
    · simp [in_tups, c, ix_dkN (f := fun w => prT (T w)) wl]
      refine function_ok (hf w c) h3 hn ?_
      simp
    · simp [in_tups, c]
  · rintro s ⟨x, rfl⟩
    simpa using k
/-- a world as an object -/
def wdD (mk ti fu : List Str) (n : Nat) (M : Str → List Nat) (T : Str → List (Nat × Nat)) : D := .obj 1 [("tongue", tgD mk ti fu), ("things", .int n), ("marked", dkN mk fun w => dkI (M w)), ("tied", dkN ti fun w => dkP (T w))]
@[simp] theorem wf1 : (("tongue" : Str) = ("things" : Str)) = False := eq_false (by decide +kernel)
@[simp] theorem wf2 : (("tongue" : Str) = ("marked" : Str)) = False := eq_false (by decide +kernel)
@[simp] theorem wf3 : (("tongue" : Str) = ("tied" : Str)) = False := eq_false (by decide +kernel)
@[simp] theorem wf4 : (("things" : Str) = ("marked" : Str)) = False := eq_false (by decide +kernel)
@[simp] theorem wf5 : (("things" : Str) = ("tied" : Str)) = False := eq_false (by decide +kernel)
@[simp] theorem wf6 : (("marked" : Str) = ("tied" : Str)) = False := eq_false (by decide +kernel)
@[simp] theorem wb1 : (("things" : Str) == ("tongue" : Str)) = false := by decide +kernel
@[simp] theorem wb2 : (("marked" : Str) == ("tongue" : Str)) = false := by decide +kernel
@[simp] theorem wb3 : (("marked" : Str) == ("things" : Str)) = false := by decide +kernel
@[simp] theorem wb4 : (("tied" : Str) == ("tongue" : Str)) = false := by decide +kernel
@[simp] theorem wb5 : (("tied" : Str) == ("things" : Str)) = false := by decide +kernel
@[simp] theorem wb6 : (("tied" : Str) == ("marked" : Str)) = false := by decide +kernel
section
variable {mk ti fu : List Str} {n : Nat} {M : Str → List Nat} {T : Str → List (Nat × Nat)}
@[simp] theorem wfld1 : fldD 1 ("tongue" : Str) (wdD mk ti fu n M T) = some (tgD mk ti fu) := by simp [wdD, fldD, List.lookup]
@[simp] theorem wfld2 : fldD 1 ("things" : Str) (wdD mk ti fu n M T) = some (.int n) := by simp [wdD, fldD, List.lookup]
@[simp] theorem wfld3 : fldD 1 ("marked" : Str) (wdD mk ti fu n M T) = some (dkN mk fun w => dkI (M w)) := by simp [wdD, fldD, List.lookup]
@[simp] theorem wfld4 : fldD 1 ("tied" : Str) (wdD mk ti fu n M T) = some (dkN ti fun w => dkP (T w)) := by simp [wdD, fldD, List.lookup]
@[simp] theorem cont_wd {s : S} {Q : D → S → Prop} : Wp (cont (.val (wdD mk ti fu n M T)) s) Q = Q (wdD mk ti fu n M T) s := rfl
end
theorem dkI_take {l : List Nat} {i a : Nat} (hd : l.Nodup) (ha : l[i]? = some a) (hl : l.length < 100000) : setKD (dkI (l.take i)) (.int (a : Int)) (.bl true) = some (dkI (l.take (i + 1))) := by
  have st := (set_dkI (nd_take hd ha) (by rw [List.length_take]; show _ < 1000000; omega)).1
  have tk : l.take i ++ [a] = l.take (i + 1) := by rw [List.take_succ, ha]; rfl
  rw [tk] at st
  exact st
theorem dkP_take {l : List (Nat × Nat)} {i : Nat} {a : Nat × Nat} (hd : l.Nodup) (ha : l[i]? = some a) (hl : l.length < 100000) : setTD (dkP (l.take i)) (prD a) (.bl true) = some (dkP (l.take (i + 1))) := by
  have st := set_dkP (nd_take hd ha) (by rw [List.length_take]; show _ < 1000000; omega)
  have tk : l.take i ++ [a] = l.take (i + 1) := by rw [List.take_succ, ha]; rfl
  rw [tk] at st
  exact st
theorem dkN_take {l : List Str} {i : Nat} {w : Str} {f : Str → D} (hd : l.Nodup) (hw : l[i]? = some w) (hl : l.length < 1000) : setKD (dkN (l.take i) f) (.str w) (f w) = some (dkN (l.take (i + 1)) f) := by
  have st := set_new (f := f) (d := f w) (take_new hd hw) (by rw [List.length_take]; show _ < 1000000; omega)
  rw [take_up hw] at st
  have e : setKD (dkN (l.take i) f) (.str w) (f w) = setD (.dic ((l.take i).map fun w => ((Sum.inr w : Key), f w))) (.str w) (f w) := rfl
  rw [e, st]
  congr 2
  refine List.map_congr_left fun v _ => ?_
  by_cases c : v = w
  · subst c; simp
  · simp [c]
theorem init_ok {mk ti fu lm lt : List Str} (hs : ShOk mk ti fu) {n : Nat} {M : Str → List Nat} {T : Str → List (Nat × Nat)} (n1 : 1 ≤ n) (hn : n < 300) (hm : lm.Perm mk) (ht : lt.Perm ti) (hM : ∀ w ∈ mk, (M w).Nodup ∧ (∀ i ∈ M w, i < n) ∧ (M w).length < 100000)
    (hT : ∀ w ∈ ti, (T w).Nodup ∧ (∀ p ∈ T w, p.1 < n ∧ p.2 < n) ∧ (T w).length < 100000) (hf : ∀ w ∈ fu, ((T w).map (·.1)).Perm (List.range n)) {t : List D} {Q : D → S → Prop} (k : Q (wdD mk ti fu n M T) ⟨[], t⟩) :
    Wp (g_World___init__ [tgD mk ti fu, .int n, dkN lm fun w => inL (M w), dkN lt fun w => prT (T w)] ⟨[], t⟩) Q := by
  have m3 := hs.m3
  have t2 := hs.t2
  have hw := fun {t Q} => within_ok (i := n) (a := 1) (b := 300) (t := t) (Q := Q)
  rw [decide_eq_true (by omega)] at hw
  simp [g_World___init__, b_World___init__, hw]
  refine marks_ck hm (by omega) hM ?_
  simp
  refine ties_ck ht (by omega) (by omega) hT hf ?_
  simp [putFD, -dic_nil, show mk.length < lim by show _ < 1000000; omega]
  refine dc_all (fun i => dkN (mk.take i) fun w => dkI (M w)) (by simp [freeOf]) rfl (fun i d hd => ?_) ?_
  · rw [List.getElem?_map] at hd
    obtain ⟨w, hwi, rfl⟩ := Option.map_eq_some_iff.mp hd
    have wm := List.mem_of_getElem? hwi
    obtain ⟨h1, h2, h3⟩ := hM w wm
    refine ⟨_, rfl, ?_⟩
    simp [wipeE, -dic_nil, ix_dkN (f := fun w => inL (M w)) (hm.mem_iff.mpr wm)]
    simp [inL, -dic_nil, show (M w).length < lim by show _ < 1000000; omega]
    refine dc_all (fun i => dkI ((M w).take i)) (by simp [freeOf]) rfl (fun j d hd => ?_) ?_
    · rw [List.getElem?_map] at hd
      obtain ⟨a, ha, rfl⟩ := Option.map_eq_some_iff.mp hd
      refine ⟨_, rfl, ?_⟩
      simp [wipeE, freeOf, backE, dkI_take h1 ha h3]
    · rw [List.length_map, List.take_length]
      simp [freeOf, backE, dkN_take (f := fun w => dkI (M w)) hs.md hwi (by omega)]
  · rw [List.length_map, List.take_length]
    simp [putFD, -dic_nil, show ti.length < lim by show _ < 1000000; omega]
    refine dc_all (fun i => dkN (ti.take i) fun w => dkP (T w)) (by simp [freeOf]) rfl (fun i d hd => ?_) ?_
    · rw [List.getElem?_map] at hd
      obtain ⟨w, hwi, rfl⟩ := Option.map_eq_some_iff.mp hd
      have wm := List.mem_of_getElem? hwi
      obtain ⟨h1, h2, h3⟩ := hT w wm
      refine ⟨_, rfl, ?_⟩
      simp [wipeE, -dic_nil, ix_dkN (f := fun w => prT (T w)) (ht.mem_iff.mpr wm)]
      simp [prT, -dic_nil, show (T w).length < lim by show _ < 1000000; omega]
      refine dc_all (fun i => dkP ((T w).take i)) (by simp [freeOf]) rfl (fun j d hd => ?_) ?_
      · rw [List.getElem?_map] at hd
        obtain ⟨a, ha, rfl⟩ := Option.map_eq_some_iff.mp hd
        refine ⟨_, rfl, ?_⟩
        simp [wipeE, freeOf, backE, dkP_take h1 ha h3]
      · rw [List.length_map, List.take_length]
        simp [freeOf, backE, dkN_take (f := fun w => dkP (T w)) hs.td hwi (by omega)]
    · rw [List.length_map, List.take_length]
      simp [putFD]
      exact k
end Mi

namespace Mi
open PySem PySem.Spec PyProof.Rows L2
/-! ### rules of runs of Mi30 -/
section
variable {s : S} {e : List Slot} {t : List D} {c : Nat} {neg : Bool} {oth : String ⊕ Nat → Bool} {i j : Nat}
def oR (neg : Bool) (c : Nat) (oth : String ⊕ Nat → Bool) (g : List D → M D) (dx dy : D) (s : S) : Res Loc := if (isCls c dx s && (tyN dy).any oth) = true then (callP g [dx, dy] s).bind (ngL neg) else .stuck
theorem wp_oR {g : List D → M D} {dx dy : D} {k : Bool} {Q : Loc → S → Prop} (h : (isCls c dx ⟨e, t⟩ && (tyN dy).any oth) = true) (hg : ∀ {Q : D → S → Prop}, Wp (g [dx, dy] ⟨[], t⟩) Q = Q (.bl k) ⟨[], t⟩) : Wp (oR neg c oth g dx dy ⟨e, t⟩) Q = Q (.val (.bl (if neg then !k else k))) ⟨e, t⟩ := by
  unfold oR
  rw [if_pos h]
  have h1 : Wp (callP g [dx, dy] ⟨e, t⟩) fun a s' => a = .val (.bl k) ∧ s' = ⟨e, t⟩ := by rw [wp_callP, hg]; exact ⟨rfl, rfl⟩
  obtain ⟨a, s', h2, rfl, rfl⟩ := wp_ex.mp h1
  rw [h2]; rfl
@[simp] theorem wp_eO {g : List D → M D} {ma mb : M Loc} {Q : Loc → S → Prop} : Wp (eO neg c oth g ma mb s) Q = Wp (ma s) fun x s1 => Wp (mb s1) fun y s2 => Wp (toVal x s2) fun dx s3 => Wp (toVal y s3) fun dy s4 => Wp (oR neg c oth g dx dy s4) Q := by
  unfold eO; (repeat with_reducible refine wp_bndQ fun _ _ => ?_) <;> rfl
def dicOf (o : Option (List (Key × D))) (s : S) : Res D := match o with | some es => .ok (.dic es) s | none => .stuck
@[simp] theorem dicOf_some {es : List (Key × D)} {Q : D → S → Prop} : Wp (dicOf (some es) s) Q = Q (.dic es) s := rfl
@[simp] theorem wp_nCK {f : List D → Option (List (Key × D))} {ma : M (List Loc)} {Q : D → S → Prop} : Wp (nCK f ma s) Q = Wp (ma s) fun ls s1 => Wp (conts ls s1) fun ds s2 => Wp (dicOf (f ds) s2) Q := by
  unfold nCK
  refine wp_bndQ fun _ _ => wp_bndQ fun _ _ => ?_
  rfl
end
theorem pairsD_strs {l : List Str} {f : Str → D} : pairsD (l.map fun w => .tup [.str w, f w]) = some (l.map fun w => ((Sum.inr w : Key), f w)) := by
  induction l with
  | nil => rfl
  | cons w l ih => show (pairsD _).map _ = _; rw [ih]; rfl
theorem dictPD_strs {l : List Str} {f : Str → D} (h : l.Nodup) : dictPD [.lst (l.map fun w => .tup [.str w, f w])] = some (l.map fun w => ((Sum.inr w : Key), f w)) := by
  show (pairsD _).bind _ = _
  rw [pairsD_strs]
  show (if _ then _ else _) = _
  refine if_pos ?_
  rw [List.map_map]
  show (l.map Sum.inr).Nodup
  exact h.map (f := (Sum.inr : Str → Key)) fun a b h e => h (Sum.inr.inj e)
end Mi

namespace Mi
open PySem PySem.Spec PyProof.Rows L2
/-! ### == of data, part by part -/
def EqP (n : Nat) (d e : D) (b : Bool) : Prop := ∃ p q, toPy d = some p ∧ toPy e = some q ∧ (p.canLay0 = true ∧ p.depth ≤ n) ∧ (q.canLay0 = true ∧ q.depth ≤ n) ∧ PyData.eqv p q = b
def EqPs (n : Nat) (ds es : List D) (b : Bool) : Prop := ∃ ps qs, toPys ds = some ps ∧ toPys es = some qs ∧ (PyData.canLayAll0 ps = true ∧ PyData.depthAll ps ≤ n) ∧ (PyData.canLayAll0 qs = true ∧ PyData.depthAll qs ≤ n) ∧ PyData.eqvAll ps qs = b
theorem eqD_of {d e : D} {b : Bool} (h : EqP 64 d e b) {neg : Bool} : eqD neg d e = some (.bl (neg ^^ b)) := by
  obtain ⟨p, q, h1, h2, h3, h4, rfl⟩ := h
  unfold eqD
  simp only [h1, h2]
  have sh : SeqAt.shaped p = true := by show (p.canLay0 && decide (p.depth ≤ 64)) = true; rw [h3.1, decide_eq_true h3.2]; rfl
  have sh2 : SeqAt.shaped q = true := by show (q.canLay0 && decide (q.depth ≤ 64)) = true; rw [h4.1, decide_eq_true h4.2]; rfl
  rw [sh, sh2]
  rfl
theorem EqP.mono {n m : Nat} {d e : D} {b : Bool} (h : EqP n d e b) (k : n ≤ m) : EqP m d e b := by
  obtain ⟨p, q, h1, h2, h3, h4, h5⟩ := h
  exact ⟨p, q, h1, h2, ⟨h3.1, by omega⟩, ⟨h4.1, by omega⟩, h5⟩
theorem eqp_str {n : Nat} {i j : Str} (hi : PyData.strOk i = true) (hj : PyData.strOk j = true) : EqP n (.str i) (.str j) (decide (i = j)) := by
  refine ⟨.str i, .str j, rfl, rfl, ⟨by simpa [PyData.canLay0] using hi, by simp [PyData.depth]⟩, ⟨by simpa [PyData.canLay0] using hj, by simp [PyData.depth]⟩, ?_⟩
  show (i == j) = _
  by_cases c : i = j
  · subst c; simp
  · simp [c]
theorem eqp_bl {n : Nat} {i j : Bool} : EqP n (.bl i) (.bl j) (decide (i = j)) := by
  refine ⟨.bool i, .bool j, rfl, rfl, ⟨rfl, by simp [PyData.depth]⟩, ⟨rfl, by simp [PyData.depth]⟩, ?_⟩
  show (i == j) = _
  cases i <;> cases j <;> rfl
theorem eqp_int {n : Nat} {i j : Int} : EqP n (.int i) (.int j) (decide (i = j)) := by
  refine ⟨.int i, .int j, rfl, rfl, ⟨rfl, by simp [PyData.depth]⟩, ⟨rfl, by simp [PyData.depth]⟩, ?_⟩
  show (i == j) = _
  by_cases c : i = j
  · subst c; simp
  · simp [c]
theorem eqps_nil {n : Nat} : EqPs n [] [] true := ⟨[], [], rfl, rfl, ⟨rfl, by simp [PyData.depthAll]⟩, ⟨rfl, by simp [PyData.depthAll]⟩, rfl⟩
theorem eqps_cons {n : Nat} {d e : D} {ds es : List D} {b c : Bool} (h : EqP n d e b) (k : EqPs n ds es c) : EqPs n (d :: ds) (e :: es) (b && c) := by
  obtain ⟨p, q, h1, h2, h3, h4, rfl⟩ := h
  obtain ⟨ps, qs, k1, k2, k3, k4, rfl⟩ := k
  exact ⟨p :: ps, q :: qs, by simp [toPys, h1, k1], by simp [toPys, h2, k2], ⟨by simp [PyData.canLayAll0, h3.1, k3.1], by simp only [PyData.depthAll]; omega⟩, ⟨by simp [PyData.canLayAll0, h4.1, k4.1], by simp only [PyData.depthAll]; omega⟩, rfl⟩
theorem eqp_tup {n : Nat} {ds es : List D} {b : Bool} (h : EqPs n ds es b) : EqP (n + 1) (.tup ds) (.tup es) b := by
  obtain ⟨ps, qs, k1, k2, k3, k4, rfl⟩ := h
  exact ⟨.tuple ps, .tuple qs, by simp [toPy, k1], by simp [toPy, k2], ⟨by simpa [PyData.canLay0] using k3.1, by simp only [PyData.depth]; omega⟩, ⟨by simpa [PyData.canLay0] using k4.1, by simp only [PyData.depth]; omega⟩, rfl⟩
theorem eqp_lst {n : Nat} {ds es : List D} {b : Bool} (h : EqPs n ds es b) : EqP (n + 1) (.lst ds) (.lst es) b := by
  obtain ⟨ps, qs, k1, k2, k3, k4, rfl⟩ := h
  exact ⟨.list ps, .list qs, by simp [toPy, k1], by simp [toPy, k2], ⟨by simpa [PyData.canLay0] using k3.1, by simp only [PyData.depth]; omega⟩, ⟨by simpa [PyData.canLay0] using k4.1, by simp only [PyData.depth]; omega⟩, rfl⟩
/-- data that can be laid, and its depth -/
theorem eqps_len {n : Nat} : ∀ {ds es : List D}, (∀ d ∈ ds, PyOk n d) → (∀ d ∈ es, PyOk n d) → ds.length ≠ es.length → EqPs n ds es false := by
  intro ds es h1 h2 hl
  obtain ⟨ps, a1, a2, a3⟩ := pyok_all h1
  obtain ⟨qs, b1, b2, b3⟩ := pyok_all h2
  refine ⟨ps, qs, a1, b1, ⟨a2, a3⟩, ⟨b2, b3⟩, ?_⟩
  have len : ∀ {ds : List D} {ps : List PyData}, toPys ds = some ps → ds.length = ps.length := by
    intro ds
    induction ds with
    | nil => intro ps h; cases h; rfl
    | cons d ds ih =>
      intro ps h
      simp only [toPys] at h
      split at h
      · rename_i p1 q1 e1 e2
        cases h
        simp [ih e2]
      · cases h
  have hl : ps.length ≠ qs.length := by rw [← len a1, ← len b1]; exact hl
  clear a1 a2 a3 b1 b2 b3 h1 h2 len
  induction ps generalizing qs with
  | nil => cases qs with
    | nil => exact absurd rfl hl
    | cons q qs => rfl
  | cons p ps ih => cases qs with
    | nil => rfl
    | cons q qs =>
      show (_ && PyData.eqvAll ps qs) = false
      rw [ih qs (by simpa using hl)]
      simp
theorem eqps_map {α : Type} [DecidableEq α] {n : Nat} {f : α → D} {l m : List α} (hl : ∀ a ∈ l, PyOk n (f a)) (hm : ∀ a ∈ m, PyOk n (f a)) (h : ∀ a ∈ l, ∀ b ∈ m, EqP n (f a) (f b) (decide (a = b))) : EqPs n (l.map f) (m.map f) (decide (l = m)) := by
  induction l generalizing m with
  | nil => cases m with
    | nil => simpa using eqps_nil
    | cons b m =>
      have := eqps_len (n := n) (ds := []) (es := (b :: m).map f) (by simp) (fun d hd => by obtain ⟨a, ha, rfl⟩ := List.mem_map.mp hd; exact hm a ha) (by simp)
      simpa using this
  | cons a l ih => cases m with
    | nil =>
      have := eqps_len (n := n) (ds := (a :: l).map f) (es := []) (fun d hd => by obtain ⟨a, ha, rfl⟩ := List.mem_map.mp hd; exact hl a ha) (by simp) (by simp)
      simpa using this
    | cons b m =>
      have e : decide (a :: l = b :: m) = (decide (a = b) && decide (l = m)) := by rw [Bool.eq_iff_iff]; simp
      rw [e]
      exact eqps_cons (h a (.head _) b (.head _)) (ih (fun x hx => hl x (.tail _ hx)) (fun x hx => hm x (.tail _ hx)) fun x hx y hy => h x (.tail _ hx) y (.tail _ hy))
theorem eqp_strs {l m : List Str} (hl : ∀ w ∈ l, NmOk w) (hm : ∀ w ∈ m, NmOk w) : EqP 1 (.tup (l.map .str)) (.tup (m.map .str)) (decide (l = m)) :=
  eqp_tup (n := 0) (eqps_map (fun a h => pyok_str (hl a h).sok) (fun a h => pyok_str (hm a h).sok) fun a h b k => eqp_str (hl a h).sok (hm b k).sok)
end Mi

namespace Mi
open PySem PySem.Spec PyProof.Rows L2
variable {R : List D}
/-! ### Tongue(list, list, list) -/
theorem names_areL {ws tk : List Str} {m : Int} {T : D} (hT : T = .tup (tk.map .str) ∨ T = .lst (tk.map .str)) (hm : (ws.length : Int) ≤ m) (hl : ws.length ≤ 10) (h : ∀ w ∈ ws, NmOk w) (hd : ws.Nodup) (ht : ∀ w ∈ ws, w ∉ tk) {t : List D} {Q : D → S → Prop} (k : Q (.bl true) ⟨[], t⟩) :
    Wp (g_are_names [.lst (ws.map .str), .int m, T] ⟨[], t⟩) Q := by
  have g1 : ¬ m < (ws.length : Int) := by omega
  have g2 : ws.length < lim := by show _ < 1000000; omega
  have hc : ∀ {s : S} {Q : D → S → Prop}, Wp (cont (.val T) s) Q = Q T s := by rcases hT with rfl | rfl <;> (intros; rfl)
  have hi : ∀ w, inD false (.str w) T = some (.bl (decide (w ∈ tk))) := fun w => by rcases hT with rfl | rfl; exact in_tups _ _; exact in_strs _ _
  clear hT
  simp [g_are_names, b_are_names, g1, g2]
  refine wp_forL_inv (fun i s => ∃ x, s = ⟨[.val (.lst (ws.map .str)), .val (.int m), .val T, .own (dk (ws.take i)), x], t⟩) ⟨_, rfl⟩ ?_ ?_
  · rintro i d s hi' ⟨x, rfl⟩
    refine ⟨_, rfl, ?_⟩
    rw [List.getElem?_map] at hi'
    obtain ⟨w, hw, e⟩ := Option.map_eq_some_iff.mp hi'
    subst e
    have il := (List.getElem?_eq_some_iff.mp hw).1
    have ew := (List.getElem?_eq_some_iff.mp hw).2
    have mem := List.mem_of_getElem? hw
    have nk : w ∉ KEPT_WORDS_ws := (h w mem).2.2.2
    have nt := ht w mem
    have ni : w ∉ ws.take i := by
      intro hmem
      obtain ⟨j, hj, ej⟩ := List.mem_take_iff_getElem.mp hmem
      have hj' : j < i := by omega
      have := List.pairwise_iff_getElem.mp hd j i (by omega) il hj'
      exact this (ej.trans ew.symm)
    have st : setD (dk (ws.take i)) (.str w) (.bl true) = some (dk (ws.take (i + 1))) := by
      rw [set_dk (by simp; omega)]
      unfold addW
      rw [if_neg ni, List.take_succ, hw]
      rfl
    simp
    refine word_ok (h w mem) ?_
    simp [inWD, nk, hc, hi, nt, ni, st]
  · rintro s ⟨x, rfl⟩
    simpa using k
theorem funs_areL {ws tk : List Str} (hl : ws.length ≤ 1) (h : ∀ w ∈ ws, w ∈ tk) {t : List D} {Q : D → S → Prop} (k : Q (.bl true) ⟨[], t⟩) :
    Wp (g_are_functions [.lst (ws.map .str), .tup (tk.map .str)] ⟨[], t⟩) Q := by
  have g1 : ¬ (1 : Int) < (ws.length : Int) := by omega
  have g2 : ws.length < lim := by show _ < 1000000; omega
  simp [g_are_functions, b_are_functions, g1, g2]
  refine wp_forL_inv (fun i s => ∃ x, s = ⟨[.val (.lst (ws.map .str)), .val (.tup (tk.map .str)), x], t⟩) ⟨_, rfl⟩ ?_ ?_
  · rintro i d s hi ⟨x, rfl⟩
    refine ⟨_, rfl, ?_⟩
    obtain ⟨w, hw, e⟩ := List.mem_map.mp (List.mem_of_getElem? hi)
    subst e
    simp [key_ok, h w hw]
  · rintro s ⟨x, rfl⟩
    simpa using k
theorem tinit_okL {mk ti fu : List Str} (h : ShOk mk ti fu) {t : List D} {Q : D → S → Prop} (k : Q (tgD mk ti fu) ⟨[], t⟩) : Wp (g_Tongue___init__ [.lst (mk.map .str), .lst (ti.map .str), .lst (fu.map .str)] ⟨[], t⟩) Q := by
  simp [g_Tongue___init__, b_Tongue___init__]
  refine names_areL (tk := []) (.inl rfl) (by have := h.m3; omega) (by have := h.m3; omega) h.mn h.md (by simp) ?_
  simp
  refine names_areL (.inr rfl) (by have := h.t2; omega) (by have := h.t2; omega) h.tn h.td h.ap ?_
  simp
  refine funs_areL h.f1 h.fs ?_
  simp [putFD]
  exact k
/-! ### one case -/
abbrev Cs := List Str × List Str × List Str
def csD (c : Cs) : D := shD c.1 c.2.1 c.2.2
def csT (c : Cs) : D := tgD c.1 c.2.1 c.2.2
def CsOk (c : Cs) : Prop := ShOk c.1 c.2.1 c.2.2
theorem dec3 {c c' : Cs} : decide (c = c') = (decide (c.1 = c'.1) && (decide (c.2.1 = c'.2.1) && decide (c.2.2 = c'.2.2))) := by
  rw [Bool.eq_iff_iff]
  simp [Prod.ext_iff]
theorem CsOk.fn {c : Cs} (h : CsOk c) : ∀ w ∈ c.2.2, NmOk w := fun w hw => ShOk.tn h w (ShOk.fs h w hw)
theorem csD_eq {c c' : Cs} (h : CsOk c) (h' : CsOk c') {neg : Bool} : eqD neg (csD c) (csD c') = some (.bl (neg ^^ decide (c = c'))) := by
  refine eqD_of ?_
  rw [dec3]
  refine (eqp_tup (n := 1) (eqps_cons (eqp_strs (ShOk.mn h) (ShOk.mn h')) (eqps_cons (eqp_strs (ShOk.tn h) (ShOk.tn h')) (b := decide (c.2.1 = c'.2.1)) (c := decide (c.2.2 = c'.2.2)) ?_))).mono (by omega)
  have := eqps_cons (eqp_strs h.fn h'.fn) eqps_nil
  rw [Bool.and_true] at this
  exact this
theorem teq2 {c c' : Cs} (h : CsOk c) (h' : CsOk c') {t : List D} {Q : D → S → Prop} : Wp (g_Tongue___eq__ [csT c, csT c'] ⟨[], t⟩) Q = Q (.bl (decide (c = c'))) ⟨[], t⟩ := by
  have e1 : tyN (csT c') = some (.inr 0) := rfl
  have e2 : isa_own_Tongue (.inr 0) = some true := rfl
  have q1 := eqD_of ((eqp_strs (ShOk.mn h) (ShOk.mn h')).mono (m := 64) (by omega)) (neg := false)
  have q2 := eqD_of ((eqp_strs (ShOk.tn h) (ShOk.tn h')).mono (m := 64) (by omega)) (neg := false)
  have q3 := eqD_of ((eqp_strs h.fn h'.fn).mono (m := 64) (by omega)) (neg := false)
  rw [dec3]
  obtain ⟨a, b, f⟩ := c
  obtain ⟨a', b', f'⟩ := c'
  by_cases c1 : a = a'
  · by_cases c2 : b = b'
    · simp only [csT] at *
      subst c1 c2
      simp [g_Tongue___eq__, b_Tongue___eq__, e1, e2, q1, q2, q3]
    · simp only [csT] at *
      subst c1
      simp [g_Tongue___eq__, b_Tongue___eq__, e1, e2, q1, q2, q3, c2]
  · simp only [csT] at *
    simp [g_Tongue___eq__, b_Tongue___eq__, e1, e2, q1, q2, q3, c1]
theorem teq_o {c : Cs} {d : D} {k : String ⊕ Nat} (e1 : tyN d = some k) (e2 : isa_own_Tongue k = some false) (hc : ∀ {s : S} {Q : D → S → Prop}, Wp (cont (.val d) s) Q = Q d s) {t : List D} {Q : D → S → Prop} : Wp (g_Tongue___eq__ [csT c, d] ⟨[], t⟩) Q = Q (.bl false) ⟨[], t⟩ := by
  simp [g_Tongue___eq__, b_Tongue___eq__, e1, e2, hc]
end Mi

namespace Mi
open PySem PySem.Spec PyProof.Rows L2
variable {R : List D}
def prLs (l : List (Nat × Nat)) : D := .lst (l.map prD)
theorem pairs_okL {l : List (Nat × Nat)} {n : Nat} (hd : l.Nodup) (hn : ∀ p ∈ l, p.1 < n ∧ p.2 < n) (hl : l.length < 100000) {t : List D} {Q : D → S → Prop} (k : Q (.bl true) ⟨[], t⟩) : Wp (g_are_pairs [.lst (l.map prD), .int n] ⟨[], t⟩) Q := by
  have ll : l.length < lim := by show _ < 1000000; omega
  simp [g_are_pairs, b_are_pairs, ll]
  refine wp_forL_inv (fun i s => ∃ x, s = ⟨[.val (.lst (l.map prD)), .val (.int n), .own (dkP (l.take i)), x], t⟩) ⟨_, rfl⟩ ?_ ?_
  · rintro i d s hi ⟨x, rfl⟩
    rw [List.getElem?_map] at hi
    obtain ⟨a, ha, rfl⟩ := Option.map_eq_some_iff.mp hi
    have am := List.mem_of_getElem? ha
    have st := set_dkP (nd_take hd ha) (by rw [List.length_take]; omega)
    have tk : l.take i ++ [a] = l.take (i + 1) := by rw [List.take_succ, ha]; rfl
    rw [tk] at st
    refine ⟨_, rfl, ?_⟩
    have nk := nd_take hd ha
    simp [pair_ok (hn a am).1 (hn a am).2, in_dkP, nk, st]
  · rintro s ⟨x, rfl⟩
    simpa using k
theorem function_okL {l : List (Nat × Nat)} {n : Nat} (h : (l.map (·.1)).Perm (List.range n)) (hl : l.length < 100000) (hn : n < 1000) {t : List D} {Q : D → S → Prop} (k : Q (.bl true) ⟨[], t⟩) : Wp (g_is_function [prLs l, .int n] ⟨[], t⟩) Q := by
  have ll : l.length < lim := by show _ < 1000000; omega
  simp [g_is_function, b_is_function, prLs, ll]
  refine lc_filt (xs := l) (en := prD) (h := fun p => .int (p.1 : Int)) (f := fun _ => true) rfl (by simp [freeOf]) (by have := h.length_eq; simp at this; omega) (fun a _ => ⟨_, rfl, ?_⟩) ?_
  · simp [wipeE, freeOf, backE, prD]
  · have e0 : l.filter (fun _ => true) = l := by simp
    rw [e0]
    have e1 : (l.map fun p => D.int (p.1 : Int)) = ((l.map (·.1)).map fun (i : Nat) => (i : Int)).map D.int := by simp [List.map_map, Function.comp_def]
    have e2 : sortD [.lst (l.map fun p => D.int (p.1 : Int))] = some (((List.range n).map fun (i : Nat) => (i : Int)).map D.int) := by
      rw [e1]
      show (intsD _).map _ = _
      rw [intsD_map, Option.map_some, sortI_range (h.map _)]
    have e3 : ((List.range n).map fun (i : Nat) => D.int (i : Int)) = ((List.range n).map fun (i : Nat) => (i : Int)).map D.int := by simp [List.map_map, Function.comp_def]
    have py : ∀ {b}, eqD b (.lst (((List.range n).map fun (i : Nat) => (i : Int)).map D.int)) (.lst (((List.range n).map fun (i : Nat) => (i : Int)).map D.int)) = some (.bl (b ^^ true)) := fun {b} => eqD_refl ((pyok_lst (n := 0) fun d hd => by
      obtain ⟨i, _, rfl⟩ := List.mem_map.mp hd
      exact pyok_int).mono (by omega))
    have hn0 : (0 : Int) ≤ n ∧ (n : Int) ≤ 1000000 := ⟨by omega, by omega⟩
    obtain ⟨X, hX⟩ : ∃ X, X = ((List.range n).map fun (i : Nat) => (i : Int)).map D.int := ⟨_, rfl⟩
    rw [← hX] at e2 e3 py
    simp [e2, nRng, hn0, py, e3]
    exact k
theorem ties_ckL {l mk ti fu : List Str} {n : Nat} {T : Str → List (Nat × Nat)} (hp : l.Perm ti) (hl : ti.length < 100) (hn : n < 1000) (hT : ∀ w ∈ ti, (T w).Nodup ∧ (∀ p ∈ T w, p.1 < n ∧ p.2 < n) ∧ (T w).length < 100000) (hf : ∀ w ∈ fu, ((T w).map (·.1)).Perm (List.range n)) {t : List D} {Q : D → S → Prop} (k : Q .non ⟨[], t⟩) :
    Wp (g_check_ties [tgD mk ti fu, .int n, dkN l fun w => prLs (T w)] ⟨[], t⟩) Q := by
  have e := hp.length_eq
  simp [g_check_ties, b_check_ties]
  refine dict_of_ok hp hl ?_
  simp
  rw [forK_dkN (l := l) (f := fun w => prLs (T w)) rfl (by omega)]
  refine wp_forL_inv (fun i s => ∃ x, s = ⟨[.val (tgD mk ti fu), .val (.int n), .val (dkN l fun w => prLs (T w)), x], t⟩) ⟨_, rfl⟩ ?_ ?_
  · rintro i d s hi ⟨x, rfl⟩
    rw [List.getElem?_map] at hi
    obtain ⟨w, hw, rfl⟩ := Option.map_eq_some_iff.mp hi
    have wl := List.mem_of_getElem? hw
    obtain ⟨h1, h2, h3⟩ := hT w (hp.mem_iff.mp wl)
    refine ⟨_, rfl, ?_⟩
    simp [ix_dkN (f := fun w => prLs (T w)) wl]
    refine pairs_okL h1 h2 h3 ?_
    by_cases c : w ∈ fu
    · simp [in_tups, c, ix_dkN (f := fun w => prLs (T w)) wl]
      refine function_okL (hf w c) h3 hn ?_
      simp
    · simp [in_tups, c]
  · rintro s ⟨x, rfl⟩
    simpa using k
theorem init_okL {mk ti fu lm lt : List Str} (hs : ShOk mk ti fu) {n : Nat} {M : Str → List Nat} {T : Str → List (Nat × Nat)} (n1 : 1 ≤ n) (hn : n < 300) (hm : lm.Perm mk) (ht : lt.Perm ti) (hM : ∀ w ∈ mk, (M w).Nodup ∧ (∀ i ∈ M w, i < n) ∧ (M w).length < 100000)
    (hT : ∀ w ∈ ti, (T w).Nodup ∧ (∀ p ∈ T w, p.1 < n ∧ p.2 < n) ∧ (T w).length < 100000) (hf : ∀ w ∈ fu, ((T w).map (·.1)).Perm (List.range n)) {t : List D} {Q : D → S → Prop} (k : Q (wdD mk ti fu n M T) ⟨[], t⟩) :
    Wp (g_World___init__ [tgD mk ti fu, .int n, dkN lm fun w => inL (M w), dkN lt fun w => prLs (T w)] ⟨[], t⟩) Q := by
  have m3 := hs.m3
  have t2 := hs.t2
  have hw := fun {t Q} => within_ok (i := n) (a := 1) (b := 300) (t := t) (Q := Q)
  rw [decide_eq_true (by omega)] at hw
  simp [g_World___init__, b_World___init__, hw]
  refine marks_ck hm (by omega) hM ?_
  simp
  refine ties_ckL ht (by omega) (by omega) hT hf ?_
  simp [putFD, -dic_nil, show mk.length < lim by show _ < 1000000; omega]
  refine dc_all (fun i => dkN (mk.take i) fun w => dkI (M w)) (by simp [freeOf]) rfl (fun i d hd => ?_) ?_
  · rw [List.getElem?_map] at hd
    obtain ⟨w, hwi, rfl⟩ := Option.map_eq_some_iff.mp hd
    have wm := List.mem_of_getElem? hwi
    obtain ⟨h1, h2, h3⟩ := hM w wm
    refine ⟨_, rfl, ?_⟩
    simp [wipeE, -dic_nil, ix_dkN (f := fun w => inL (M w)) (hm.mem_iff.mpr wm)]
    simp [inL, -dic_nil, show (M w).length < lim by show _ < 1000000; omega]
    refine dc_all (fun i => dkI ((M w).take i)) (by simp [freeOf]) rfl (fun j d hd => ?_) ?_
    · rw [List.getElem?_map] at hd
      obtain ⟨a, ha, rfl⟩ := Option.map_eq_some_iff.mp hd
      refine ⟨_, rfl, ?_⟩
      simp [wipeE, freeOf, backE, dkI_take h1 ha h3]
    · rw [List.length_map, List.take_length]
      simp [freeOf, backE, dkN_take (f := fun w => dkI (M w)) hs.md hwi (by omega)]
  · rw [List.length_map, List.take_length]
    simp [putFD, -dic_nil, show ti.length < lim by show _ < 1000000; omega]
    refine dc_all (fun i => dkN (ti.take i) fun w => dkP (T w)) (by simp [freeOf]) rfl (fun i d hd => ?_) ?_
    · rw [List.getElem?_map] at hd
      obtain ⟨w, hwi, rfl⟩ := Option.map_eq_some_iff.mp hd
      have wm := List.mem_of_getElem? hwi
      obtain ⟨h1, h2, h3⟩ := hT w wm
      refine ⟨_, rfl, ?_⟩
      simp [wipeE, -dic_nil, ix_dkN (f := fun w => prLs (T w)) (ht.mem_iff.mpr wm)]
      simp [prLs, -dic_nil, show (T w).length < lim by show _ < 1000000; omega]
      refine dc_all (fun i => dkP ((T w).take i)) (by simp [freeOf]) rfl (fun j d hd => ?_) ?_
      · rw [List.getElem?_map] at hd
        obtain ⟨a, ha, rfl⟩ := Option.map_eq_some_iff.mp hd
        refine ⟨_, rfl, ?_⟩
        simp [wipeE, freeOf, backE, dkP_take h1 ha h3]
      · rw [List.length_map, List.take_length]
        simp [freeOf, backE, dkN_take (f := fun w => dkP (T w)) hs.td hwi (by omega)]
    · rw [List.length_map, List.take_length]
      simp [putFD]
      exact k
end Mi

namespace Mi
open PySem PySem.Spec PyProof.Rows L2
def t3p : M Fl := (sExpr (eMu isLst appD (vr 3) (aCons (eTup (aCons (vr 7) (aCons (vr 8) (aCons (eSl (vr 8) pNo (pSo (eCall g__law_draw (aCons (vr 1) (aCons (kk (.int (2 : Int))) aNil))))) aNil)))) aNil)))
def t3i : M Fl := (sIf (mAnd (tstB (op2 (eqD false) (eCall g__law_draw (aCons (vr 1) (aCons (kk (.int (2 : Int))) aNil))) (kk (.int (0 : Int))))) (tstB (op2 (cmpD fun i j => decide (j < i)) (opC lenD (aCons (vr 3) aNil)) (kk (.int (0 : Int))))))
    (sAsg (gT (gsC (gN 7) (gsC (gN 8) gsN)) 2) (eSl (op2 ixD (vr 3) (op1 negD (kk (.int (1 : Int))))) pNo (pSo (kk (.int (2 : Int))))))
    sNx)
def t3a : M Fl := (sAsg (gN 7) (opC tupleD (aCons (eSl (eCall g__law_mixed (aCons (vr 1) (aCons (eSl (vr 2) pNo (pSo (kk (.int (3 : Int))))) aNil))) pNo (pSo (eCall g__law_draw (aCons (vr 1) (aCons (kk (.int (4 : Int))) aNil))))) aNil)))
def t3b : M Fl := (sAsg (gN 8) (opC tupleD (aCons (eSl (eCall g__law_mixed (aCons (vr 1) (aCons (eSl (vr 2) (pSo (kk (.int (3 : Int)))) pNo) aNil))) pNo (pSo (eCall g__law_draw (aCons (vr 1) (aCons (kk (.int (3 : Int))) aNil))))) aNil)))
def t3Body : M Fl :=
  (sSeq t3a
    (sSeq t3b
    (sSeq t3i
    t3p)))
def m3Body : M Fl :=
  (sSeq (sAsg (gN 13) (op2 (eqD false) (op2 ixD (vr 3) (vr 6)) (op2 ixD (vr 3) (vr 9))))
    (sIf (mOr (tstB (op2 (eqD true) (eO false 0 oth_Tongue g_Tongue___eq__ (op2 ixD (vr 5) (vr 6)) (op2 ixD (vr 5) (vr 9))) (vr 13))) (tstB (op2 (eqD false) (eO true 0 oth_Tongue g_Tongue___eq__ (op2 ixD (vr 5) (vr 6)) (op2 ixD (vr 5) (vr 9))) (vr 13))))
    (sRet (kk (.bl false)))
    sNx))
def o3Body : M Fl :=
  (sIf (mOr (tstB (eO false 0 oth_Tongue g_Tongue___eq__ (op2 ixD (vr 5) (vr 6)) (vr 11))) (mNot (tstB (eO true 0 oth_Tongue g_Tongue___eq__ (op2 ixD (vr 5) (vr 6)) (vr 11)))))
    (sRet (kk (.bl false)))
    sNx)
def w3Body : M Fl :=
  (sSeq (sFor (iRng1 (aCons (opC lenD (aCons (vr 3) aNil)) aNil)) (gN 9)
    m3Body)
    (sSeq (sAsg (gN 10) (eFrz (nMake g_World___init__ (aCons (op2 ixD (vr 5) (vr 6)) (aCons (kk (.int (1 : Int))) (aCons (eFrz (nCK dictPD (aCons (eFrz (nLc (iSeq (op2 ixD (op2 ixD (vr 3) (vr 6)) (kk (.int (0 : Int))))) (gN 14) (ret true) (eTup (aCons (vr 14) (aCons (eFrz (nLst aNil)) aNil))) [14])) aNil))) (aCons (eFrz (nCK dictPD (aCons (eFrz (nLc (iSeq (op2 ixD (op2 ixD (vr 3) (vr 6)) (kk (.int (1 : Int))))) (gN 14) (ret true) (eTup (aCons (vr 14) (aCons (eFrz (nLst (aCons (eTup (aCons (kk (.int (0 : Int))) (aCons (kk (.int (0 : Int))) aNil))) aNil))) aNil))) [14])) aNil))) aNil)))))))
    (sFor (iSeq (eFrz (nLst (aCons (kk .non) (aCons (op2 ixD (vr 3) (vr 6)) (aCons (eFrz (nC listD (aCons (op2 ixD (vr 3) (vr 6)) aNil))) (aCons (kk (.bl true)) (aCons (kk (.int (0 : Int))) (aCons (kk (.str ("" : Str))) (aCons (eFrz (ret (.dic []))) (aCons (vr 10) aNil))))))))))) (gN 11)
    o3Body)))
theorem b_law_eq : b_law =
  (sSeq (sAsg (gN 1) (eCall g__law_pool (aCons (vr 0) aNil)))
    (sSeq (sAsg (gN 2) (eCall g__law_names (aCons (vr 1) (aCons (kk (.int (5 : Int))) aNil))))
    (sSeq (sOwn 3 (nLst aNil))
    (sSeq (sFor (iRng1 (aCons (kk (.int (5 : Int))) aNil)) (gN 4)
    t3Body)
    (sSeq (sExpr (eMu isLst appD (vr 3) (aCons (eTup (aCons (op2 ixD (op2 ixD (vr 3) (kk (.int (0 : Int)))) (kk (.int (1 : Int)))) (aCons (eTup aNil) (aCons (eTup aNil) aNil)))) aNil)))
    (sSeq (sExpr (eMu isLst appD (vr 3) (aCons (eTup (aCons (eTup aNil) (aCons (op2 ixD (op2 ixD (vr 3) (kk (.int (0 : Int)))) (kk (.int (1 : Int)))) (aCons (eTup aNil) aNil)))) aNil)))
    (sSeq (sAsg (gN 5) (eFrz (nLc (iSeq (vr 3)) (gN 12) (ret true) (eFrz (nMake g_Tongue___init__ (aCons (eFrz (nC listD (aCons (op2 ixD (vr 12) (kk (.int (0 : Int)))) aNil))) (aCons (eFrz (nC listD (aCons (op2 ixD (vr 12) (kk (.int (1 : Int)))) aNil))) (aCons (eFrz (nC listD (aCons (op2 ixD (vr 12) (kk (.int (2 : Int)))) aNil))) aNil))))) [12])))
    (sSeq (sFor (iRng1 (aCons (opC lenD (aCons (vr 3) aNil)) aNil)) (gN 6)
    w3Body)
    (sRet (kk (.bl true))))))))))) := rfl

variable {R : List D}
theorem ShOk.take' {mk ti fu : List Str} (h : ShOk mk ti fu) (n : Nat) (hn : n ≤ 1) : ShOk mk ti (ti.take n) := { h with
  f1 := by rw [List.length_take]; omega
  fs := fun w h => List.mem_of_mem_take h }
theorem sh_cut {ws v u : List Str} (hl : ws.length = 5) (hn : ∀ w ∈ ws, NmOk w) (hd : ws.Nodup) (hv : v.Perm (ws.take 3)) (hu : u.Perm (ws.drop 3)) (a b n : Nat) (hn1 : n ≤ 1) : ShOk (v.take a) (u.take b) ((u.take b).take n) where
  mn := fun w h => hn w (List.mem_of_mem_take (hv.mem_iff.mp (List.mem_of_mem_take h)))
  tn := fun w h => hn w (List.mem_of_mem_drop (hu.mem_iff.mp (List.mem_of_mem_take h)))
  md := (hv.nodup_iff.mpr (hd.sublist (List.take_sublist _ _))).sublist (List.take_sublist _ _)
  td := (hu.nodup_iff.mpr (hd.sublist (List.drop_sublist _ _))).sublist (List.take_sublist _ _)
  ap := fun w h h2 => by
    have h3 := hu.mem_iff.mp (List.mem_of_mem_take h)
    have h4 := hv.mem_iff.mp (List.mem_of_mem_take h2)
    have h5 : (ws.take 3 ++ ws.drop 3).Nodup := by rw [List.take_append_drop]; exact hd
    exact (List.nodup_append.mp h5).2.2 w h4 w h3 rfl
  m3 := by have := hv.length_eq; rw [List.length_take] at this ⊢; omega
  t2 := by have := hu.length_eq; rw [List.length_drop] at this; rw [List.length_take]; omega
  f1 := by rw [List.length_take]; omega
  fs := fun w h => List.mem_of_mem_take h

theorem fin3 {B : M Fl} (hB : B = t3p) {ws mk ti : List Str} {cs : List Cs} (h : ∀ n, n ≤ 1 → ShOk mk ti (ti.take n)) (hlen : cs.length ≤ 10) {x0 s4 s5 s6 s9 s10 s11 s12 s13 s14 : Slot} {t : List D} (hp : PoolOk R t) {Q : Fl → S → Prop}
    (k : ∀ c t' s7 s8, CsOk c → PoolOk R t' → Q .nx ⟨[x0, .val (.ptr 1), .val (.lst (ws.map .str)), .own (.lst ((cs ++ [c]).map csD)), s4, s5, s6, s7, s8, s9, s10, s11, s12, s13, s14], t'⟩) :
    Wp (B ⟨[x0, .val (.ptr 1), .val (.lst (ws.map .str)), .own (.lst (cs.map csD)), s4, s5, s6, .val (.tup (mk.map .str)), .val (.tup (ti.map .str)), s9, s10, s11, s12, s13, s14], t⟩) Q := by
  have g2 : cs.length < lim := by show _ < 1000000; omega
  have ap : ∀ x, appD (.lst (cs.map csD)) [x] = some (.lst (cs.map csD ++ [x]), .non) := fun x => by simp [appD, g2]
  rw [hB]
  simp -implicitDefEqProofs [t3p]
  refine draw_ok hp (by omega) (by omega) fun n t hn0 hn1 hp => ?_
  have hn1 : n.toNat ≤ 1 := by omega
  have := k (mk, ti, ti.take n.toNat) t (.val (.tup (mk.map .str))) (.val (.tup (ti.map .str))) (h _ hn1) hp
  simp -implicitDefEqProofs [csD, shD] at this
  simp -implicitDefEqProofs [cutD_take, hn0, ap]
  exact this
theorem if3 {B P : M Fl} (hB : B = t3i) {ws mk ti : List Str} {cs : List Cs} (hc : ∀ c ∈ cs, CsOk c) (hlen : cs.length ≤ 10) (h0 : ∀ n, n ≤ 1 → ShOk mk ti (ti.take n)) {x0 s4 s5 s6 s9 s10 s11 s12 s13 s14 : Slot} {t : List D} (hp : PoolOk R t) {Q : Fl → S → Prop}
    (k : ∀ mk ti t, (∀ n, n ≤ 1 → ShOk mk ti (ti.take n)) → PoolOk R t → Wp (P ⟨[x0, .val (.ptr 1), .val (.lst (ws.map .str)), .own (.lst (cs.map csD)), s4, s5, s6, .val (.tup (mk.map .str)), .val (.tup (ti.map .str)), s9, s10, s11, s12, s13, s14], t⟩) Q) :
    Wp (sSeq B P ⟨[x0, .val (.ptr 1), .val (.lst (ws.map .str)), .own (.lst (cs.map csD)), s4, s5, s6, .val (.tup (mk.map .str)), .val (.tup (ti.map .str)), s9, s10, s11, s12, s13, s14], t⟩) Q := by
  have lc : lenD [.lst (cs.map csD)] = some (.int cs.length) := by simp [lenD]
  have ng : negD (.int 1) = some (.int (-1)) := rfl
  have sl : ∀ x y z, slD none (some 2) (.tup [x, y, z]) = some (.tup [x, y]) := fun _ _ _ => rfl
  rw [hB]
  simp -implicitDefEqProofs [t3i]
  with_reducible refine draw_ok hp (by omega) (by omega) ?_
  intro d t hd0 hd1 hp
  by_cases c1 : d = 0
  · by_cases c2 : 0 < cs.length
    · obtain ⟨cs', c0, ec⟩ : ∃ cs' c0, cs = cs' ++ [c0] := by
        rcases List.eq_nil_or_concat cs with h | ⟨l, x, h⟩
        · rw [h] at c2; simp at c2
        · exact ⟨l, x, by rw [h, List.concat_eq_append]⟩
      have ix : ixD (.lst (cs.map csD)) (.int (-1)) = some (csD c0) := by
        rw [ec, List.map_append]
        show atI _ _ = _
        exact atI_m1
      have h0 : CsOk c0 := hc c0 (by rw [ec]; simp)
      have := k c0.1 c0.2.1 t (fun n hn => ShOk.take' h0 n hn) hp
      simp -implicitDefEqProofs [c1, c2, lc, ix, csD, shD, cutD_take, ng, sl]
      exact this
    · have := k mk ti t h0 hp
      simp -implicitDefEqProofs [c1, c2, lc]
      exact this
  · have := k mk ti t h0 hp
    simp -implicitDefEqProofs [c1, lc]
    exact this
theorem es1 {ws : List Str} {x0 s3 s4 s5 s6 s7 s8 s9 s10 s11 s12 s13 s14 : Slot} {t : List D} {Q : Loc → S → Prop} : Wp (eSl (vr 2) pNo (pSo (kk (.int (3 : Int)))) ⟨[x0, .val (.ptr 1), .val (.lst (ws.map .str)), s3, s4, s5, s6, s7, s8, s9, s10, s11, s12, s13, s14], t⟩) Q = Q (.val (.lst ((ws.take 3).map .str))) ⟨[x0, .val (.ptr 1), .val (.lst (ws.map .str)), s3, s4, s5, s6, s7, s8, s9, s10, s11, s12, s13, s14], t⟩ := by
  simp -implicitDefEqProofs [cutD_take, cutD_from]
theorem es2 {ws : List Str} {x0 s3 s4 s5 s6 s7 s8 s9 s10 s11 s12 s13 s14 : Slot} {t : List D} {Q : Loc → S → Prop} : Wp (eSl (vr 2) (pSo (kk (.int (3 : Int)))) pNo ⟨[x0, .val (.ptr 1), .val (.lst (ws.map .str)), s3, s4, s5, s6, s7, s8, s9, s10, s11, s12, s13, s14], t⟩) Q = Q (.val (.lst ((ws.drop 3).map .str))) ⟨[x0, .val (.ptr 1), .val (.lst (ws.map .str)), s3, s4, s5, s6, s7, s8, s9, s10, s11, s12, s13, s14], t⟩ := by
  simp -implicitDefEqProofs [cutD_take, cutD_from]
theorem st3a {B N : M Fl} (hB : B = t3a) {ws : List Str} (hl : ws.length = 5) {x0 s3 s4 s5 s6 s7 s8 s9 s10 s11 s12 s13 s14 : Slot} {t : List D} (hp : PoolOk R t) {Q : Fl → S → Prop}
    (k : ∀ (v : List Str) (n : Nat) t, v.Perm (ws.take 3) → PoolOk R t → Wp (N ⟨[x0, .val (.ptr 1), .val (.lst (ws.map .str)), s3, s4, s5, s6, .val (.tup ((v.take n).map .str)), s8, s9, s10, s11, s12, s13, s14], t⟩) Q) : Wp (sSeq B N ⟨[x0, .val (.ptr 1), .val (.lst (ws.map .str)), s3, s4, s5, s6, s7, s8, s9, s10, s11, s12, s13, s14], t⟩) Q := by
  have e1 : D.lst ((ws.map .str).take 3) = .lst ((ws.take 3).map .str) := by rw [List.map_take]
  have e2 : D.lst ((ws.map .str).drop 3) = .lst ((ws.drop 3).map .str) := by rw [List.map_drop]
  have l1 : (ws.take 3).length ≤ 100000 := by rw [List.length_take]; omega
  have l2 : (ws.drop 3).length ≤ 100000 := by rw [List.length_drop]; omega
  rw [hB]
  simp -implicitDefEqProofs [t3a, ↓es1]
  with_reducible refine mixed_okE (l := ws.take 3) (en := D.str) e1 l1 hp ?_
  intro v t hp hv
  simp -implicitDefEqProofs
  with_reducible refine draw_ok hp (by omega) (by omega) ?_
  intro a t ha0 ha1 hp
  have := k v a.toNat t hv hp
  rw [List.map_take] at this
  simp -implicitDefEqProofs [cutD_take, ha0]
  exact this
theorem st3b {B N : M Fl} (hB : B = t3b) {ws : List Str} (hl : ws.length = 5) {x0 s3 s4 s5 s6 s7 s8 s9 s10 s11 s12 s13 s14 : Slot} {t : List D} (hp : PoolOk R t) {Q : Fl → S → Prop}
    (k : ∀ (v : List Str) (n : Nat) t, v.Perm (ws.drop 3) → PoolOk R t → Wp (N ⟨[x0, .val (.ptr 1), .val (.lst (ws.map .str)), s3, s4, s5, s6, s7, .val (.tup ((v.take n).map .str)), s9, s10, s11, s12, s13, s14], t⟩) Q) : Wp (sSeq B N ⟨[x0, .val (.ptr 1), .val (.lst (ws.map .str)), s3, s4, s5, s6, s7, s8, s9, s10, s11, s12, s13, s14], t⟩) Q := by
  have e1 : D.lst ((ws.map .str).take 3) = .lst ((ws.take 3).map .str) := by rw [List.map_take]
  have e2 : D.lst ((ws.map .str).drop 3) = .lst ((ws.drop 3).map .str) := by rw [List.map_drop]
  have l1 : (ws.take 3).length ≤ 100000 := by rw [List.length_take]; omega
  have l2 : (ws.drop 3).length ≤ 100000 := by rw [List.length_drop]; omega
  rw [hB]
  simp -implicitDefEqProofs [t3b, ↓es2]
  with_reducible refine mixed_okE (l := ws.drop 3) (en := D.str) e2 l2 hp ?_
  intro v t hp hv
  simp -implicitDefEqProofs
  with_reducible refine draw_ok hp (by omega) (by omega) ?_
  intro a t ha0 ha1 hp
  have := k v a.toNat t hv hp
  rw [List.map_take] at this
  simp -implicitDefEqProofs [cutD_take, ha0]
  exact this
theorem turn3_ok {B : M Fl} (hB : B = t3Body) {ws : List Str} (hl : ws.length = 5) (hn : ∀ w ∈ ws, NmOk w) (hd : ws.Nodup) {cs : List Cs} (hc : ∀ c ∈ cs, CsOk c) (hlen : cs.length ≤ 10) {x0 s4 s5 s6 a7 a8 s9 s10 s11 s12 s13 s14 : Slot} {t : List D} (hp : PoolOk R t) {Q : Fl → S → Prop}
    (k : ∀ c t' s7 s8, CsOk c → PoolOk R t' → Q .nx ⟨[x0, .val (.ptr 1), .val (.lst (ws.map .str)), .own (.lst ((cs ++ [c]).map csD)), s4, s5, s6, s7, s8, s9, s10, s11, s12, s13, s14], t'⟩) :
    Wp (B ⟨[x0, .val (.ptr 1), .val (.lst (ws.map .str)), .own (.lst (cs.map csD)), s4, s5, s6, a7, a8, s9, s10, s11, s12, s13, s14], t⟩) Q := by
  rw [hB]
  unfold t3Body
  with_reducible refine st3a rfl hl hp ?_
  intro v a t hv hp
  with_reducible refine st3b rfl hl hp ?_
  intro u b t hu hp
  with_reducible exact if3 rfl hc hlen (fun n h1 => sh_cut hl hn hd hv hu _ _ n h1) hp fun mk ti t h hp => fin3 rfl h hlen hp k
end Mi

namespace Mi
open PySem PySem.Spec PyProof.Rows L2
variable {R : List D}
def c3 : M Fl := (sAsg (gN 5) (eFrz (nLc (iSeq (vr 3)) (gN 12) (ret true) (eFrz (nMake g_Tongue___init__ (aCons (eFrz (nC listD (aCons (op2 ixD (vr 12) (kk (.int (0 : Int)))) aNil))) (aCons (eFrz (nC listD (aCons (op2 ixD (vr 12) (kk (.int (1 : Int)))) aNil))) (aCons (eFrz (nC listD (aCons (op2 ixD (vr 12) (kk (.int (2 : Int)))) aNil))) aNil))))) [12])))
@[simp] theorem ix_cs0 {c : Cs} : ixD (csD c) (.int 0) = some (.tup (c.1.map .str)) := rfl
@[simp] theorem ix_cs1 {c : Cs} : ixD (csD c) (.int 1) = some (.tup (c.2.1.map .str)) := rfl
@[simp] theorem ix_cs2 {c : Cs} : ixD (csD c) (.int 2) = some (.tup (c.2.2.map .str)) := rfl
@[simp] theorem cont_cs {c : Cs} {s : S} {Q : D → S → Prop} : Wp (cont (.val (csD c)) s) Q = Q (csD c) s := rfl
@[simp] theorem cont_csT {c : Cs} {s : S} {Q : D → S → Prop} : Wp (cont (.val (csT c)) s) Q = Q (csT c) s := rfl
theorem ix_at {l : List D} {i : Nat} {d : D} (h : l[i]? = some d) : ixD (.lst l) (.int (i : Int)) = some d := by
  show atI l (i : Int) = _
  have hi := (List.getElem?_eq_some_iff.mp h).1
  have : ixN l.length (i : Int) = some i := by
    unfold ixN
    have h0 : (0 : Int) ≤ (i : Int) := by omega
    simp [h0, hi]
  unfold atI
  rw [this]
  exact h
theorem c3_ok {B N : M Fl} (hB : B = c3) {cs : List Cs} (hc : ∀ c ∈ cs, CsOk c) (hlen : cs.length ≤ 20) {x0 x1 x2 s4 s5 s6 s7 s8 s9 s10 s11 s13 s14 : Slot} {t : List D} {Q : Fl → S → Prop}
    (k : Wp (N ⟨[x0, x1, x2, .val (.lst (cs.map csD)), s4, .val (.lst (cs.map csT)), s6, s7, s8, s9, s10, s11, .no, s13, s14], t⟩) Q) :
    Wp (sSeq B N ⟨[x0, x1, x2, .own (.lst (cs.map csD)), s4, s5, s6, s7, s8, s9, s10, s11, .no, s13, s14], t⟩) Q := by
  have g2 : cs.length < lim := by show _ < 1000000; omega
  rw [hB]
  simp -implicitDefEqProofs [c3, g2]
  refine lc_filt (xs := cs) (en := csD) (h := csT) (f := fun _ => true) rfl (by simp [freeOf, notOwn]) (by omega) (fun c hm => ⟨_, rfl, ?_⟩) ?_
  · simp [wipeE]
    refine tinit_okL (hc c hm) ?_
    simp [freeOf, backE, notOwn]
    rfl
  · have ef : cs.filter (fun _ => true) = cs := by simp
    rw [ef]
    exact k
/-! ### every two tongues -/
theorem m3_ok {B : M Fl} (hB : B = m3Body) {cs : List Cs} (hc : ∀ c ∈ cs, CsOk c) {i j : Nat} (hi : i < cs.length) (hj : j < cs.length) {x0 x1 x2 s4 s7 s8 s10 s11 s12 s13 s14 : Slot} {t : List D} {Q : Fl → S → Prop}
    (k : ∀ x, Q .nx ⟨[x0, x1, x2, .val (.lst (cs.map csD)), s4, .val (.lst (cs.map csT)), .val (.int (i : Int)), s7, s8, .val (.int (j : Int)), s10, s11, s12, x, s14], t⟩) :
    Wp (B ⟨[x0, x1, x2, .val (.lst (cs.map csD)), s4, .val (.lst (cs.map csT)), .val (.int (i : Int)), s7, s8, .val (.int (j : Int)), s10, s11, s12, s13, s14], t⟩) Q := by
  obtain ⟨c, ec⟩ : ∃ c, cs[i]? = some c := ⟨_, List.getElem?_eq_getElem hi⟩
  obtain ⟨c', ec'⟩ : ∃ c, cs[j]? = some c := ⟨_, List.getElem?_eq_getElem hj⟩
  have h := hc c (List.mem_of_getElem? ec)
  have h' := hc c' (List.mem_of_getElem? ec')
  have i1 : ixD (.lst (cs.map csD)) (.int (i : Int)) = some (csD c) := ix_at (by rw [List.getElem?_map, ec]; rfl)
  have i2 : ixD (.lst (cs.map csD)) (.int (j : Int)) = some (csD c') := ix_at (by rw [List.getElem?_map, ec']; rfl)
  have i3 : ixD (.lst (cs.map csT)) (.int (i : Int)) = some (csT c) := ix_at (by rw [List.getElem?_map, ec]; rfl)
  have i4 : ixD (.lst (cs.map csT)) (.int (j : Int)) = some (csT c') := ix_at (by rw [List.getElem?_map, ec']; rfl)
  have q := csD_eq h h' (neg := false)
  have hg : ∀ {e : List Slot}, (isCls 0 (csT c) ⟨e, t⟩ && (tyN (csT c')).any oth_Tongue) = true := rfl
  have o1 := fun {e Q} => wp_oR (neg := false) (c := 0) (oth := oth_Tongue) (g := g_Tongue___eq__) (dx := csT c) (dy := csT c') (k := decide (c = c')) (e := e) (t := t) (Q := Q) hg (teq2 h h')
  have o2 := fun {e Q} => wp_oR (neg := true) (c := 0) (oth := oth_Tongue) (g := g_Tongue___eq__) (dx := csT c) (dy := csT c') (k := decide (c = c')) (e := e) (t := t) (Q := Q) hg (teq2 h h')
  clear hg
  obtain ⟨X, hX⟩ : ∃ X, X = decide (c = c') := ⟨_, rfl⟩
  rw [← hX] at q o1 o2
  rw [hB]
  have k := k (.val (.bl X))
  have b1 := fun {x y : Bool} {n} => eqD_of (eqp_bl (n := 64) (i := x) (j := y)) (neg := n)
  cases X
  · simp -implicitDefEqProofs [m3Body, i1, i2, i3, i4, q, o1, o2, b1]
    exact k
  · simp -implicitDefEqProofs [m3Body, i1, i2, i3, i4, q, o1, o2, b1]
    exact k
/-! ### a tongue and other things -/
structure Oth (d : D) : Prop where
  ty : ∃ k, tyN d = some k ∧ isa_own_Tongue k = some false ∧ oth_Tongue k = true
  ct : ∀ {s : S} {Q : D → S → Prop}, Wp (cont (.val d) s) Q = Q d s
theorem o3_ok {B : M Fl} (hB : B = o3Body) {cs : List Cs} {i : Nat} (hi : i < cs.length) {d : D} (hd : Oth d) {x0 x1 x2 s3 s4 s7 s8 s9 s10 s12 s13 s14 : Slot} {t : List D} {Q : Fl → S → Prop}
    (k : Q .nx ⟨[x0, x1, x2, s3, s4, .val (.lst (cs.map csT)), .val (.int (i : Int)), s7, s8, s9, s10, .val d, s12, s13, s14], t⟩) :
    Wp (B ⟨[x0, x1, x2, s3, s4, .val (.lst (cs.map csT)), .val (.int (i : Int)), s7, s8, s9, s10, .val d, s12, s13, s14], t⟩) Q := by
  obtain ⟨c, ec⟩ : ∃ c, cs[i]? = some c := ⟨_, List.getElem?_eq_getElem hi⟩
  have i3 : ixD (.lst (cs.map csT)) (.int (i : Int)) = some (csT c) := ix_at (by rw [List.getElem?_map, ec]; rfl)
  obtain ⟨⟨kk, e1, e2, e3⟩, ct⟩ := hd
  have hg : ∀ {e : List Slot}, (isCls 0 (csT c) ⟨e, t⟩ && (tyN d).any oth_Tongue) = true := by
    intro e
    rw [e1]
    exact e3
  have o1 := fun {e Q} => wp_oR (neg := false) (c := 0) (oth := oth_Tongue) (g := g_Tongue___eq__) (dx := csT c) (dy := d) (k := false) (e := e) (t := t) (Q := Q) hg (teq_o e1 e2 ct)
  have o2 := fun {e Q} => wp_oR (neg := true) (c := 0) (oth := oth_Tongue) (g := g_Tongue___eq__) (dx := csT c) (dy := d) (k := false) (e := e) (t := t) (Q := Q) hg (teq_o e1 e2 ct)
  clear hg
  rw [hB]
  simp -implicitDefEqProofs [o3Body, i3, ct, o1, o2]
  exact k
end Mi

namespace Mi
open PySem PySem.Spec PyProof.Rows L2
variable {R : List D}
def w3a : M Loc := (eFrz (nCK dictPD (aCons (eFrz (nLc (iSeq (op2 ixD (op2 ixD (vr 3) (vr 6)) (kk (.int (0 : Int))))) (gN 14) (ret true) (eTup (aCons (vr 14) (aCons (eFrz (nLst aNil)) aNil))) [14])) aNil)))
def w3b : M Loc := (eFrz (nCK dictPD (aCons (eFrz (nLc (iSeq (op2 ixD (op2 ixD (vr 3) (vr 6)) (kk (.int (1 : Int))))) (gN 14) (ret true) (eTup (aCons (vr 14) (aCons (eFrz (nLst (aCons (eTup (aCons (kk (.int (0 : Int))) (aCons (kk (.int (0 : Int))) aNil))) aNil))) aNil))) [14])) aNil)))
def w3w : M Fl := (sAsg (gN 10) (eFrz (nMake g_World___init__ (aCons (op2 ixD (vr 5) (vr 6)) (aCons (kk (.int (1 : Int))) (aCons w3a (aCons w3b aNil)))))))
def w3f : M Fl := (sFor (iSeq (eFrz (nLst (aCons (kk .non) (aCons (op2 ixD (vr 3) (vr 6)) (aCons (eFrz (nC listD (aCons (op2 ixD (vr 3) (vr 6)) aNil))) (aCons (kk (.bl true)) (aCons (kk (.int (0 : Int))) (aCons (kk (.str ("" : Str))) (aCons (eFrz (ret (.dic []))) (aCons (vr 10) aNil))))))))))) (gN 11)
    o3Body)
theorem w3_eq : w3Body = (sSeq (sFor (iRng1 (aCons (opC lenD (aCons (vr 3) aNil)) aNil)) (gN 9) m3Body) (sSeq w3w w3f)) := rfl
section
variable {cs : List Cs} {i : Nat} {c : Cs} {x0 x1 x2 s4 s5 s7 s8 s9 s10 s11 s12 s13 : Slot} {t : List D}
theorem w3a_ok {B : M Loc} (hB : B = w3a) (ec : cs[i]? = some c) (h : CsOk c) {Q : Loc → S → Prop} (k : Q (.val (dkN c.1 fun _ => .lst [])) ⟨[x0, x1, x2, .val (.lst (cs.map csD)), s4, s5, .val (.int (i : Int)), s7, s8, s9, s10, s11, s12, s13, .no], t⟩) :
    Wp (B ⟨[x0, x1, x2, .val (.lst (cs.map csD)), s4, s5, .val (.int (i : Int)), s7, s8, s9, s10, s11, s12, s13, .no], t⟩) Q := by
  have i1 : ixD (.lst (cs.map csD)) (.int (i : Int)) = some (csD c) := ix_at (by rw [List.getElem?_map, ec]; rfl)
  have m3 := ShOk.m3 h
  rw [hB]
  simp -implicitDefEqProofs [w3a, i1, show c.1.length < lim by show _ < 1000000; omega]
  refine lc_filt (xs := c.1) (en := D.str) (h := fun w => .tup [.str w, .lst []]) (f := fun _ => true) rfl (by simp [freeOf, notOwn]) (by omega) (fun w hm => ⟨_, rfl, ?_⟩) ?_
  · simp [wipeE, freeOf, backE, notOwn]
  · have ef : c.1.filter (fun _ => true) = c.1 := by simp
    rw [ef]
    have := dictPD_strs (f := fun _ => .lst []) (ShOk.md h)
    simp -implicitDefEqProofs [this]
    exact k
theorem w3b_ok {B : M Loc} (hB : B = w3b) (ec : cs[i]? = some c) (h : CsOk c) {Q : Loc → S → Prop} (k : Q (.val (dkN c.2.1 fun _ => .lst [.tup [.int 0, .int 0]])) ⟨[x0, x1, x2, .val (.lst (cs.map csD)), s4, s5, .val (.int (i : Int)), s7, s8, s9, s10, s11, s12, s13, .no], t⟩) :
    Wp (B ⟨[x0, x1, x2, .val (.lst (cs.map csD)), s4, s5, .val (.int (i : Int)), s7, s8, s9, s10, s11, s12, s13, .no], t⟩) Q := by
  have i1 : ixD (.lst (cs.map csD)) (.int (i : Int)) = some (csD c) := ix_at (by rw [List.getElem?_map, ec]; rfl)
  have m3 := ShOk.t2 h
  rw [hB]
  simp -implicitDefEqProofs [w3b, i1, show c.2.1.length < lim by show _ < 1000000; omega]
  refine lc_filt (xs := c.2.1) (en := D.str) (h := fun w => .tup [.str w, .lst [.tup [.int 0, .int 0]]]) (f := fun _ => true) rfl (by simp [freeOf, notOwn]) (by omega) (fun w hm => ⟨_, rfl, ?_⟩) ?_
  · simp [wipeE, freeOf, backE, notOwn]
  · have ef : c.2.1.filter (fun _ => true) = c.2.1 := by simp
    rw [ef]
    have := dictPD_strs (f := fun _ => .lst [.tup [.int 0, .int 0]]) (ShOk.td h)
    simp -implicitDefEqProofs [this]
    exact k
end
end Mi

namespace Mi
open PySem PySem.Spec PyProof.Rows L2
variable {R : List D}
section
variable {cs : List Cs} {i : Nat} {c : Cs} {x0 x1 x2 s4 s7 s8 s9 s10 s11 s12 s13 : Slot} {t : List D}
theorem w3w_ok {B N : M Fl} (hB : B = w3w) (ec : cs[i]? = some c) (h : CsOk c) {Q : Fl → S → Prop}
    (k : ∀ wd, wd = wdD c.1 c.2.1 c.2.2 1 (fun _ => []) (fun _ => [(0, 0)]) → Wp (N ⟨[x0, x1, x2, .val (.lst (cs.map csD)), s4, .val (.lst (cs.map csT)), .val (.int (i : Int)), s7, s8, s9, .val wd, s11, s12, s13, .no], t⟩) Q) :
    Wp (sSeq B N ⟨[x0, x1, x2, .val (.lst (cs.map csD)), s4, .val (.lst (cs.map csT)), .val (.int (i : Int)), s7, s8, s9, s10, s11, s12, s13, .no], t⟩) Q := by
  have i3 : ixD (.lst (cs.map csT)) (.int (i : Int)) = some (csT c) := ix_at (by rw [List.getElem?_map, ec]; rfl)
  obtain ⟨A, hA⟩ : ∃ A, A = w3a := ⟨_, rfl⟩
  obtain ⟨A', hA'⟩ : ∃ A, A = w3b := ⟨_, rfl⟩
  have k := k _ rfl
  obtain ⟨wd, hw⟩ : ∃ wd, wd = wdD c.1 c.2.1 c.2.2 1 (fun _ => []) (fun _ => [(0, 0)]) := ⟨_, rfl⟩
  have ini : ∀ {Q : D → S → Prop}, Q wd ⟨[], t⟩ → Wp (g_World___init__ [csT c, .int 1, dkN c.1 fun _ => .lst [], dkN c.2.1 fun _ => .lst [.tup [.int 0, .int 0]]] ⟨[], t⟩) Q := fun {Q} q => by
    refine init_okL (mk := c.1) (ti := c.2.1) (fu := c.2.2) (n := 1) (M := fun _ => []) (T := fun _ => [(0, 0)]) h (by omega) (by omega) (List.Perm.refl _) (List.Perm.refl _) (fun w hw => ⟨List.nodup_nil, by simp, by simp⟩) (fun w hw => ⟨by simp, by simp, by simp⟩) (fun w hw => by simp) ?_
    rw [← hw]; exact q
  rw [← hw] at k
  clear hw
  rw [hB]
  simp -implicitDefEqProofs [w3w, i3]
  rw [← hA, ← hA']
  with_reducible refine w3a_ok hA ec h ?_
  simp -implicitDefEqProofs
  with_reducible refine w3b_ok hA' ec h ?_
  simp -implicitDefEqProofs
  with_reducible refine ini ?_
  simp -implicitDefEqProofs
  exact k
theorem oth_all {wd : D} {c : Cs} (hw : wd = wdD c.1 c.2.1 c.2.2 1 (fun _ => []) (fun _ => [(0, 0)])) (l : List D) : ∀ d ∈ [D.non, csD c, .lst l, .bl true, .int 0, .str ("" : Str), .dic [], wd], Oth d := by
  intro d hd
  have ob : ∀ s : String, othB s = true → isa_own_Tongue (.inl s) = some false ∧ oth_Tongue (.inl s) = true := fun s h => ⟨if_pos h, h⟩
  simp only [List.mem_cons, List.not_mem_nil, or_false] at hd
  rcases hd with rfl | rfl | rfl | rfl | rfl | rfl | rfl | rfl
  · exact ⟨⟨_, rfl, ob _ (by decide)⟩, rfl⟩
  · exact ⟨⟨_, rfl, ob _ (by decide)⟩, rfl⟩
  · exact ⟨⟨_, rfl, ob _ (by decide)⟩, rfl⟩
  · exact ⟨⟨_, rfl, ob _ (by decide)⟩, rfl⟩
  · exact ⟨⟨_, rfl, ob _ (by decide)⟩, rfl⟩
  · exact ⟨⟨_, rfl, ob _ (by decide)⟩, rfl⟩
  · exact ⟨⟨_, rfl, ob _ (by decide)⟩, rfl⟩
  · rw [hw]; exact ⟨⟨_, rfl, rfl, rfl⟩, rfl⟩
theorem w3f_ok {B : M Fl} (hB : B = w3f) (ec : cs[i]? = some c) (h : CsOk c) {wd : D} (hw : wd = wdD c.1 c.2.1 c.2.2 1 (fun _ => []) (fun _ => [(0, 0)])) {Q : Fl → S → Prop}
    (k : ∀ x, Q .nx ⟨[x0, x1, x2, .val (.lst (cs.map csD)), s4, .val (.lst (cs.map csT)), .val (.int (i : Int)), s7, s8, s9, .val wd, x, s12, s13, .no], t⟩) :
    Wp (B ⟨[x0, x1, x2, .val (.lst (cs.map csD)), s4, .val (.lst (cs.map csT)), .val (.int (i : Int)), s7, s8, s9, .val wd, s11, s12, s13, .no], t⟩) Q := by
  have hi : i < cs.length := (List.getElem?_eq_some_iff.mp ec).1
  have i1 : ixD (.lst (cs.map csD)) (.int (i : Int)) = some (csD c) := ix_at (by rw [List.getElem?_map, ec]; rfl)
  have ld : listD [csD c] = some [.tup (c.1.map .str), .tup (c.2.1.map .str), .tup (c.2.2.map .str)] := rfl
  have oa := oth_all hw [.tup (c.1.map .str), .tup (c.2.1.map .str), .tup (c.2.2.map .str)]
  have np : noPtr wd = true := by rw [hw]; rfl
  obtain ⟨O, hO⟩ : ∃ O, O = o3Body := ⟨_, rfl⟩
  obtain ⟨X, hX⟩ : ∃ X, X = csD c := ⟨_, rfl⟩
  have cx : ∀ {s : S} {Q : D → S → Prop}, Wp (cont (.val X) s) Q = Q X s := by rw [hX]; intros; rfl
  rw [← hX] at oa i1 ld
  clear hw hX
  rw [hB]
  simp -implicitDefEqProofs [w3f, i1, ld, cx, -wp_forL_cons]
  rw [← hO]
  refine wp_forL_inv (fun j s => ∃ x, s = ⟨[x0, x1, x2, .val (.lst (cs.map csD)), s4, .val (.lst (cs.map csT)), .val (.int (i : Int)), s7, s8, s9, .val wd, x, s12, s13, .no], t⟩) ⟨_, rfl⟩ ?_ ?_
  · rintro j d s hj ⟨x, rfl⟩
    refine ⟨_, rfl, ?_⟩
    refine o3_ok hO hi (oa d (List.mem_of_getElem? hj)) ?_
    exact ⟨_, rfl⟩
  · rintro s ⟨x, rfl⟩
    exact k x
end
end Mi

namespace Mi
open PySem PySem.Spec PyProof.Rows L2
variable {R : List D}
theorem w3_ok {B : M Fl} (hB : B = w3Body) {cs : List Cs} (hc : ∀ c ∈ cs, CsOk c) (hlen : cs.length ≤ 20) {i : Nat} (hi : i < cs.length) {x0 x1 x2 s4 s7 s8 s9 s10 s11 s12 s13 : Slot} {t : List D} {Q : Fl → S → Prop}
    (k : ∀ a b c d, Q .nx ⟨[x0, x1, x2, .val (.lst (cs.map csD)), s4, .val (.lst (cs.map csT)), .val (.int (i : Int)), s7, s8, a, b, c, s12, d, .no], t⟩) :
    Wp (B ⟨[x0, x1, x2, .val (.lst (cs.map csD)), s4, .val (.lst (cs.map csT)), .val (.int (i : Int)), s7, s8, s9, s10, s11, s12, s13, .no], t⟩) Q := by
  obtain ⟨c, ec⟩ : ∃ c, cs[i]? = some c := ⟨_, List.getElem?_eq_getElem hi⟩
  have h := hc c (List.mem_of_getElem? ec)
  have g2 : cs.length < lim := by show _ < 1000000; omega
  have g3 : cs.length < 1000000 := by omega
  obtain ⟨M', hM⟩ : ∃ O, O = m3Body := ⟨_, rfl⟩
  obtain ⟨W', hW⟩ : ∃ O, O = w3w := ⟨_, rfl⟩
  obtain ⟨F', hF⟩ : ∃ O, O = w3f := ⟨_, rfl⟩
  have step : ∀ {s9 s13 : Slot}, Wp (sSeq W' F' ⟨[x0, x1, x2, .val (.lst (cs.map csD)), s4, .val (.lst (cs.map csT)), .val (.int (i : Int)), s7, s8, s9, s10, s11, s12, s13, .no], t⟩) Q := fun {s9 s13} => by
    with_reducible refine w3w_ok hW ec h ?_
    intro wd hw
    with_reducible refine w3f_ok hF ec h hw ?_
    intro x
    exact k _ _ _ _
  rw [hB, w3_eq, ← hM, ← hW, ← hF, wp_sSeq]
  have fl : ∀ {s : S} {Q : Fl → S → Prop}, s.e[(3 : Nat)]? = some (.val (.lst (cs.map csD))) → Wp (forL (gN 9) M' ((List.range cs.length).map fun (j : Nat) => D.int (0 + (j : Int))) s) Q → Wp (sFor (iRng1 (aCons (opC lenD (aCons (vr 3) aNil)) aNil)) (gN 9) M' s) Q := fun {s Q} e q => by
    obtain ⟨e', t'⟩ := s
    have e : e'[(3 : Nat)]? = some (.val (.lst (cs.map csD))) := e
    rw [show sFor (iRng1 (aCons (opC lenD (aCons (vr 3) aNil)) aNil)) (gN 9) M' = bnd (iRng1 (aCons (opC lenD (aCons (vr 3) aNil)) aNil)) fun I => forF I (gN 9) M' lim 0 from rfl, wp_bnd]
    rw [rngN (n := cs.length) (by omega) (by intro Q'; simp [e, lenD])]
    rw [wp_forRng g2]
    exact q
  with_reducible refine fl (by simp) ?_
  with_reducible refine wp_forL_inv (fun j s => ∃ x9 x13, s = ⟨[x0, x1, x2, .val (.lst (cs.map csD)), s4, .val (.lst (cs.map csT)), .val (.int (i : Int)), s7, s8, x9, s10, s11, s12, x13, .no], t⟩) ⟨_, _, rfl⟩ ?_ ?_
  · rintro j d s hj ⟨x9, x13, rfl⟩
    rw [List.getElem?_map] at hj
    obtain ⟨j', hj', rfl⟩ := Option.map_eq_some_iff.mp hj
    have := List.getElem?_eq_some_iff.mp hj'
    obtain ⟨hl, e⟩ := this
    simp at hl e
    subst e
    refine ⟨_, rfl, ?_⟩
    simp only [Int.zero_add]
    refine m3_ok hM hc hi hl ?_
    intro x
    exact ⟨_, _, rfl⟩
  · rintro s ⟨x9, x13, rfl⟩
    exact step
/-! ### the turns, the two last cases -/
def t3l : M Fl := (sFor (iRng1 (aCons (kk (.int (5 : Int))) aNil)) (gN 4) t3Body)
theorem t3l_ok {B N : M Fl} (hB : B = t3l) {ws : List Str} (hl : ws.length = 5) (hn : ∀ w ∈ ws, NmOk w) (hd : ws.Nodup) {x0 : Slot} {t : List D} (hp : PoolOk R t) {Q : Fl → S → Prop}
    (k : ∀ (cs : List Cs) t' s4 s7 s8, cs.length = 5 → (∀ c ∈ cs, CsOk c) → Wp (N ⟨[x0, .val (.ptr 1), .val (.lst (ws.map .str)), .own (.lst (cs.map csD)), s4, .no, .no, s7, s8, .no, .no, .no, .no, .no, .no], t'⟩) Q) :
    Wp (sSeq B N ⟨[x0, .val (.ptr 1), .val (.lst (ws.map .str)), .own (.lst []), .no, .no, .no, .no, .no, .no, .no, .no, .no, .no, .no], t⟩) Q := by
  obtain ⟨T', hT⟩ : ∃ O, O = t3Body := ⟨_, rfl⟩
  rw [hB, wp_sSeq]
  unfold t3l
  rw [← hT]
  rw [show sFor (iRng1 (aCons (kk (.int (5 : Int))) aNil)) (gN 4) T' = bnd (iRng1 (aCons (kk (.int (5 : Int))) aNil)) fun I => forF I (gN 4) T' lim 0 from rfl, wp_bnd]
  rw [rngN (n := 5) (by omega) (by intro Q'; simp)]
  rw [wp_forRng (by decide)]
  with_reducible refine wp_forL_inv (fun i s => ∃ (cs : List Cs) (t' : List D) (s4 s7 s8 : Slot), s = ⟨[x0, .val (.ptr 1), .val (.lst (ws.map .str)), .own (.lst (cs.map csD)), s4, .no, .no, s7, s8, .no, .no, .no, .no, .no, .no], t'⟩ ∧ PoolOk R t' ∧ cs.length = i ∧ ∀ c ∈ cs, CsOk c) ⟨[], t, _, _, _, rfl, hp, rfl, by simp⟩ ?_ ?_
  · rintro i d s hi ⟨cs, t', s4, s7, s8, rfl, hp, hlen, hc⟩
    have hi5 : i < 5 := by
      have := (List.getElem?_eq_some_iff.mp hi).1
      simpa using this
    refine ⟨_, rfl, ?_⟩
    dsimp only [List.set]
    with_reducible refine turn3_ok hT hl hn hd hc (by omega) hp ?_
    intro c t' s7 s8 h hp
    refine ⟨cs ++ [c], t', _, s7, s8, rfl, hp, by simp [hlen], fun c' hc' => ?_⟩
    rcases List.mem_append.mp hc' with h' | h'
    · exact hc _ h'
    · simp at h'; subst h'; exact h
  · rintro s ⟨cs, t', s4, s7, s8, rfl, hp, hlen, hc⟩
    exact k cs t' s4 s7 s8 (by simpa using hlen) hc
def e3 : M Fl := (sExpr (eMu isLst appD (vr 3) (aCons (eTup (aCons (op2 ixD (op2 ixD (vr 3) (kk (.int (0 : Int)))) (kk (.int (1 : Int)))) (aCons (eTup aNil) (aCons (eTup aNil) aNil)))) aNil)))
def e4 : M Fl := (sExpr (eMu isLst appD (vr 3) (aCons (eTup (aCons (eTup aNil) (aCons (op2 ixD (op2 ixD (vr 3) (kk (.int (0 : Int)))) (kk (.int (1 : Int)))) (aCons (eTup aNil) aNil)))) aNil)))
theorem e3_ok {B N : M Fl} (hB : B = e3) {c : Cs} {cs : List Cs} (hlen : cs.length ≤ 20) {x0 x1 x2 s4 s5 s6 s7 s8 s9 s10 s11 s12 s13 s14 : Slot} {t : List D} {Q : Fl → S → Prop}
    (k : Wp (N ⟨[x0, x1, x2, .own (.lst ((c :: cs ++ [(c.2.1, [], [])]).map csD)), s4, s5, s6, s7, s8, s9, s10, s11, s12, s13, s14], t⟩) Q) :
    Wp (sSeq B N ⟨[x0, x1, x2, .own (.lst ((c :: cs).map csD)), s4, s5, s6, s7, s8, s9, s10, s11, s12, s13, s14], t⟩) Q := by
  have ix : ixD (.lst ((c :: cs).map csD)) (.int 0) = some (csD c) := ix_at (i := 0) rfl
  have g2 : ((c :: cs).map csD).length < lim := by simp; show _ < 1000000; omega
  have ap : ∀ x, appD (.lst ((c :: cs).map csD)) [x] = some (.lst ((c :: cs).map csD ++ [x]), .non) := fun x => if_pos g2
  have en : ((c :: cs).map csD ++ [.tup [.tup (c.2.1.map .str), .tup [], .tup []]]) = (c :: cs ++ [(c.2.1, [], [])]).map csD := by simp [csD, shD]
  obtain ⟨L, hL⟩ : ∃ L, L = (c :: cs).map csD := ⟨_, rfl⟩
  obtain ⟨L', hL'⟩ : ∃ L, L = (c :: cs ++ [(c.2.1, [], [])]).map csD := ⟨_, rfl⟩
  rw [← hL] at ix ap en ⊢
  rw [← hL'] at en k
  rw [hB]
  simp -implicitDefEqProofs [e3, ix, ap, en]
  exact k
theorem e4_ok {B N : M Fl} (hB : B = e4) {c : Cs} {cs : List Cs} (hlen : cs.length ≤ 20) {x0 x1 x2 s4 s5 s6 s7 s8 s9 s10 s11 s12 s13 s14 : Slot} {t : List D} {Q : Fl → S → Prop}
    (k : Wp (N ⟨[x0, x1, x2, .own (.lst ((c :: cs ++ [([], c.2.1, [])]).map csD)), s4, s5, s6, s7, s8, s9, s10, s11, s12, s13, s14], t⟩) Q) :
    Wp (sSeq B N ⟨[x0, x1, x2, .own (.lst ((c :: cs).map csD)), s4, s5, s6, s7, s8, s9, s10, s11, s12, s13, s14], t⟩) Q := by
  have ix : ixD (.lst ((c :: cs).map csD)) (.int 0) = some (csD c) := ix_at (i := 0) rfl
  have g2 : ((c :: cs).map csD).length < lim := by simp; show _ < 1000000; omega
  have ap : ∀ x, appD (.lst ((c :: cs).map csD)) [x] = some (.lst ((c :: cs).map csD ++ [x]), .non) := fun x => if_pos g2
  have en : ((c :: cs).map csD ++ [.tup [.tup [], .tup (c.2.1.map .str), .tup []]]) = (c :: cs ++ [([], c.2.1, [])]).map csD := by simp [csD, shD]
  obtain ⟨L, hL⟩ : ∃ L, L = (c :: cs).map csD := ⟨_, rfl⟩
  obtain ⟨L', hL'⟩ : ∃ L, L = (c :: cs ++ [([], c.2.1, [])]).map csD := ⟨_, rfl⟩
  rw [← hL] at ix ap en ⊢
  rw [← hL'] at en k
  rw [hB]
  simp -implicitDefEqProofs [e4, ix, ap, en]
  exact k
def w3l : M Fl := (sFor (iRng1 (aCons (opC lenD (aCons (vr 3) aNil)) aNil)) (gN 6) w3Body)
theorem w3l_ok {B N : M Fl} (hB : B = w3l) {cs : List Cs} (hc : ∀ c ∈ cs, CsOk c) (hlen : cs.length ≤ 20) {x0 x1 x2 s4 s6 s7 s8 s9 s10 s11 s12 s13 : Slot} {t : List D} {Q : Fl → S → Prop}
    (k : ∀ a b c d e, Wp (N ⟨[x0, x1, x2, .val (.lst (cs.map csD)), s4, .val (.lst (cs.map csT)), a, s7, s8, b, c, d, s12, e, .no], t⟩) Q) :
    Wp (sSeq B N ⟨[x0, x1, x2, .val (.lst (cs.map csD)), s4, .val (.lst (cs.map csT)), s6, s7, s8, s9, s10, s11, s12, s13, .no], t⟩) Q := by
  have g2 : cs.length < lim := by show _ < 1000000; omega
  obtain ⟨T', hT⟩ : ∃ O, O = w3Body := ⟨_, rfl⟩
  rw [hB, wp_sSeq]
  unfold w3l
  rw [← hT]
  rw [show sFor (iRng1 (aCons (opC lenD (aCons (vr 3) aNil)) aNil)) (gN 6) T' = bnd (iRng1 (aCons (opC lenD (aCons (vr 3) aNil)) aNil)) fun I => forF I (gN 6) T' lim 0 from rfl, wp_bnd]
  rw [rngN (n := cs.length) (by omega) (by intro Q'; simp [lenD])]
  rw [wp_forRng g2]
  with_reducible refine wp_forL_inv (fun i s => ∃ a b c d e, s = ⟨[x0, x1, x2, .val (.lst (cs.map csD)), s4, .val (.lst (cs.map csT)), a, s7, s8, b, c, d, s12, e, .no], t⟩) ⟨_, _, _, _, _, rfl⟩ ?_ ?_
  · rintro i d s hj ⟨a, b, c, d, e, rfl⟩
    rw [List.getElem?_map] at hj
    obtain ⟨j', hj', rfl⟩ := Option.map_eq_some_iff.mp hj
    obtain ⟨hl, e⟩ := List.getElem?_eq_some_iff.mp hj'
    simp at hl e
    subst e
    refine ⟨_, rfl, ?_⟩
    simp only [Int.zero_add]
    dsimp only [List.set]
    with_reducible refine w3_ok hT hc hlen hl ?_
    intro a b c d
    exact ⟨_, _, _, _, _, rfl⟩
  · rintro s ⟨a, b, c, d, e, rfl⟩
    exact k a b c d e
theorem b3_eq : b_law = (sSeq (sAsg (gN 1) (eCall g__law_pool (aCons (vr 0) aNil))) (sSeq (sAsg (gN 2) (eCall g__law_names (aCons (vr 1) (aCons (kk (.int (5 : Int))) aNil)))) (sSeq (sOwn 3 (nLst aNil)) (sSeq t3l (sSeq e3 (sSeq e4 (sSeq c3 (sSeq w3l (sRet (kk (.bl true))))))))))) := rfl
theorem law_wp (ns : List Int) (hn : ns.length ≤ 63) : Wp (g_law [.lck (ns.map .int)] ⟨[], []⟩) fun d _ => d = .bl true := by
  obtain ⟨A, hA⟩ : ∃ A, A = t3l := ⟨_, rfl⟩
  obtain ⟨B, hB⟩ : ∃ A, A = e3 := ⟨_, rfl⟩
  obtain ⟨C, hC⟩ : ∃ A, A = e4 := ⟨_, rfl⟩
  obtain ⟨E, hE⟩ : ∃ A, A = c3 := ⟨_, rfl⟩
  obtain ⟨F, hF⟩ : ∃ A, A = w3l := ⟨_, rfl⟩
  obtain ⟨N, hN⟩ : ∃ N, N = sSeq A (sSeq B (sSeq C (sSeq E (sSeq F (sRet (kk (.bl true))))))) := ⟨_, rfl⟩
  have eb : b_law = (sSeq (sAsg (gN 1) (eCall g__law_pool (aCons (vr 0) aNil))) (sSeq (sAsg (gN 2) (eCall g__law_names (aCons (vr 1) (aCons (kk (.int (5 : Int))) aNil)))) (sSeq (sOwn 3 (nLst aNil)) N))) := by rw [hN, hA, hB, hC, hE, hF]; exact b3_eq
  simp -implicitDefEqProofs [g_law, eb]
  with_reducible refine pool_ok ns hn ?_
  intro t hp
  simp -implicitDefEqProofs
  with_reducible refine names_ok hp ?_
  intro ws t hp hl hw hd
  simp -implicitDefEqProofs
  rw [hN]
  with_reducible refine t3l_ok hA hl hw hd hp ?_
  intro cs t s4 s7 s8 hlen hc
  obtain ⟨c, cs', rfl⟩ : ∃ c cs', cs = c :: cs' := by
    cases cs with
    | nil => simp at hlen
    | cons c cs => exact ⟨c, cs, rfl⟩
  have hlen : cs'.length = 4 := by simpa using hlen
  have h0 : CsOk c := hc c (.head _)
  with_reducible refine e3_ok hB (by omega) ?_
  have l5 : (cs' ++ [(c.2.1, [], [])]).length ≤ 20 := by simp [hlen]
  have ea : c :: cs' ++ [(c.2.1, [], [])] = c :: (cs' ++ [(c.2.1, [], [])]) := rfl
  rw [ea]
  with_reducible refine e4_ok hC l5 ?_
  obtain ⟨ds, hds⟩ : ∃ ds, ds = c :: (cs' ++ [(c.2.1, [], [])]) ++ [([], c.2.1, [])] := ⟨_, rfl⟩
  have hd : ∀ d ∈ ds, CsOk d := by
    intro d hd
    rw [hds] at hd
    have z1 : CsOk (c.2.1, [], []) := { mn := ShOk.tn h0, tn := by simp, md := ShOk.td h0, td := by simp, ap := by simp, m3 := by have := ShOk.t2 h0; show c.2.1.length ≤ 3; omega, t2 := by simp, f1 := by simp, fs := by simp }
    have z2 : CsOk ([], c.2.1, []) := { mn := by simp, tn := ShOk.tn h0, md := by simp, td := ShOk.td h0, ap := by simp, m3 := by simp, t2 := ShOk.t2 h0, f1 := by simp, fs := by simp }
    simp only [List.mem_append, List.mem_cons, List.not_mem_nil, or_false] at hd
    rcases hd with (hd | hd | hd) | hd
    · rw [hd]; exact h0
    · exact hc d (.tail _ hd)
    · rw [hd]; exact z1
    · rw [hd]; exact z2
  have ld : ds.length ≤ 20 := by rw [hds]; simp [hlen]
  rw [← hds]
  with_reducible refine c3_ok hE hd ld ?_
  with_reducible refine w3l_ok hF hd ld ?_
  intro a b c' d e
  simp -implicitDefEqProofs
theorem law_pure (ns : List Int) (h : ns.length ≤ 63) : ∃ s', g_law [.lck (ns.map .int)] ⟨[], []⟩ = .ok (.bl true) s' := by
  obtain ⟨d, s', e, rfl⟩ := wp_ex.mp (law_wp ns h)
  exact ⟨s', e⟩
end Mi


namespace Mi
open PySem PySem.Spec PyProof.Rows L2
theorem all_mk {l : PySem.W.OpenLaw} {w : World} {K : PySem.W.Frag} {h : Heap} {mg : Str → Option Value} {fa C_Tongue C_World f__law_pool f__law_draw f__law_names f_is_sequence f_is_word f_are_names f_is_key f_are_functions f_Tongue___init__ f_is_dict_of f_Tongue_marks p_Tongue_marks f_is_integer f_is_within f_is_thing f_are_things f_check_marks f_Tongue_ties p_Tongue_ties f_is_tuple f_is_pair f_are_pairs f_is_function f_check_ties f_World___init__ f__law_mixed f_Tongue___eq__ f_law g_KEPT_WORDS : Addr} {od__law_pool an__law_pool : Option Addr} {oc__law_pool kV__law_pool dc__law_pool pm__law_pool cd__law_pool ct__law_pool : Value} {sl__law_pool : Array (Option Value)} {od__law_draw an__law_draw : Option Addr} {oc__law_draw kV__law_draw dc__law_draw pm__law_draw cd__law_draw ct__law_draw : Value} {sl__law_draw : Array (Option Value)} {od__law_names an__law_names : Option Addr} {oc__law_names kV__law_names dc__law_names pm__law_names cd__law_names ct__law_names : Value} {sl__law_names : Array (Option Value)} {od_is_sequence an_is_sequence : Option Addr} {oc_is_sequence kV_is_sequence dc_is_sequence pm_is_sequence cd_is_sequence ct_is_sequence : Value} {sl_is_sequence : Array (Option Value)} {od_is_word an_is_word : Option Addr} {oc_is_word kV_is_word dc_is_word pm_is_word cd_is_word ct_is_word : Value} {sl_is_word : Array (Option Value)} {od_are_names an_are_names : Option Addr} {oc_are_names kV_are_names dc_are_names pm_are_names cd_are_names ct_are_names : Value} {sl_are_names : Array (Option Value)} {od_is_key an_is_key : Option Addr} {oc_is_key kV_is_key dc_is_key pm_is_key cd_is_key ct_is_key : Value} {sl_is_key : Array (Option Value)} {od_are_functions an_are_functions : Option Addr} {oc_are_functions kV_are_functions dc_are_functions pm_are_functions cd_are_functions ct_are_functions : Value} {sl_are_functions : Array (Option Value)} {od_Tongue___init__ an_Tongue___init__ : Option Addr} {oc_Tongue___init__ kV_Tongue___init__ dc_Tongue___init__ pm_Tongue___init__ cd_Tongue___init__ ct_Tongue___init__ : Value} {sl_Tongue___init__ : Array (Option Value)} {od_is_dict_of an_is_dict_of : Option Addr} {oc_is_dict_of kV_is_dict_of dc_is_dict_of pm_is_dict_of cd_is_dict_of ct_is_dict_of : Value} {sl_is_dict_of : Array (Option Value)} {r_Tongue_marks : List Value} {od_Tongue_marks an_Tongue_marks : Option Addr} {oc_Tongue_marks kV_Tongue_marks dc_Tongue_marks pm_Tongue_marks cd_Tongue_marks ct_Tongue_marks : Value} {sl_Tongue_marks : Array (Option Value)} {od_is_integer an_is_integer : Option Addr} {oc_is_integer kV_is_integer dc_is_integer pm_is_integer cd_is_integer ct_is_integer : Value} {sl_is_integer : Array (Option Value)} {od_is_within an_is_within : Option Addr} {oc_is_within kV_is_within dc_is_within pm_is_within cd_is_within ct_is_within : Value} {sl_is_within : Array (Option Value)} {od_is_thing an_is_thing : Option Addr} {oc_is_thing kV_is_thing dc_is_thing pm_is_thing cd_is_thing ct_is_thing : Value} {sl_is_thing : Array (Option Value)} {od_are_things an_are_things : Option Addr} {oc_are_things kV_are_things dc_are_things pm_are_things cd_are_things ct_are_things : Value} {sl_are_things : Array (Option Value)} {od_check_marks an_check_marks : Option Addr} {oc_check_marks kV_check_marks dc_check_marks pm_check_marks cd_check_marks ct_check_marks : Value} {sl_check_marks : Array (Option Value)} {r_Tongue_ties : List Value} {od_Tongue_ties an_Tongue_ties : Option Addr} {oc_Tongue_ties kV_Tongue_ties dc_Tongue_ties pm_Tongue_ties cd_Tongue_ties ct_Tongue_ties : Value} {sl_Tongue_ties : Array (Option Value)} {od_is_tuple an_is_tuple : Option Addr} {oc_is_tuple kV_is_tuple dc_is_tuple pm_is_tuple cd_is_tuple ct_is_tuple : Value} {sl_is_tuple : Array (Option Value)} {od_is_pair an_is_pair : Option Addr} {oc_is_pair kV_is_pair dc_is_pair pm_is_pair cd_is_pair ct_is_pair : Value} {sl_is_pair : Array (Option Value)} {od_are_pairs an_are_pairs : Option Addr} {oc_are_pairs kV_are_pairs dc_are_pairs pm_are_pairs cd_are_pairs ct_are_pairs : Value} {sl_are_pairs : Array (Option Value)} {od_is_function an_is_function : Option Addr} {oc_is_function kV_is_function dc_is_function pm_is_function cd_is_function ct_is_function : Value} {sl_is_function : Array (Option Value)} {od_check_ties an_check_ties : Option Addr} {oc_check_ties kV_check_ties dc_check_ties pm_check_ties cd_check_ties ct_check_ties : Value} {sl_check_ties : Array (Option Value)} {od_World___init__ an_World___init__ : Option Addr} {oc_World___init__ kV_World___init__ dc_World___init__ pm_World___init__ cd_World___init__ ct_World___init__ : Value} {sl_World___init__ : Array (Option Value)} {od__law_mixed an__law_mixed : Option Addr} {oc__law_mixed kV__law_mixed dc__law_mixed pm__law_mixed cd__law_mixed ct__law_mixed : Value} {sl__law_mixed : Array (Option Value)} {od_Tongue___eq__ an_Tongue___eq__ : Option Addr} {oc_Tongue___eq__ kV_Tongue___eq__ dc_Tongue___eq__ pm_Tongue___eq__ cd_Tongue___eq__ ct_Tongue___eq__ : Value} {sl_Tongue___eq__ : Array (Option Value)} {od_law an_law : Option Addr} {oc_law kV_law dc_law pm_law cd_law ct_law : Value} {sl_law : Array (Option Value)} {t_LETTERS : Tok} {t_MOST_LETTERS : Tok} {es_KEPT_WORDS : Array DictEntry} {n_KEPT_WORDS : Nat} {t_MOST_MARKS : Tok} {t_MOST_TIES : Tok} {t_MOST_THINGS : Tok} (X : K.In h) (G : h.Ns mainGlobals mg) (hfa : mg "law" = some (.ref fa))
    (aC_Tongue : PySem.W.nsIn K mainGlobals "Tongue" = some (some (.ref C_Tongue)))
    (aC_World : PySem.W.nsIn K mainGlobals "World" = some (some (.ref C_World)))
    (a__law_pool : PySem.W.nsIn K mainGlobals "_law_pool" = some (some (.ref f__law_pool)))
    (l__law_pool : K.lookup f__law_pool = some ⟨oc__law_pool, od__law_pool, .func (PySem.W.fnOf "_law_pool" "_law_pool" (defArgs s__law_pool) (defBody s__law_pool) (defScope s__law_pool) .none kV__law_pool dc__law_pool pm__law_pool an__law_pool cd__law_pool ct__law_pool), sl__law_pool⟩)
    (c__law_pool : PySem.W.codeIn K cd__law_pool "_law_pool" = true)
    (k__law_pool : PySem.W.keepIn K (.ref f__law_pool) = true)
    (a__law_draw : PySem.W.nsIn K mainGlobals "_law_draw" = some (some (.ref f__law_draw)))
    (l__law_draw : K.lookup f__law_draw = some ⟨oc__law_draw, od__law_draw, .func (PySem.W.fnOf "_law_draw" "_law_draw" (defArgs s__law_draw) (defBody s__law_draw) (defScope s__law_draw) .none kV__law_draw dc__law_draw pm__law_draw an__law_draw cd__law_draw ct__law_draw), sl__law_draw⟩)
    (c__law_draw : PySem.W.codeIn K cd__law_draw "_law_draw" = true)
    (k__law_draw : PySem.W.keepIn K (.ref f__law_draw) = true)
    (a__law_names : PySem.W.nsIn K mainGlobals "_law_names" = some (some (.ref f__law_names)))
    (l__law_names : K.lookup f__law_names = some ⟨oc__law_names, od__law_names, .func (PySem.W.fnOf "_law_names" "_law_names" (defArgs s__law_names) (defBody s__law_names) (defScope s__law_names) .none kV__law_names dc__law_names pm__law_names an__law_names cd__law_names ct__law_names), sl__law_names⟩)
    (c__law_names : PySem.W.codeIn K cd__law_names "_law_names" = true)
    (k__law_names : PySem.W.keepIn K (.ref f__law_names) = true)
    (a_is_sequence : PySem.W.nsIn K mainGlobals "is_sequence" = some (some (.ref f_is_sequence)))
    (l_is_sequence : K.lookup f_is_sequence = some ⟨oc_is_sequence, od_is_sequence, .func (PySem.W.fnOf "is_sequence" "is_sequence" (defArgs s_is_sequence) (defBody s_is_sequence) (defScope s_is_sequence) .none kV_is_sequence dc_is_sequence pm_is_sequence an_is_sequence cd_is_sequence ct_is_sequence), sl_is_sequence⟩)
    (c_is_sequence : PySem.W.codeIn K cd_is_sequence "is_sequence" = true)
    (k_is_sequence : PySem.W.keepIn K (.ref f_is_sequence) = true)
    (a_is_word : PySem.W.nsIn K mainGlobals "is_word" = some (some (.ref f_is_word)))
    (l_is_word : K.lookup f_is_word = some ⟨oc_is_word, od_is_word, .func (PySem.W.fnOf "is_word" "is_word" (defArgs s_is_word) (defBody s_is_word) (defScope s_is_word) .none kV_is_word dc_is_word pm_is_word an_is_word cd_is_word ct_is_word), sl_is_word⟩)
    (c_is_word : PySem.W.codeIn K cd_is_word "is_word" = true)
    (k_is_word : PySem.W.keepIn K (.ref f_is_word) = true)
    (a_are_names : PySem.W.nsIn K mainGlobals "are_names" = some (some (.ref f_are_names)))
    (l_are_names : K.lookup f_are_names = some ⟨oc_are_names, od_are_names, .func (PySem.W.fnOf "are_names" "are_names" (defArgs s_are_names) (defBody s_are_names) (defScope s_are_names) .none kV_are_names dc_are_names pm_are_names an_are_names cd_are_names ct_are_names), sl_are_names⟩)
    (c_are_names : PySem.W.codeIn K cd_are_names "are_names" = true)
    (k_are_names : PySem.W.keepIn K (.ref f_are_names) = true)
    (a_is_key : PySem.W.nsIn K mainGlobals "is_key" = some (some (.ref f_is_key)))
    (l_is_key : K.lookup f_is_key = some ⟨oc_is_key, od_is_key, .func (PySem.W.fnOf "is_key" "is_key" (defArgs s_is_key) (defBody s_is_key) (defScope s_is_key) .none kV_is_key dc_is_key pm_is_key an_is_key cd_is_key ct_is_key), sl_is_key⟩)
    (c_is_key : PySem.W.codeIn K cd_is_key "is_key" = true)
    (k_is_key : PySem.W.keepIn K (.ref f_is_key) = true)
    (a_are_functions : PySem.W.nsIn K mainGlobals "are_functions" = some (some (.ref f_are_functions)))
    (l_are_functions : K.lookup f_are_functions = some ⟨oc_are_functions, od_are_functions, .func (PySem.W.fnOf "are_functions" "are_functions" (defArgs s_are_functions) (defBody s_are_functions) (defScope s_are_functions) .none kV_are_functions dc_are_functions pm_are_functions an_are_functions cd_are_functions ct_are_functions), sl_are_functions⟩)
    (c_are_functions : PySem.W.codeIn K cd_are_functions "are_functions" = true)
    (k_are_functions : PySem.W.keepIn K (.ref f_are_functions) = true)
    (a_Tongue___init__ : PySem.W.findIn K (.ref C_Tongue) "__init__" = some (some (.ref f_Tongue___init__)))
    (i_Tongue___init__ : PySem.W.isFn K (.ref f_Tongue___init__) = true)
    (l_Tongue___init__ : K.lookup f_Tongue___init__ = some ⟨oc_Tongue___init__, od_Tongue___init__, .func (PySem.W.fnOf "__init__" "Tongue.__init__" (defArgs s_Tongue___init__) (defBody s_Tongue___init__) (defScope s_Tongue___init__) .none kV_Tongue___init__ dc_Tongue___init__ pm_Tongue___init__ an_Tongue___init__ cd_Tongue___init__ ct_Tongue___init__), sl_Tongue___init__⟩)
    (c_Tongue___init__ : PySem.W.codeIn K cd_Tongue___init__ "Tongue.__init__" = true)
    (k_Tongue___init__ : PySem.W.keepIn K (.ref f_Tongue___init__) = true)
    (a_is_dict_of : PySem.W.nsIn K mainGlobals "is_dict_of" = some (some (.ref f_is_dict_of)))
    (l_is_dict_of : K.lookup f_is_dict_of = some ⟨oc_is_dict_of, od_is_dict_of, .func (PySem.W.fnOf "is_dict_of" "is_dict_of" (defArgs s_is_dict_of) (defBody s_is_dict_of) (defScope s_is_dict_of) .none kV_is_dict_of dc_is_dict_of pm_is_dict_of an_is_dict_of cd_is_dict_of ct_is_dict_of), sl_is_dict_of⟩)
    (c_is_dict_of : PySem.W.codeIn K cd_is_dict_of "is_dict_of" = true)
    (k_is_dict_of : PySem.W.keepIn K (.ref f_is_dict_of) = true)
    (at_Tongue_marks : PySem.W.findIn K (.ref C_Tongue) "marks" = some (some (.ref p_Tongue_marks)))
    (ge_Tongue_marks : PySem.W.specialIn K (.ref p_Tongue_marks) "__get__" = some (some (.builtin "property.__get__")))
    (tk_Tongue_marks : PySem.W.takesIn K (.ref p_Tongue_marks) = some true)
    (re_Tongue_marks : PySem.W.recIn K p_Tongue_marks "property" = some (.ref f_Tongue_marks :: r_Tongue_marks))
    (l_Tongue_marks : K.lookup f_Tongue_marks = some ⟨oc_Tongue_marks, od_Tongue_marks, .func (PySem.W.fnOf "marks" "Tongue.marks" (defArgs s_Tongue_marks) (defBody s_Tongue_marks) (defScope s_Tongue_marks) .none kV_Tongue_marks dc_Tongue_marks pm_Tongue_marks an_Tongue_marks cd_Tongue_marks ct_Tongue_marks), sl_Tongue_marks⟩)
    (c_Tongue_marks : PySem.W.codeIn K cd_Tongue_marks "Tongue.marks" = true)
    (k_Tongue_marks : PySem.W.keepIn K (.ref f_Tongue_marks) = true)
    (a_is_integer : PySem.W.nsIn K mainGlobals "is_integer" = some (some (.ref f_is_integer)))
    (l_is_integer : K.lookup f_is_integer = some ⟨oc_is_integer, od_is_integer, .func (PySem.W.fnOf "is_integer" "is_integer" (defArgs s_is_integer) (defBody s_is_integer) (defScope s_is_integer) .none kV_is_integer dc_is_integer pm_is_integer an_is_integer cd_is_integer ct_is_integer), sl_is_integer⟩)
    (c_is_integer : PySem.W.codeIn K cd_is_integer "is_integer" = true)
    (k_is_integer : PySem.W.keepIn K (.ref f_is_integer) = true)
    (a_is_within : PySem.W.nsIn K mainGlobals "is_within" = some (some (.ref f_is_within)))
    (l_is_within : K.lookup f_is_within = some ⟨oc_is_within, od_is_within, .func (PySem.W.fnOf "is_within" "is_within" (defArgs s_is_within) (defBody s_is_within) (defScope s_is_within) .none kV_is_within dc_is_within pm_is_within an_is_within cd_is_within ct_is_within), sl_is_within⟩)
    (c_is_within : PySem.W.codeIn K cd_is_within "is_within" = true)
    (k_is_within : PySem.W.keepIn K (.ref f_is_within) = true)
    (a_is_thing : PySem.W.nsIn K mainGlobals "is_thing" = some (some (.ref f_is_thing)))
    (l_is_thing : K.lookup f_is_thing = some ⟨oc_is_thing, od_is_thing, .func (PySem.W.fnOf "is_thing" "is_thing" (defArgs s_is_thing) (defBody s_is_thing) (defScope s_is_thing) .none kV_is_thing dc_is_thing pm_is_thing an_is_thing cd_is_thing ct_is_thing), sl_is_thing⟩)
    (c_is_thing : PySem.W.codeIn K cd_is_thing "is_thing" = true)
    (k_is_thing : PySem.W.keepIn K (.ref f_is_thing) = true)
    (a_are_things : PySem.W.nsIn K mainGlobals "are_things" = some (some (.ref f_are_things)))
    (l_are_things : K.lookup f_are_things = some ⟨oc_are_things, od_are_things, .func (PySem.W.fnOf "are_things" "are_things" (defArgs s_are_things) (defBody s_are_things) (defScope s_are_things) .none kV_are_things dc_are_things pm_are_things an_are_things cd_are_things ct_are_things), sl_are_things⟩)
    (c_are_things : PySem.W.codeIn K cd_are_things "are_things" = true)
    (k_are_things : PySem.W.keepIn K (.ref f_are_things) = true)
    (a_check_marks : PySem.W.nsIn K mainGlobals "check_marks" = some (some (.ref f_check_marks)))
    (l_check_marks : K.lookup f_check_marks = some ⟨oc_check_marks, od_check_marks, .func (PySem.W.fnOf "check_marks" "check_marks" (defArgs s_check_marks) (defBody s_check_marks) (defScope s_check_marks) .none kV_check_marks dc_check_marks pm_check_marks an_check_marks cd_check_marks ct_check_marks), sl_check_marks⟩)
    (c_check_marks : PySem.W.codeIn K cd_check_marks "check_marks" = true)
    (k_check_marks : PySem.W.keepIn K (.ref f_check_marks) = true)
    (at_Tongue_ties : PySem.W.findIn K (.ref C_Tongue) "ties" = some (some (.ref p_Tongue_ties)))
    (ge_Tongue_ties : PySem.W.specialIn K (.ref p_Tongue_ties) "__get__" = some (some (.builtin "property.__get__")))
    (tk_Tongue_ties : PySem.W.takesIn K (.ref p_Tongue_ties) = some true)
    (re_Tongue_ties : PySem.W.recIn K p_Tongue_ties "property" = some (.ref f_Tongue_ties :: r_Tongue_ties))
    (l_Tongue_ties : K.lookup f_Tongue_ties = some ⟨oc_Tongue_ties, od_Tongue_ties, .func (PySem.W.fnOf "ties" "Tongue.ties" (defArgs s_Tongue_ties) (defBody s_Tongue_ties) (defScope s_Tongue_ties) .none kV_Tongue_ties dc_Tongue_ties pm_Tongue_ties an_Tongue_ties cd_Tongue_ties ct_Tongue_ties), sl_Tongue_ties⟩)
    (c_Tongue_ties : PySem.W.codeIn K cd_Tongue_ties "Tongue.ties" = true)
    (k_Tongue_ties : PySem.W.keepIn K (.ref f_Tongue_ties) = true)
    (a_is_tuple : PySem.W.nsIn K mainGlobals "is_tuple" = some (some (.ref f_is_tuple)))
    (l_is_tuple : K.lookup f_is_tuple = some ⟨oc_is_tuple, od_is_tuple, .func (PySem.W.fnOf "is_tuple" "is_tuple" (defArgs s_is_tuple) (defBody s_is_tuple) (defScope s_is_tuple) .none kV_is_tuple dc_is_tuple pm_is_tuple an_is_tuple cd_is_tuple ct_is_tuple), sl_is_tuple⟩)
    (c_is_tuple : PySem.W.codeIn K cd_is_tuple "is_tuple" = true)
    (k_is_tuple : PySem.W.keepIn K (.ref f_is_tuple) = true)
    (a_is_pair : PySem.W.nsIn K mainGlobals "is_pair" = some (some (.ref f_is_pair)))
    (l_is_pair : K.lookup f_is_pair = some ⟨oc_is_pair, od_is_pair, .func (PySem.W.fnOf "is_pair" "is_pair" (defArgs s_is_pair) (defBody s_is_pair) (defScope s_is_pair) .none kV_is_pair dc_is_pair pm_is_pair an_is_pair cd_is_pair ct_is_pair), sl_is_pair⟩)
    (c_is_pair : PySem.W.codeIn K cd_is_pair "is_pair" = true)
    (k_is_pair : PySem.W.keepIn K (.ref f_is_pair) = true)
    (a_are_pairs : PySem.W.nsIn K mainGlobals "are_pairs" = some (some (.ref f_are_pairs)))
    (l_are_pairs : K.lookup f_are_pairs = some ⟨oc_are_pairs, od_are_pairs, .func (PySem.W.fnOf "are_pairs" "are_pairs" (defArgs s_are_pairs) (defBody s_are_pairs) (defScope s_are_pairs) .none kV_are_pairs dc_are_pairs pm_are_pairs an_are_pairs cd_are_pairs ct_are_pairs), sl_are_pairs⟩)
    (c_are_pairs : PySem.W.codeIn K cd_are_pairs "are_pairs" = true)
    (k_are_pairs : PySem.W.keepIn K (.ref f_are_pairs) = true)
    (a_is_function : PySem.W.nsIn K mainGlobals "is_function" = some (some (.ref f_is_function)))
    (l_is_function : K.lookup f_is_function = some ⟨oc_is_function, od_is_function, .func (PySem.W.fnOf "is_function" "is_function" (defArgs s_is_function) (defBody s_is_function) (defScope s_is_function) .none kV_is_function dc_is_function pm_is_function an_is_function cd_is_function ct_is_function), sl_is_function⟩)
    (c_is_function : PySem.W.codeIn K cd_is_function "is_function" = true)
    (k_is_function : PySem.W.keepIn K (.ref f_is_function) = true)
    (a_check_ties : PySem.W.nsIn K mainGlobals "check_ties" = some (some (.ref f_check_ties)))
    (l_check_ties : K.lookup f_check_ties = some ⟨oc_check_ties, od_check_ties, .func (PySem.W.fnOf "check_ties" "check_ties" (defArgs s_check_ties) (defBody s_check_ties) (defScope s_check_ties) .none kV_check_ties dc_check_ties pm_check_ties an_check_ties cd_check_ties ct_check_ties), sl_check_ties⟩)
    (c_check_ties : PySem.W.codeIn K cd_check_ties "check_ties" = true)
    (k_check_ties : PySem.W.keepIn K (.ref f_check_ties) = true)
    (a_World___init__ : PySem.W.findIn K (.ref C_World) "__init__" = some (some (.ref f_World___init__)))
    (i_World___init__ : PySem.W.isFn K (.ref f_World___init__) = true)
    (l_World___init__ : K.lookup f_World___init__ = some ⟨oc_World___init__, od_World___init__, .func (PySem.W.fnOf "__init__" "World.__init__" (defArgs s_World___init__) (defBody s_World___init__) (defScope s_World___init__) .none kV_World___init__ dc_World___init__ pm_World___init__ an_World___init__ cd_World___init__ ct_World___init__), sl_World___init__⟩)
    (c_World___init__ : PySem.W.codeIn K cd_World___init__ "World.__init__" = true)
    (k_World___init__ : PySem.W.keepIn K (.ref f_World___init__) = true)
    (a__law_mixed : PySem.W.nsIn K mainGlobals "_law_mixed" = some (some (.ref f__law_mixed)))
    (l__law_mixed : K.lookup f__law_mixed = some ⟨oc__law_mixed, od__law_mixed, .func (PySem.W.fnOf "_law_mixed" "_law_mixed" (defArgs s__law_mixed) (defBody s__law_mixed) (defScope s__law_mixed) .none kV__law_mixed dc__law_mixed pm__law_mixed an__law_mixed cd__law_mixed ct__law_mixed), sl__law_mixed⟩)
    (c__law_mixed : PySem.W.codeIn K cd__law_mixed "_law_mixed" = true)
    (k__law_mixed : PySem.W.keepIn K (.ref f__law_mixed) = true)
    (a_Tongue___eq__ : PySem.W.findIn K (.ref C_Tongue) "__eq__" = some (some (.ref f_Tongue___eq__)))
    (i_Tongue___eq__ : PySem.W.isFn K (.ref f_Tongue___eq__) = true)
    (l_Tongue___eq__ : K.lookup f_Tongue___eq__ = some ⟨oc_Tongue___eq__, od_Tongue___eq__, .func (PySem.W.fnOf "__eq__" "Tongue.__eq__" (defArgs s_Tongue___eq__) (defBody s_Tongue___eq__) (defScope s_Tongue___eq__) .none kV_Tongue___eq__ dc_Tongue___eq__ pm_Tongue___eq__ an_Tongue___eq__ cd_Tongue___eq__ ct_Tongue___eq__), sl_Tongue___eq__⟩)
    (c_Tongue___eq__ : PySem.W.codeIn K cd_Tongue___eq__ "Tongue.__eq__" = true)
    (k_Tongue___eq__ : PySem.W.keepIn K (.ref f_Tongue___eq__) = true)
    (a_law : PySem.W.nsIn K mainGlobals "law" = some (some (.ref f_law)))
    (l_law : K.lookup f_law = some ⟨oc_law, od_law, .func (PySem.W.fnOf "law" "law" (defArgs s_law) (defBody s_law) (defScope s_law) .none kV_law dc_law pm_law an_law cd_law ct_law), sl_law⟩)
    (c_law : PySem.W.codeIn K cd_law "law" = true)
    (k_law : PySem.W.keepIn K (.ref f_law) = true)
    (z_abs : PySem.W.nsIn K mainGlobals "abs" = some none)
    (z_bool : PySem.W.nsIn K mainGlobals "bool" = some none)
    (z_dict : PySem.W.nsIn K mainGlobals "dict" = some none)
    (z_int : PySem.W.nsIn K mainGlobals "int" = some none)
    (z_isinstance : PySem.W.nsIn K mainGlobals "isinstance" = some none)
    (z_len : PySem.W.nsIn K mainGlobals "len" = some none)
    (z_list : PySem.W.nsIn K mainGlobals "list" = some none)
    (z_range : PySem.W.nsIn K mainGlobals "range" = some none)
    (z_sorted : PySem.W.nsIn K mainGlobals "sorted" = some none)
    (z_str : PySem.W.nsIn K mainGlobals "str" = some none)
    (z_sum : PySem.W.nsIn K mainGlobals "sum" = some none)
    (z_tuple : PySem.W.nsIn K mainGlobals "tuple" = some none)
    (pg_Tongue : PySem.W.plainGet K C_Tongue Str.empty = true)
    (hd_Tongue : PySem.W.hasDictIn K C_Tongue = true)
    (po_Tongue : PySem.W.plainOver K C_Tongue = true)
    (sa_Tongue : PySem.W.findIn K (.ref C_Tongue) "__setattr__" = some (some (.builtin "object.__setattr__")))
    (mk_Tongue : PySem.W.makesIn K C_Tongue = true)
    (kc_Tongue : PySem.W.keepIn K (.ref C_Tongue) = true)
    (na_Tongue_functions : PySem.W.findIn K (.ref C_Tongue) "functions" = some none)
    (na_Tongue_kept_marks : PySem.W.findIn K (.ref C_Tongue) "kept_marks" = some none)
    (na_Tongue_kept_ties : PySem.W.findIn K (.ref C_Tongue) "kept_ties" = some none)
    (pg_World : PySem.W.plainGet K C_World Str.empty = true)
    (hd_World : PySem.W.hasDictIn K C_World = true)
    (po_World : PySem.W.plainOver K C_World = true)
    (sa_World : PySem.W.findIn K (.ref C_World) "__setattr__" = some (some (.builtin "object.__setattr__")))
    (mk_World : PySem.W.makesIn K C_World = true)
    (kc_World : PySem.W.keepIn K (.ref C_World) = true)
    (na_World_marked : PySem.W.findIn K (.ref C_World) "marked" = some none)
    (na_World_things : PySem.W.findIn K (.ref C_World) "things" = some none)
    (na_World_tied : PySem.W.findIn K (.ref C_World) "tied" = some none)
    (na_World_tongue : PySem.W.findIn K (.ref C_World) "tongue" = some none)
    (xa_Tongue : PySem.W.findIn K (.ref C_Tongue) "__class__" = some (some (.builtin "object.__class__")))
    (xn_Tongue : PySem.W.specialIn K (.builtin "object.__class__") "__get__" = some (some (.builtin "getset_descriptor.__get__")))
    (xx_Tongue : PySem.W.takesIn K (.builtin "object.__class__") = some true)
    (xm_Tongue : PySem.W.mroIn K C_Tongue (.type "object") = some true)
    (xa_World : PySem.W.findIn K (.ref C_World) "__class__" = some (some (.builtin "object.__class__")))
    (xn_World : PySem.W.specialIn K (.builtin "object.__class__") "__get__" = some (some (.builtin "getset_descriptor.__get__")))
    (xx_World : PySem.W.takesIn K (.builtin "object.__class__") = some true)
    (xm_World : PySem.W.mroIn K C_World (.type "object") = some true)
    (ne_Tongue : PySem.W.findIn K (.ref C_Tongue) "__ne__" = some (some (.builtin "object.__ne__")))
    (nm_Tongue : PySem.W.mroIn K C_Tongue (.type "object") = some true)
    (ki_Tongue : PySem.W.isClsIn K C_Tongue = true)
    (kt_Tongue : PySem.W.typeIn K (.ref C_Tongue) = some (.type "type"))
    (ss_Tongue : PySem.W.subIn K (.ref C_Tongue) (.ref C_Tongue) = some true)
    (ms_Tongue_World : PySem.W.subIn K (.ref C_World) (.ref C_Tongue) = some false)
    (v_LETTERS : PySem.W.nsIn K mainGlobals "LETTERS" = some (some (.str ("abcdefghijklmnopqrstuvwxyz" : Str) t_LETTERS)))
    (v_MOST_LETTERS : PySem.W.nsIn K mainGlobals "MOST_LETTERS" = some (some (.int (6 : Int) t_MOST_LETTERS)))
    (v_KEPT_WORDS : PySem.W.nsIn K mainGlobals "KEPT_WORDS" = some (some (.ref g_KEPT_WORDS)))
    (o_KEPT_WORDS : K.lookup g_KEPT_WORDS = some ⟨.type "dict", none, .dict es_KEPT_WORDS n_KEPT_WORDS, #[]⟩)
    (q_KEPT_WORDS : (g_KEPT_WORDS == sysModules) = false)
    (q2_KEPT_WORDS : es_KEPT_WORDS.toList.map He.keyOf = He.keysIn w.params KEPT_WORDS_ws)
    (v_MOST_MARKS : PySem.W.nsIn K mainGlobals "MOST_MARKS" = some (some (.int (3 : Int) t_MOST_MARKS)))
    (v_MOST_TIES : PySem.W.nsIn K mainGlobals "MOST_TIES" = some (some (.int (2 : Int) t_MOST_TIES)))
    (v_MOST_THINGS : PySem.W.nsIn K mainGlobals "MOST_THINGS" = some (some (.int (300 : Int) t_MOST_THINGS))) :
    ∃ fd : FuncData, (∀ (s : Shared) (v : Value), BindsTo s fd ⟨[v], []⟩ [("_law_script", v)]) ∧ ∀ base : Heap, K.In base → base.Ns mainGlobals mg → FnOk l.prog w K mg base (L2.CX l.prog w) 9 fa fd ["_law_script"] (spLaw K 63) := by
  have e := hfa.symm.trans (PySem.W.mg_of X G a_law)
  cases e
  have T : Txt ⟨f__law_pool, f__law_draw, f__law_names, f_is_sequence, f_is_word, f_are_names, f_is_key, f_are_functions, f_Tongue___init__, f_is_dict_of, f_Tongue_marks, f_is_integer, f_is_within, f_is_thing, f_are_things, f_check_marks, f_Tongue_ties, f_is_tuple, f_is_pair, f_are_pairs, f_is_function, f_check_ties, f_World___init__, f__law_mixed, f_Tongue___eq__, fa, p_Tongue_marks, p_Tongue_ties, g_KEPT_WORDS⟩ K w mg (fun n => match n with | 0 => C_Tongue | 1 => C_World | _ => C_Tongue) := ⟨PySem.W.mg_none_of X G z_abs,
    PySem.W.mg_none_of X G z_bool,
    PySem.W.mg_none_of X G z_dict,
    PySem.W.mg_none_of X G z_int,
    PySem.W.mg_none_of X G z_isinstance,
    PySem.W.mg_none_of X G z_len,
    PySem.W.mg_none_of X G z_list,
    PySem.W.mg_none_of X G z_range,
    PySem.W.mg_none_of X G z_sorted,
    PySem.W.mg_none_of X G z_str,
    PySem.W.mg_none_of X G z_sum,
    PySem.W.mg_none_of X G z_tuple,
    PySem.W.mg_of X G a__law_pool,
    PySem.W.mg_of X G a__law_draw,
    PySem.W.mg_of X G a__law_names,
    PySem.W.mg_of X G a_is_sequence,
    PySem.W.mg_of X G a_is_word,
    PySem.W.mg_of X G a_are_names,
    PySem.W.mg_of X G a_is_key,
    PySem.W.mg_of X G a_are_functions,
    PySem.W.mg_of X G a_is_dict_of,
    PySem.W.mg_of X G a_is_integer,
    PySem.W.mg_of X G a_is_within,
    PySem.W.mg_of X G a_is_thing,
    PySem.W.mg_of X G a_are_things,
    PySem.W.mg_of X G a_check_marks,
    PySem.W.mg_of X G a_is_tuple,
    PySem.W.mg_of X G a_is_pair,
    PySem.W.mg_of X G a_are_pairs,
    PySem.W.mg_of X G a_is_function,
    PySem.W.mg_of X G a_check_ties,
    PySem.W.mg_of X G a__law_mixed,
    PySem.W.mg_of X G a_law,
    PySem.W.mg_of X G aC_Tongue,
    ⟨pg_Tongue, hd_Tongue, po_Tongue, sa_Tongue⟩,
    ⟨mk_Tongue, a_Tongue___init__, i_Tongue___init__, kc_Tongue⟩,
    na_Tongue_functions,
    na_Tongue_kept_marks,
    na_Tongue_kept_ties,
    ⟨at_Tongue_marks, ge_Tongue_marks, tk_Tongue_marks, _, re_Tongue_marks⟩,
    ⟨at_Tongue_ties, ge_Tongue_ties, tk_Tongue_ties, _, re_Tongue_ties⟩,
    ⟨a_Tongue___eq__, i_Tongue___eq__, k_Tongue___eq__⟩,
    PySem.W.mg_of X G aC_World,
    ⟨pg_World, hd_World, po_World, sa_World⟩,
    ⟨mk_World, a_World___init__, i_World___init__, kc_World⟩,
    na_World_marked,
    na_World_things,
    na_World_tied,
    na_World_tongue,
    ⟨⟨pg_Tongue, hd_Tongue, po_Tongue, sa_Tongue⟩, xa_Tongue, xn_Tongue, xx_Tongue, xm_Tongue⟩,
    ⟨⟨pg_World, hd_World, po_World, sa_World⟩, xa_World, xn_World, xx_World, xm_World⟩,
    ⟨ne_Tongue, a_Tongue___eq__, i_Tongue___eq__, nm_Tongue⟩,
    ki_Tongue,
    kt_Tongue,
    ss_Tongue,
    ms_Tongue_World,
    ⟨_, PySem.W.mg_of X G v_LETTERS⟩,
    ⟨_, PySem.W.mg_of X G v_MOST_LETTERS⟩,
    PySem.W.mg_of X G v_KEPT_WORDS,
    kwords_of o_KEPT_WORDS q_KEPT_WORDS q2_KEPT_WORDS,
    ⟨_, PySem.W.mg_of X G v_MOST_MARKS⟩,
    ⟨_, PySem.W.mg_of X G v_MOST_TIES⟩,
    ⟨_, PySem.W.mg_of X G v_MOST_THINGS⟩⟩
  have F__law_pool := fun_mk (st := s__law_pool) l__law_pool c__law_pool k__law_pool
  have F__law_draw := fun_mk (st := s__law_draw) l__law_draw c__law_draw k__law_draw
  have F__law_names := fun_mk (st := s__law_names) l__law_names c__law_names k__law_names
  have F_is_sequence := fun_mk (st := s_is_sequence) l_is_sequence c_is_sequence k_is_sequence
  have F_is_word := fun_mk (st := s_is_word) l_is_word c_is_word k_is_word
  have F_are_names := fun_mk (st := s_are_names) l_are_names c_are_names k_are_names
  have F_is_key := fun_mk (st := s_is_key) l_is_key c_is_key k_is_key
  have F_are_functions := fun_mk (st := s_are_functions) l_are_functions c_are_functions k_are_functions
  have F_Tongue___init__ := fun_mk (st := s_Tongue___init__) l_Tongue___init__ c_Tongue___init__ k_Tongue___init__
  have F_is_dict_of := fun_mk (st := s_is_dict_of) l_is_dict_of c_is_dict_of k_is_dict_of
  have F_Tongue_marks := fun_mk (st := s_Tongue_marks) l_Tongue_marks c_Tongue_marks k_Tongue_marks
  have F_is_integer := fun_mk (st := s_is_integer) l_is_integer c_is_integer k_is_integer
  have F_is_within := fun_mk (st := s_is_within) l_is_within c_is_within k_is_within
  have F_is_thing := fun_mk (st := s_is_thing) l_is_thing c_is_thing k_is_thing
  have F_are_things := fun_mk (st := s_are_things) l_are_things c_are_things k_are_things
  have F_check_marks := fun_mk (st := s_check_marks) l_check_marks c_check_marks k_check_marks
  have F_Tongue_ties := fun_mk (st := s_Tongue_ties) l_Tongue_ties c_Tongue_ties k_Tongue_ties
  have F_is_tuple := fun_mk (st := s_is_tuple) l_is_tuple c_is_tuple k_is_tuple
  have F_is_pair := fun_mk (st := s_is_pair) l_is_pair c_is_pair k_is_pair
  have F_are_pairs := fun_mk (st := s_are_pairs) l_are_pairs c_are_pairs k_are_pairs
  have F_is_function := fun_mk (st := s_is_function) l_is_function c_is_function k_is_function
  have F_check_ties := fun_mk (st := s_check_ties) l_check_ties c_check_ties k_check_ties
  have F_World___init__ := fun_mk (st := s_World___init__) l_World___init__ c_World___init__ k_World___init__
  have F__law_mixed := fun_mk (st := s__law_mixed) l__law_mixed c__law_mixed k__law_mixed
  have F_Tongue___eq__ := fun_mk (st := s_Tongue___eq__) l_Tongue___eq__ c_Tongue___eq__ k_Tongue___eq__
  have F_law := fun_mk (st := s_law) l_law c_law k_law
  refine ⟨PySem.W.fnOf "law" "law" (defArgs s_law) (defBody s_law) (defScope s_law) .none kV_law dc_law pm_law an_law cd_law ct_law, fun s v => .of_eq rfl, fun base _ _ => ?_⟩
  have H__law_pool := ok__law_pool (P := l.prog) (base := base) T F__law_pool
  have H__law_draw := ok__law_draw (P := l.prog) (base := base) T F__law_draw
  have H__law_names := ok__law_names (P := l.prog) (base := base) T H__law_draw F__law_names
  have H_is_sequence := ok_is_sequence (P := l.prog) (base := base) T F_is_sequence
  have H_is_word := ok_is_word (P := l.prog) (base := base) T F_is_word
  have H_are_names := ok_are_names (P := l.prog) (base := base) T H_is_sequence H_is_word F_are_names
  have H_is_key := ok_is_key (P := l.prog) (base := base) T F_is_key
  have H_are_functions := ok_are_functions (P := l.prog) (base := base) T H_is_sequence H_is_key F_are_functions
  have H_Tongue___init__ := ok_Tongue___init__ (P := l.prog) (base := base) T H_are_names H_are_functions F_Tongue___init__
  have H_is_dict_of := ok_is_dict_of (P := l.prog) (base := base) T H_is_key F_is_dict_of
  have H_Tongue_marks := ok_Tongue_marks (P := l.prog) (base := base) T F_Tongue_marks
  have H_is_integer := ok_is_integer (P := l.prog) (base := base) T F_is_integer
  have H_is_within := ok_is_within (P := l.prog) (base := base) T H_is_integer F_is_within
  have H_is_thing := ok_is_thing (P := l.prog) (base := base) T H_is_within F_is_thing
  have H_are_things := ok_are_things (P := l.prog) (base := base) T H_is_sequence H_is_thing F_are_things
  have H_check_marks := ok_check_marks (P := l.prog) (base := base) T H_is_dict_of H_Tongue_marks H_are_things F_check_marks
  have H_Tongue_ties := ok_Tongue_ties (P := l.prog) (base := base) T F_Tongue_ties
  have H_is_tuple := ok_is_tuple (P := l.prog) (base := base) T F_is_tuple
  have H_is_pair := ok_is_pair (P := l.prog) (base := base) T H_is_tuple H_is_thing F_is_pair
  have H_are_pairs := ok_are_pairs (P := l.prog) (base := base) T H_is_sequence H_is_pair F_are_pairs
  have H_is_function := ok_is_function (P := l.prog) (base := base) T F_is_function
  have H_check_ties := ok_check_ties (P := l.prog) (base := base) T H_is_dict_of H_Tongue_ties H_are_pairs H_is_function F_check_ties
  have H_World___init__ := ok_World___init__ (P := l.prog) (base := base) T H_is_within H_check_marks H_check_ties H_Tongue_marks H_Tongue_ties F_World___init__
  have H__law_mixed := ok__law_mixed (P := l.prog) (base := base) T H__law_draw F__law_mixed
  have H_Tongue___eq__ := ok_Tongue___eq__ (P := l.prog) (base := base) T H_Tongue_marks H_Tongue_ties F_Tongue___eq__
  have H_law := ok_law (P := l.prog) (base := base) T H__law_pool H__law_names H__law_mixed H__law_draw H_Tongue___init__ H_Tongue___eq__ H_World___init__ F_law
  exact fn_law law_pure H_law
theorem walk {l : PySem.W.OpenLaw} {q : Program} {loose : List Str} {XP : (Str → Option Value) → Heap → Prop} {YP : World → Heap → Prop} {d : DefRec} {K : Params → PySem.W.Frag} (hn : l.most = some 63) (hdf : d.params.defaults = [])
    (hY : ∀ (w : World) (h : Heap), YP w h → (K w.params).In h)
    (F : ∀ (w : World) (mg : Str → Option Value) (fa : Addr) (h : Heap), (K w.params).In h → h.Ns mainGlobals mg → mg d.name = some (.ref fa) →
      ∃ fd : FuncData, (∀ (s : Shared) (u : Value), BindsTo s fd ⟨[u], []⟩ [("_law_script", u)]) ∧ ∀ base : Heap, (K w.params).In base → base.Ns mainGlobals mg → FnOk l.prog w (K w.params) mg base (L2.CX l.prog w) 9 fa fd ["_law_script"] (spLaw (K w.params) 63)) :
    PySem.W.WalkO q loose XP YP l.row.toRowW d [] (fun f vs => PySem.call f vs) :=
  L2.walk_of (n := 63) (k := 9) (x := "_law_script") (CX := fun w => L2.CX l.prog w) (sp := fun w => spLaw (K w.params) 63) hn (by decide) hdf ⟨rfl, by decide, by decide⟩ hY F (fun _ _ a ns hl _ hS => ⟨a, ns, rfl, hl, hS, fun _ => rfl⟩) fun w H s e s' z => cx_no z
end Mi
open PySem PySem.W PyProof.Rows
set_option maxRecDepth 100000 in
set_option maxHeartbeats 0 in
theorem PySem.Challenge.cw_pairsayings_k03_equal_tongues_holds : PySem.Challenge.rw_pairsayings_k03_equal_tongues.Holds := by
  w_on; o_law; k_head; (case hw => w_witness2)
  k_fill
  refine Mi.walk (l := PySem.Challenge.rw_pairsayings_k03_equal_tongues) rfl rfl (fun w h Y => PySem.W.kIn_of Y) ?F
  case F =>
    intro w mg fa h KX G hmg
    refine' Mi.all_mk KX G hmg ?aC_Tongue ?aC_World ?a__law_pool ?l__law_pool ?c__law_pool ?k__law_pool ?a__law_draw ?l__law_draw ?c__law_draw ?k__law_draw ?a__law_names ?l__law_names ?c__law_names ?k__law_names ?a_is_sequence ?l_is_sequence ?c_is_sequence ?k_is_sequence ?a_is_word ?l_is_word ?c_is_word ?k_is_word ?a_are_names ?l_are_names ?c_are_names ?k_are_names ?a_is_key ?l_is_key ?c_is_key ?k_is_key ?a_are_functions ?l_are_functions ?c_are_functions ?k_are_functions ?a_Tongue___init__ ?i_Tongue___init__ ?l_Tongue___init__ ?c_Tongue___init__ ?k_Tongue___init__ ?a_is_dict_of ?l_is_dict_of ?c_is_dict_of ?k_is_dict_of ?at_Tongue_marks ?ge_Tongue_marks ?tk_Tongue_marks ?re_Tongue_marks ?l_Tongue_marks ?c_Tongue_marks ?k_Tongue_marks ?a_is_integer ?l_is_integer ?c_is_integer ?k_is_integer ?a_is_within ?l_is_within ?c_is_within ?k_is_within ?a_is_thing ?l_is_thing ?c_is_thing ?k_is_thing ?a_are_things ?l_are_things ?c_are_things ?k_are_things ?a_check_marks ?l_check_marks ?c_check_marks ?k_check_marks ?at_Tongue_ties ?ge_Tongue_ties ?tk_Tongue_ties ?re_Tongue_ties ?l_Tongue_ties ?c_Tongue_ties ?k_Tongue_ties ?a_is_tuple ?l_is_tuple ?c_is_tuple ?k_is_tuple ?a_is_pair ?l_is_pair ?c_is_pair ?k_is_pair ?a_are_pairs ?l_are_pairs ?c_are_pairs ?k_are_pairs ?a_is_function ?l_is_function ?c_is_function ?k_is_function ?a_check_ties ?l_check_ties ?c_check_ties ?k_check_ties ?a_World___init__ ?i_World___init__ ?l_World___init__ ?c_World___init__ ?k_World___init__ ?a__law_mixed ?l__law_mixed ?c__law_mixed ?k__law_mixed ?a_Tongue___eq__ ?i_Tongue___eq__ ?l_Tongue___eq__ ?c_Tongue___eq__ ?k_Tongue___eq__ ?a_law ?l_law ?c_law ?k_law ?z_abs ?z_bool ?z_dict ?z_int ?z_isinstance ?z_len ?z_list ?z_range ?z_sorted ?z_str ?z_sum ?z_tuple ?pg_Tongue ?hd_Tongue ?po_Tongue ?sa_Tongue ?mk_Tongue ?kc_Tongue ?na_Tongue_functions ?na_Tongue_kept_marks ?na_Tongue_kept_ties ?pg_World ?hd_World ?po_World ?sa_World ?mk_World ?kc_World ?na_World_marked ?na_World_things ?na_World_tied ?na_World_tongue ?xa_Tongue ?xn_Tongue ?xx_Tongue ?xm_Tongue ?xa_World ?xn_World ?xx_World ?xm_World ?ne_Tongue ?nm_Tongue ?ki_Tongue ?kt_Tongue ?ss_Tongue ?ms_Tongue_World ?v_LETTERS ?v_MOST_LETTERS ?v_KEPT_WORDS ?o_KEPT_WORDS ?q_KEPT_WORDS ?q2_KEPT_WORDS ?v_MOST_MARKS ?v_MOST_TIES ?v_MOST_THINGS
    (case aC_Tongue => k_is)
    (case aC_World => k_is)
    (case a__law_pool => k_is)
    (case l__law_pool => k_is)
    (case c__law_pool => k_is)
    (case k__law_pool => k_is)
    (case a__law_draw => k_is)
    (case l__law_draw => k_is)
    (case c__law_draw => k_is)
    (case k__law_draw => k_is)
    (case a__law_names => k_is)
    (case l__law_names => k_is)
    (case c__law_names => k_is)
    (case k__law_names => k_is)
    (case a_is_sequence => k_is)
    (case l_is_sequence => k_is)
    (case c_is_sequence => k_is)
    (case k_is_sequence => k_is)
    (case a_is_word => k_is)
    (case l_is_word => k_is)
    (case c_is_word => k_is)
    (case k_is_word => k_is)
    (case a_are_names => k_is)
    (case l_are_names => k_is)
    (case c_are_names => k_is)
    (case k_are_names => k_is)
    (case a_is_key => k_is)
    (case l_is_key => k_is)
    (case c_is_key => k_is)
    (case k_is_key => k_is)
    (case a_are_functions => k_is)
    (case l_are_functions => k_is)
    (case c_are_functions => k_is)
    (case k_are_functions => k_is)
    (case a_Tongue___init__ => k_is)
    (case i_Tongue___init__ => k_is)
    (case l_Tongue___init__ => k_is)
    (case c_Tongue___init__ => k_is)
    (case k_Tongue___init__ => k_is)
    (case a_is_dict_of => k_is)
    (case l_is_dict_of => k_is)
    (case c_is_dict_of => k_is)
    (case k_is_dict_of => k_is)
    (case at_Tongue_marks => k_is)
    (case ge_Tongue_marks => k_is)
    (case tk_Tongue_marks => k_is)
    (case re_Tongue_marks => k_is)
    (case l_Tongue_marks => k_is)
    (case c_Tongue_marks => k_is)
    (case k_Tongue_marks => k_is)
    (case a_is_integer => k_is)
    (case l_is_integer => k_is)
    (case c_is_integer => k_is)
    (case k_is_integer => k_is)
    (case a_is_within => k_is)
    (case l_is_within => k_is)
    (case c_is_within => k_is)
    (case k_is_within => k_is)
    (case a_is_thing => k_is)
    (case l_is_thing => k_is)
    (case c_is_thing => k_is)
    (case k_is_thing => k_is)
    (case a_are_things => k_is)
    (case l_are_things => k_is)
    (case c_are_things => k_is)
    (case k_are_things => k_is)
    (case a_check_marks => k_is)
    (case l_check_marks => k_is)
    (case c_check_marks => k_is)
    (case k_check_marks => k_is)
    (case at_Tongue_ties => k_is)
    (case ge_Tongue_ties => k_is)
    (case tk_Tongue_ties => k_is)
    (case re_Tongue_ties => k_is)
    (case l_Tongue_ties => k_is)
    (case c_Tongue_ties => k_is)
    (case k_Tongue_ties => k_is)
    (case a_is_tuple => k_is)
    (case l_is_tuple => k_is)
    (case c_is_tuple => k_is)
    (case k_is_tuple => k_is)
    (case a_is_pair => k_is)
    (case l_is_pair => k_is)
    (case c_is_pair => k_is)
    (case k_is_pair => k_is)
    (case a_are_pairs => k_is)
    (case l_are_pairs => k_is)
    (case c_are_pairs => k_is)
    (case k_are_pairs => k_is)
    (case a_is_function => k_is)
    (case l_is_function => k_is)
    (case c_is_function => k_is)
    (case k_is_function => k_is)
    (case a_check_ties => k_is)
    (case l_check_ties => k_is)
    (case c_check_ties => k_is)
    (case k_check_ties => k_is)
    (case a_World___init__ => k_is)
    (case i_World___init__ => k_is)
    (case l_World___init__ => k_is)
    (case c_World___init__ => k_is)
    (case k_World___init__ => k_is)
    (case a__law_mixed => k_is)
    (case l__law_mixed => k_is)
    (case c__law_mixed => k_is)
    (case k__law_mixed => k_is)
    (case a_Tongue___eq__ => k_is)
    (case i_Tongue___eq__ => k_is)
    (case l_Tongue___eq__ => k_is)
    (case c_Tongue___eq__ => k_is)
    (case k_Tongue___eq__ => k_is)
    (case a_law => k_is)
    (case l_law => k_is)
    (case c_law => k_is)
    (case k_law => k_is)
    (case z_abs => k_is)
    (case z_bool => k_is)
    (case z_dict => k_is)
    (case z_int => k_is)
    (case z_isinstance => k_is)
    (case z_len => k_is)
    (case z_list => k_is)
    (case z_range => k_is)
    (case z_sorted => k_is)
    (case z_str => k_is)
    (case z_sum => k_is)
    (case z_tuple => k_is)
    (case pg_Tongue => k_is)
    (case hd_Tongue => k_is)
    (case po_Tongue => k_is)
    (case sa_Tongue => k_is)
    (case mk_Tongue => k_is)
    (case kc_Tongue => k_is)
    (case na_Tongue_functions => k_is)
    (case na_Tongue_kept_marks => k_is)
    (case na_Tongue_kept_ties => k_is)
    (case pg_World => k_is)
    (case hd_World => k_is)
    (case po_World => k_is)
    (case sa_World => k_is)
    (case mk_World => k_is)
    (case kc_World => k_is)
    (case na_World_marked => k_is)
    (case na_World_things => k_is)
    (case na_World_tied => k_is)
    (case na_World_tongue => k_is)
    (case xa_Tongue => first | rfl | k_is)
    (case xn_Tongue => first | rfl | k_is)
    (case xx_Tongue => first | rfl | k_is)
    (case xm_Tongue => first | rfl | k_is)
    (case xa_World => first | rfl | k_is)
    (case xn_World => first | rfl | k_is)
    (case xx_World => first | rfl | k_is)
    (case xm_World => first | rfl | k_is)
    (case ne_Tongue => k_is)
    (case nm_Tongue => k_is)
    (case ki_Tongue => k_is)
    (case kt_Tongue => k_is)
    (case ss_Tongue => k_is)
    (case ms_Tongue_World => k_is)
    (case v_LETTERS => k_is)
    (case v_MOST_LETTERS => k_is)
    (case v_KEPT_WORDS => k_is)
    (case o_KEPT_WORDS => k_is)
    (case q_KEPT_WORDS => rfl)
    (case q2_KEPT_WORDS => rfl)
    (case v_MOST_MARKS => k_is)
    (case v_MOST_TIES => k_is)
    (case v_MOST_THINGS => k_is)

