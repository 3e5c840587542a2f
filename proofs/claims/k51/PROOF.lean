import PyProof.Rows.All
import HandS.ForMost
import HandS.ForExc
import HandS.Deep
import HandS.TupAny
import HandS.TupMul
import HandS.IsInst
import HandS.Flow
import HandS.Wide
import KE.DataMinMax
import HandS.Conv
import HandS.Style
import HandS.SortInts
import HandS.DictComp
import HandS.Rev
import HandS.Zip
import HandS.ExcIs
import HandS.WideBits
import HandS.Text
import PyProof.FactsAll.str_0
import PyProof.FactsAll.str_5
import HandS.TupLe
import HandS.Base
import HandS.Call
import HandS.List
import HandS.SortRule
import KE.SortCalls
import KE.SortKeyed
import HandS.Iter
import HandS.SetKeys
import KE.KIndexOf
import HandS.TryOnly
import PySem.Challenge.RW_backstair_k51_clean_nets
set_option Elab.async false
set_option linter.all false
set_option maxRecDepth 100000
set_option maxHeartbeats 4000000
/-! PM, part a: values without addresses, the store, how they stand in the heap -/
namespace PM
open PySem PySem.Spec L2

/-- the built-in classes that are asked for -/
inductive Tg where
  | non | bl | int | str | tup | lst | dct | ve
  deriving DecidableEq
def Tg.nm : Tg → String
  | .non => "NoneType" | .bl => "bool" | .int => "int" | .str => "str" | .tup => "tuple" | .lst => "list" | .dct => "dict" | .ve => "ValueError"
/-- a value as data; loc: a mutable object of the store; fz: the frozen list of the script; kt: a tuple of the module's top -/
inductive Val where
  | non | bl (b : Bool) | int (i : Int) | str (s : Str) | ty (n : Tg)
  | tup (xs : List Val) | lst (xs : List Val) | fz (xs : List Val) | kt (xs : List Val)
  | dk (ks : List Key) (vs : List Val) | dt (ks : List (List Key)) (vs : List Val)
  | ins (c : Nat) (vs : List Val) | err (c : Nat) (vs : List Val) | cls (c : Nat)
  | loc (n : Nat)
/-- a mutable object; lk: locked while a loop walks it -/
inductive Ob where
  | lst (xs : List Val)
  | dk (lk : Bool) (ks : List Key) (vs : List Val)
  | dt (lk : Bool) (ks : List (List Key)) (vs : List Val)
  | ins (c : Nat) (vs : List Val)
/-- the classes by number: where they stand, their attributes in the order in which __init__ sets them -/
structure Tbl where
  cl : Nat → Option Addr
  fl : Nat → List Str
  /-- the error that a suite holds: its object, its dict, its class -/
  ex : Option (Addr × Option Addr × Addr) := none
  /-- tuples of the module's top -/
  kc : List (List V) := []
structure Sto where
  next : Nat
  objs : Nat → Option Ob
/-- what is known of the heap: the objects that never change, where the store's objects stand, how many there were -/
structure Wd where
  I : Hp
  m : Nat → Addr
  n : Nat

structure WLe (W W' : Wd) : Prop where
  sub : ∀ a o, W.I a = some o → W'.I a = some o
  le : W.n ≤ W'.n
  eq : ∀ k, k < W.n → W'.m k = W.m k
theorem WLe.refl (W : Wd) : WLe W W := ⟨fun _ _ h => h, Nat.le_refl _, fun _ _ => rfl⟩
theorem WLe.trans {W W1 W2 : Wd} (a : WLe W W1) (b : WLe W1 W2) : WLe W W2 :=
  ⟨fun c o h => b.sub c o (a.sub c o h), Nat.le_trans a.le b.le, fun k h => (b.eq k (Nat.lt_of_lt_of_le h a.le)).trans (a.eq k h)⟩

theorem SqT_mono {K : PySem.W.Frag} {H H' : Hp} {a : Addr} {xs : List V} (s : ∀ a o, H a = some o → H' a = some o) (h : SqT K H a xs) : SqT K H' a xs := by
  rcases h with (h | ⟨o, h⟩) | h
  · exact .inl (.inl (s _ _ h))
  · exact .inl (.inr ⟨o, s _ _ h⟩)
  · exact .inr h

theorem SqL_mono {K : PySem.W.Frag} {H H' : Hp} {a : Addr} {xs : List V} (s : ∀ a o, H a = some o → H' a = some o) (h : SqL K H a xs) : SqL K H' a xs := by
  rcases h with (h | ⟨o, h⟩) | h
  · exact .inl (.inl (s _ _ h))
  · exact .inl (.inr ⟨o, s _ _ h⟩)
  · exact .inr h

/-- a tuple: tracked, or one of the module's top -/
def TQ (K : PySem.W.Frag) (kc : List (List V)) (I : Hp) (a : Addr) (xs : List V) : Prop := I a = some (.tup xs) ∨ (SqT K I a xs ∧ xs ∈ kc)
theorem TQ.sq {K : PySem.W.Frag} {kc : List (List V)} {I : Hp} {a : Addr} {xs : List V} (h : TQ K kc I a xs) : SqT K I a xs := h.elim (fun h => .inl (.inl h)) And.left
theorem TQ_sq {K : PySem.W.Frag} {kc : List (List V)} {H H' : Hp} {a : Addr} {xs : List V} (s : ∀ a o, H a = some o → H' a = some o) (h : TQ K kc H a xs) : SqT K H' a xs := SqT_mono s h.sq
theorem TQ_mono {K : PySem.W.Frag} {kc : List (List V)} {H H' : Hp} {a : Addr} {xs : List V} (s : ∀ a o, H a = some o → H' a = some o) (h : TQ K kc H a xs) : TQ K kc H' a xs := h.elim (fun h => .inl (s _ _ h)) fun h => .inr ⟨SqT_mono s h.1, h.2⟩
section
variable (K : PySem.W.Frag) (T : Tbl)
mutual
inductive VR (W : Wd) : Val → V → Prop
  | non : VR W .non .non
  | bl (b : Bool) : VR W (.bl b) (.bl b)
  | int (i : Int) : VR W (.int i) (.int i)
  | str (x : Str) : VR W (.str x) (.str x)
  | ty (n : Tg) : VR W (.ty n) (.ty n.nm)
  | tup {a : Addr} {vs : List Val} {xs : List V} : TQ K T.kc W.I a xs → VRs W vs xs → VR W (.tup vs) (.ref a)
  | lst {a : Addr} {vs : List Val} {xs : List V} : W.I a = some (.lst xs) → VRs W vs xs → VR W (.lst vs) (.ref a)
  | fz {a : Addr} {vs : List Val} {xs : List V} : SqL K W.I a xs → VRs W vs xs → VR W (.fz vs) (.ref a)
  | kt {a : Addr} {vs : List Val} {xs : List V} : SqT K W.I a xs → VRs W vs xs → VR W (.kt vs) (.ref a)
  | dk {a : Addr} {ks : List Key} {vs : List Val} {xs : List V} : ks.length = xs.length → W.I a = some (.dK (ks.zip xs)) → VRs W vs xs → VR W (.dk ks vs) (.ref a)
  | dt {a : Addr} {ks : List (List Key)} {vs : List Val} {xs : List V} : ks.length = xs.length → W.I a = some (.dT (ks.zip xs)) → VRs W vs xs → VR W (.dt ks vs) (.ref a)
  | ins {a C dx : Addr} {c : Nat} {vs : List Val} {xs : List V} : T.cl c = some C → xs.length ≤ (T.fl c).length → W.I a = some (.ins C dx ((T.fl c).zip xs)) → VRs W vs xs → VR W (.ins c vs) (.ref a)
  | loc {k : Nat} : k < W.n → VR W (.loc k) (.ref (W.m k))
  | cls {c : Nat} {C : Addr} : T.cl c = some C → VR W (.cls c) (.ref C)
  | err0 {a C : Addr} {c : Nat} : T.ex = some (a, none, C) → T.cl c = some C → T.fl c = [] → VR W (.err c []) (.ref a)
  | errd {a C d : Addr} {c : Nat} {vs : List Val} {xs : List V} : T.ex = some (a, some d, C) → T.cl c = some C → xs.length ≤ (T.fl c).length → W.I d = some (.xd ((T.fl c).zip xs)) → VRs W vs xs → VR W (.err c vs) (.ref a)
inductive VRs (W : Wd) : List Val → List V → Prop
  | nil : VRs W [] []
  | cons {v : Val} {vs : List Val} {x : V} {xs : List V} : VR W v x → VRs W vs xs → VRs W (v :: vs) (x :: xs)
end
end
section
variable {K : PySem.W.Frag} {T : Tbl} {W W' : Wd}
mutual
theorem VR.mono (l : WLe W W') : ∀ {v : Val} {x : V}, VR K T W v x → VR K T W' v x
  | _, _, .non => .non
  | _, _, .bl b => .bl b
  | _, _, .int b => .int b
  | _, _, .str b => .str b
  | _, _, .ty b => .ty b
  | _, _, .tup h r => .tup (TQ_mono l.sub h) (VRs.mono l r)
  | _, _, .lst h r => .lst (l.sub _ _ h) (VRs.mono l r)
  | _, _, .fz h r => .fz (SqL_mono l.sub h) (VRs.mono l r)
  | _, _, .kt h r => .kt (SqT_mono l.sub h) (VRs.mono l r)
  | _, _, .dk e h r => .dk e (l.sub _ _ h) (VRs.mono l r)
  | _, _, .dt e h r => .dt e (l.sub _ _ h) (VRs.mono l r)
  | _, _, .ins c e h r => .ins c e (l.sub _ _ h) (VRs.mono l r)
  | _, _, .cls h => .cls h
  | _, _, .err0 a b c => .err0 a b c
  | _, _, .errd a b c h r => .errd a b c (l.sub _ _ h) (VRs.mono l r)
  | _, _, .loc (k := k) h => by rw [← l.eq k h]; exact .loc (Nat.lt_of_lt_of_le h l.le)
theorem VRs.mono (l : WLe W W') : ∀ {vs : List Val} {xs : List V}, VRs K T W vs xs → VRs K T W' vs xs
  | _, _, .nil => .nil
  | _, _, .cons a r => .cons (VR.mono l a) (VRs.mono l r)
end
theorem VRs.length : ∀ {vs : List Val} {xs : List V}, VRs K T W vs xs → vs.length = xs.length
  | _, _, .nil => rfl
  | _, _, .cons _ r => congrArg (· + 1) (VRs.length r)
theorem VRs.get : ∀ {vs : List Val} {xs : List V} {i : Nat} {v : Val}, VRs K T W vs xs → vs[i]? = some v → ∃ x, xs[i]? = some x ∧ VR K T W v x
  | _, _, _, _, .nil, e => by simp at e
  | _, _, 0, _, .cons r _, e => by simp at e; subst e; exact ⟨_, rfl, r⟩
  | _, _, i + 1, v, .cons _ t, e => by
    obtain ⟨x, h1, h2⟩ := VRs.get (i := i) (v := v) t (by simpa using e)
    exact ⟨x, by simpa using h1, h2⟩
theorem VRs.get' : ∀ {vs : List Val} {xs : List V} {i : Nat} {x : V}, VRs K T W vs xs → xs[i]? = some x → ∃ v, vs[i]? = some v ∧ VR K T W v x
  | _, _, _, _, .nil, e => by simp at e
  | _, _, 0, _, .cons r _, e => by simp at e; subst e; exact ⟨_, rfl, r⟩
  | _, _, i + 1, v, .cons _ t, e => by
    obtain ⟨x, h1, h2⟩ := VRs.get' (i := i) (x := v) t (by simpa using e)
    exact ⟨x, by simpa using h1, h2⟩
theorem VRs.append : ∀ {vs ws : List Val} {xs ys : List V}, VRs K T W vs xs → VRs K T W ws ys → VRs K T W (vs ++ ws) (xs ++ ys)
  | _, _, _, _, .nil, s => s
  | _, _, _, _, .cons r t, s => .cons r (VRs.append t s)
theorem VRs.take : ∀ {vs : List Val} {xs : List V} (n : Nat), VRs K T W vs xs → VRs K T W (vs.take n) (xs.take n)
  | _, _, 0, _ => .nil
  | _, _, _ + 1, .nil => .nil
  | _, _, n + 1, .cons r t => .cons r (VRs.take n t)
theorem VRs.drop : ∀ {vs : List Val} {xs : List V} (n : Nat), VRs K T W vs xs → VRs K T W (vs.drop n) (xs.drop n)
  | _, _, 0, r => r
  | _, _, _ + 1, .nil => .nil
  | _, _, n + 1, .cons _ t => VRs.drop n t
theorem VRs.set {v : Val} {x : V} (r : VR K T W v x) : ∀ {vs : List Val} {xs : List V} (i : Nat), VRs K T W vs xs → VRs K T W (vs.set i v) (xs.set i x)
  | _, _, _, .nil => .nil
  | _, _, 0, .cons _ t => .cons r t
  | _, _, i + 1, .cons q t => .cons q (VRs.set r i t)
theorem VRs.reverse : ∀ {vs : List Val} {xs : List V}, VRs K T W vs xs → VRs K T W vs.reverse xs.reverse
  | _, _, .nil => .nil
  | _, _, .cons r t => by
    rw [List.reverse_cons, List.reverse_cons]
    exact (VRs.reverse t).append (.cons r .nil)
theorem VRs.eraseIdx : ∀ {vs : List Val} {xs : List V} (i : Nat), VRs K T W vs xs → VRs K T W (vs.eraseIdx i) (xs.eraseIdx i)
  | _, _, _, .nil => .nil
  | _, _, 0, .cons _ t => t
  | _, _, i + 1, .cons q t => .cons q (VRs.eraseIdx i t)
theorem VRs.ints : ∀ {ns : List Int} {xs : List V}, VRs K T W (ns.map Val.int) xs → xs = ns.map V.int
  | [], _, .nil => rfl
  | n :: ns, _, .cons a r => by cases a; rw [VRs.ints r]; rfl
theorem VRs.ofInts : ∀ (ns : List Int), VRs K T W (ns.map Val.int) (ns.map V.int)
  | [] => .nil
  | _ :: ns => .cons (.int _) (VRs.ofInts ns)

/-- locked by a loop -/
def lkd : Ob → Bool
  | .dk lk _ _ => lk
  | .dt lk _ _ => lk
  | _ => false
/-- how a store's object stands at a -/
def OR (K : PySem.W.Frag) (T : Tbl) (W : Wd) (H : Hp) (a : Addr) : Ob → Prop
  | .lst vs => ∃ xs, H a = some (.lst xs) ∧ VRs K T W vs xs
  | .dk lk ks vs => ∃ xs, ks.length = xs.length ∧ (if lk then ∃ o, W.I a = some (.frz o (.dK (ks.zip xs))) ∧ H a = some (.frz o (.dK (ks.zip xs))) else H a = some (.dK (ks.zip xs))) ∧ VRs K T W vs xs
  | .dt lk ks vs => ∃ xs, ks.length = xs.length ∧ (if lk then ∃ o, W.I a = some (.frz o (.dT (ks.zip xs))) ∧ H a = some (.frz o (.dT (ks.zip xs))) else H a = some (.dT (ks.zip xs))) ∧ VRs K T W vs xs
  | .ins c vs => ∃ C dx xs, T.cl c = some C ∧ xs.length ≤ (T.fl c).length ∧ H a = some (.ins C dx ((T.fl c).zip xs)) ∧ VRs K T W vs xs
theorem OR.some {H : Hp} {a : Addr} : ∀ {o : Ob}, OR K T W H a o → ∃ u, H a = some u
  | .lst _, h => let ⟨_, h, _⟩ := h; ⟨_, h⟩
  | .dk true _ _, h => by obtain ⟨_, _, h, _⟩ := h; rw [if_pos rfl] at h; obtain ⟨o, _, h⟩ := h; exact ⟨_, h⟩
  | .dk false _ _, h => by obtain ⟨_, _, h, _⟩ := h; rw [if_neg Bool.false_ne_true] at h; exact ⟨_, h⟩
  | .dt true _ _, h => by obtain ⟨_, _, h, _⟩ := h; rw [if_pos rfl] at h; obtain ⟨o, _, h⟩ := h; exact ⟨_, h⟩
  | .dt false _ _, h => by obtain ⟨_, _, h, _⟩ := h; rw [if_neg Bool.false_ne_true] at h; exact ⟨_, h⟩
  | .ins _ _, h => let ⟨_, _, _, _, _, h, _⟩ := h; ⟨_, h⟩
theorem OR.mono (l : WLe W W') {H H' : Hp} {a : Addr} (e : H' a = H a) : ∀ {o : Ob}, OR K T W H a o → OR K T W' H' a o
  | .lst _, ⟨xs, h, r⟩ => ⟨xs, e.trans h, r.mono l⟩
  | .dk true _ _, ⟨xs, z, h, r⟩ => ⟨xs, z, by rw [if_pos rfl] at h ⊢; obtain ⟨o, h1, h2⟩ := h; exact ⟨o, l.sub _ _ h1, e.trans h2⟩, r.mono l⟩
  | .dk false _ _, ⟨xs, z, h, r⟩ => ⟨xs, z, by rw [if_neg Bool.false_ne_true] at h ⊢; exact e.trans h, r.mono l⟩
  | .dt true _ _, ⟨xs, z, h, r⟩ => ⟨xs, z, by rw [if_pos rfl] at h ⊢; obtain ⟨o, h1, h2⟩ := h; exact ⟨o, l.sub _ _ h1, e.trans h2⟩, r.mono l⟩
  | .dt false _ _, ⟨xs, z, h, r⟩ => ⟨xs, z, by rw [if_neg Bool.false_ne_true] at h ⊢; exact e.trans h, r.mono l⟩
  | .ins _ _, ⟨C, dx, xs, c, z, h, r⟩ => ⟨C, dx, xs, c, z, e.trans h, r.mono l⟩

structure SR (K : PySem.W.Frag) (T : Tbl) (W : Wd) (S : Sto) (H : Hp) : Prop where
  nx : W.n = S.next
  sub : ∀ a o, W.I a = some o → H a = some o
  lt : ∀ k o, S.objs k = some o → k < S.next
  out : ∀ k o, S.objs k = some o → lkd o = false → W.I (W.m k) = none
  at_ : ∀ k o, S.objs k = some o → OR K T W H (W.m k) o
  inj : ∀ j k a b, S.objs j = some a → S.objs k = some b → W.m j = W.m k → j = k

def Sto.put (S : Sto) (k : Nat) (o : Ob) : Sto := ⟨S.next, fun j => if j = k then some o else S.objs j⟩
def Sto.drop (S : Sto) (k : Nat) : Sto := ⟨S.next, fun j => if j = k then none else S.objs j⟩
def Sto.alloc (S : Sto) (o : Ob) : Sto := ⟨S.next + 1, fun j => if j = S.next then some o else S.objs j⟩
def Wd.add (W : Wd) (p : Addr) (o : HO) : Wd := ⟨upd W.I p o, W.m, W.n⟩
def Wd.box (W : Wd) (p : Addr) : Wd := ⟨W.I, fun j => if j = W.n then p else W.m j, W.n + 1⟩

variable {S : Sto} {H : Hp} {p : Addr} {o : HO}
theorem SR.free (s : SR K T W S H) (hp : H p = none) : W.I p = none := by
  cases e : W.I p with
  | none => rfl
  | some u => rw [s.sub p u e] at hp; cases hp
theorem SR.ne (s : SR K T W S H) (hp : H p = none) {k : Nat} {b : Ob} (h : S.objs k = some b) : W.m k ≠ p := by
  intro e
  obtain ⟨u, hu⟩ := (s.at_ k b h).some
  rw [e, hp] at hu; cases hu
theorem WLe.add (hp : W.I p = none) : WLe W (W.add p o) :=
  ⟨fun a u h => by show upd W.I p o a = some u; rw [upd_ne (ne_of_none h hp)]; exact h, Nat.le_refl _, fun _ _ => rfl⟩
/-- a new object that will never change -/
theorem SR.add (s : SR K T W S H) (hp : H p = none) : SR K T (W.add p o) S (upd H p o) := by
  have l : WLe W (W.add p o) := .add (s.free hp)
  refine ⟨s.nx, fun a u h => ?_, s.lt, fun k b h hu => ?_, fun k b h => ?_, s.inj⟩
  · by_cases e : a = p
    · subst e
      have h' : upd W.I a o a = some u := h
      rw [upd_same] at h'; rw [upd_same]; exact h'
    · have h' : upd W.I p o a = some u := h
      rw [upd_ne e] at h'; rw [upd_ne e]; exact s.sub a u h'
  · show upd W.I p o (W.m k) = none
    rw [upd_ne (s.ne hp h)]; exact s.out k b h hu
  · exact (s.at_ k b h).mono l (upd_ne (s.ne hp h))
/-- a new object beside what is known (nothing is said of it) -/
theorem SR.beside (s : SR K T W S H) (hp : H p = none) : SR K T W S (upd H p o) := by
  refine ⟨s.nx, fun a u h => ?_, s.lt, s.out, fun k b h => (s.at_ k b h).mono (.refl _) (upd_ne (s.ne hp h)), s.inj⟩
  rw [upd_ne (ne_of_none (s.sub a u h) hp)]; exact s.sub a u h
theorem WLe.box : WLe W (W.box p) := ⟨fun _ _ h => h, Nat.le_succ _, fun k h => if_neg (Nat.ne_of_lt h)⟩
theorem Wd.box_at : (W.box p).m W.n = p := if_pos rfl
/-- a new object of the store -/
theorem SR.box {b : Ob} (s : SR K T W S H) (hp : H p = none) (h : OR K T (W.box p) (upd H p o) p b) : SR K T (W.box p) (S.alloc b) (upd H p o) := by
  have lt : ∀ {k : Nat} {b' : Ob}, S.objs k = some b' → k ≠ W.n := fun {k b'} e z => by
    have := s.lt k b' e
    rw [← s.nx] at this
    omega
  have old : ∀ {k : Nat} {b' : Ob}, k ≠ W.n → (S.alloc b).objs k = some b' → S.objs k = some b' := fun {k b'} hk e => by
    have e' : (if k = S.next then some b else S.objs k) = some b' := e
    rw [if_neg (by rw [← s.nx]; exact hk)] at e'
    exact e'
  have new : ∀ {b' : Ob}, (S.alloc b).objs W.n = some b' → b = b' := fun {b'} e => by
    have e' : (if W.n = S.next then some b else S.objs W.n) = some b' := e
    rw [if_pos s.nx] at e'
    exact Option.some.inj e'
  have mo : ∀ {k : Nat}, k ≠ W.n → (W.box p).m k = W.m k := fun {k} hk => if_neg hk
  refine ⟨by show W.n + 1 = S.next + 1; rw [s.nx], fun a u q => ?_, fun k b' e => ?_, fun k b' e hu => ?_, fun k b' e => ?_, fun j k a b' e1 e2 e3 => ?_⟩
  · rw [upd_ne (ne_of_none (s.sub a u q) hp)]; exact s.sub a u q
  · by_cases hk : k = W.n
    · rw [hk, s.nx]; exact Nat.lt_succ_self _
    · exact Nat.lt_succ_of_lt (s.lt k b' (old hk e))
  · by_cases hk : k = W.n
    · rw [hk, Wd.box_at]; exact s.free hp
    · rw [mo hk]; exact s.out k b' (old hk e) hu
  · by_cases hk : k = W.n
    · subst hk
      rw [Wd.box_at, ← new e]; exact h
    · rw [mo hk]
      exact (s.at_ k b' (old hk e)).mono .box (upd_ne (s.ne hp (old hk e)))
  · by_cases hj : j = W.n
    · by_cases hk : k = W.n
      · rw [hj, hk]
      · rw [hj, Wd.box_at, mo hk] at e3
        exact absurd e3.symm (s.ne hp (old hk e2))
    · by_cases hk : k = W.n
      · rw [hk, Wd.box_at, mo hj] at e3
        exact absurd e3 (s.ne hp (old hj e1))
      · rw [mo hj, mo hk] at e3
        exact s.inj j k a b' (old hj e1) (old hk e2) e3
/-- a store's object is changed -/
theorem SR.put {k : Nat} {b b' : Ob} (s : SR K T W S H) (e : S.objs k = some b) (h : OR K T W (upd H (W.m k) o) (W.m k) b') (hu : lkd b = false := by rfl) : SR K T W (S.put k b') (upd H (W.m k) o) := by
  have old : ∀ {j : Nat} {c : Ob}, j ≠ k → (S.put k b').objs j = some c → S.objs j = some c := fun {j c} hj q => by
    have q' : (if j = k then some b' else S.objs j) = some c := q
    rw [if_neg hj] at q'; exact q'
  have ex : ∀ {j : Nat} {c : Ob}, (S.put k b').objs j = some c → ∃ c', S.objs j = some c' := fun {j c} q => by
    by_cases hj : j = k
    · rw [hj]; exact ⟨_, e⟩
    · exact ⟨_, old hj q⟩
  refine ⟨s.nx, fun a u q => ?_, fun j c q => let ⟨c', q'⟩ := ex q; s.lt j c' q', fun j c q hc => if hj : j = k then by rw [hj]; exact s.out k b e hu else s.out j c (old hj q) hc, fun j c q => ?_, fun i j c d q1 q2 q3 => ?_⟩
  · have ne : a ≠ W.m k := fun z => by rw [z, s.out k b e hu] at q; cases q
    rw [upd_ne ne]; exact s.sub a u q
  · by_cases hj : j = k
    · subst hj
      have q' : (if j = j then some b' else S.objs j) = some c := q
      rw [if_pos rfl] at q'
      cases q'
      exact h
    · refine (s.at_ j c (old hj q)).mono (.refl _) (upd_ne fun z => hj (s.inj j k c b (old hj q) e z))
  · obtain ⟨c1, r1⟩ := ex q1
    obtain ⟨c2, r2⟩ := ex q2
    exact s.inj i j c1 c2 r1 r2 q3
/-- a store's object is given up: it never changes from now on -/
theorem SR.frz {k : Nat} {b : Ob} (s : SR K T W S H) (e : S.objs k = some b) (h : H (W.m k) = some o) (hu : lkd b = false := by rfl) : SR K T (W.add (W.m k) o) (S.drop k) H := by
  have old : ∀ {j : Nat} {c : Ob}, (S.drop k).objs j = some c → j ≠ k ∧ S.objs j = some c := fun {j c} q => by
    have q' : (if j = k then none else S.objs j) = some c := q
    by_cases hj : j = k
    · rw [if_pos hj] at q'; cases q'
    · rw [if_neg hj] at q'; exact ⟨hj, q'⟩
  have l : WLe W (W.add (W.m k) o) := .add (s.out k b e hu)
  refine ⟨s.nx, fun a u q => ?_, fun j c q => s.lt j c (old q).2, fun j c q hc => ?_, fun j c q => (s.at_ j c (old q).2).mono l rfl, fun i j c d q1 q2 q3 => s.inj i j c d (old q1).2 (old q2).2 q3⟩
  · have q' : upd W.I (W.m k) o a = some u := q
    by_cases ha : a = W.m k
    · rw [ha, upd_same] at q'; rw [ha, h]; exact q'
    · rw [upd_ne ha] at q'; exact s.sub a u q'
  · show upd W.I (W.m k) o (W.m j) = none
    rw [upd_ne fun z => (old q).1 (s.inj j k c b (old q).2 e z)]
    exact s.out j c (old q).2 hc

/-! ### the frame's names -/
abbrev Ev := List (Option Val)
structure ER (K : PySem.W.Frag) (T : Tbl) (W : Wd) (ρ : Ev) (σ : St) : Prop where
  len : ρ.length = σ.length
  get : ∀ (i : Nat) (v : Val), ρ[i]? = some (some v) → ∃ x : V, σ[i]? = some (some x) ∧ VR K T W v x
theorem ER.mono {ρ : Ev} {σ : St} (l : WLe W W') (e : ER K T W ρ σ) : ER K T W' ρ σ := ⟨e.len, fun i v h => let ⟨x, a, b⟩ := e.get i v h; ⟨x, a, b.mono l⟩⟩
theorem ER.set {ρ : Ev} {σ : St} {i : Nat} {v : Val} {x : V} (e : ER K T W ρ σ) (r : VR K T W v x) : ER K T W (ρ.set i (some v)) (σ.set i (some x)) := by
  refine ⟨by rw [List.length_set, List.length_set]; exact e.len, fun j u h => ?_⟩
  by_cases hj : i = j
  · subst hj
    by_cases hl : i < ρ.length
    · rw [List.getElem?_set_self hl] at h
      cases h
      exact ⟨x, List.getElem?_set_self (by rw [← e.len]; exact hl), r⟩
    · rw [List.getElem?_eq_none (by simpa using hl)] at h; cases h
  · rw [List.getElem?_set_ne hj] at h
    obtain ⟨y, a, b⟩ := e.get j u h
    exact ⟨y, by rw [List.getElem?_set_ne hj]; exact a, b⟩
/-- forgetting a name -/
theorem ER.forget {ρ : Ev} {σ : St} {i : Nat} {x : Option V} (e : ER K T W ρ σ) : ER K T W (ρ.set i none) (σ.set i x) := by
  refine ⟨by rw [List.length_set, List.length_set]; exact e.len, fun j u h => ?_⟩
  by_cases hj : i = j
  · subst hj
    by_cases hl : i < ρ.length
    · rw [List.getElem?_set_self hl] at h; cases h
    · rw [List.getElem?_eq_none (by simpa using hl)] at h; cases h
  · rw [List.getElem?_set_ne hj] at h
    obtain ⟨y, a, b⟩ := e.get j u h
    exact ⟨y, by rw [List.getElem?_set_ne hj]; exact a, b⟩
def wipeE (ρ : Ev) : List Nat → Ev
  | [] => ρ
  | v :: vs => (wipeE ρ vs).set v none
theorem ER.wipe {ρ : Ev} {σ : St} (e : ER K T W ρ σ) : ∀ vs, ER K T W (wipeE ρ vs) (L2.wipe σ vs)
  | [] => e
  | _ :: vs => (ER.wipe e vs).forget
theorem ER.start : ∀ {N : List Str} {vs : List Val} {xs : List V}, VRs K T W vs xs → ER K T W (vs.map Option.some ++ List.replicate (N.length - vs.length) none) (L2.start N xs) := fun {N vs xs} r => by
  unfold L2.start
  refine ⟨by simp [r.length], fun i v h => ?_⟩
  by_cases hi : i < vs.length
  · rw [List.getElem?_append_left (by simpa using hi), List.getElem?_map] at h
    cases q : vs[i]? with
    | none => rw [q] at h; cases h
    | some u =>
      rw [q] at h
      cases h
      obtain ⟨x, a, b⟩ := r.get q
      refine ⟨x, ?_, b⟩
      rw [List.getElem?_append_left (by simpa [← r.length] using hi), List.getElem?_map, a]
      rfl
  · rw [List.getElem?_append_right (by simpa using hi), List.getElem?_replicate] at h
    split at h <;> cases h
end
end PM

/-! PM, part b: readings by data, the core -/
namespace PM
open PySem PySem.Spec L2

inductive Res (α : Type) where
  | ok (a : α) (S : Sto) | ex (c : Nat) (vs : List Val) (S : Sto) | st
def Res.bind {α β : Type} (r : Res α) (g : α → Sto → Res β) : Res β := match r with
  | .ok a S => g a S
  | .ex c vs S => .ex c vs S
  | .st => .st
def noEx {α : Type} : Res α → Res α
  | .ok a S => .ok a S
  | _ => .st
inductive SRes where
  | nx (ρ : Ev) (S : Sto) | rt (v : Val) (S : Sto) | bk (ρ : Ev) (S : Sto) | ct (ρ : Ev) (S : Sto)
  | ex (c : Nat) (vs : List Val) (ρ : Ev) (S : Sto) | st
abbrev EM := Ev → Sto → Res Val
abbrev BM := Ev → Sto → Res Bool
abbrev AM := Ev → Sto → Res (List Val)
abbrev SM := Ev → Sto → SRes
abbrev FM := List Val → Sto → Res Val

section
variable {K : PySem.W.Frag} {T : Tbl}
/-- an exception's class and own dict -/
def XR (K : PySem.W.Frag) (T : Tbl) (W : Wd) (c : Nat) (vs : List Val) (cls : Value) (od : Option Addr) : Prop :=
  ∃ C, T.cl c = some C ∧ cls = .ref C ∧ ((T.fl c = [] ∧ vs = [] ∧ od = none) ∨ (T.fl c ≠ [] ∧ ∃ a xs, od = some a ∧ xs.length ≤ (T.fl c).length ∧ W.I a = some (.xd ((T.fl c).zip xs)) ∧ VRs K T W vs xs))
def RP (K : PySem.W.Frag) (T : Tbl) {α : Type} (W : Wd) (r : Res α) (P : Wd → Sto → Hp → α → Prop) (PX : Hp → Value → Option Addr → Prop) : Prop := match r with
  | .ok a S' => ∀ W' H', WLe W W' → SR K T W' S' H' → P W' S' H' a
  | .ex c vs S' => ∀ W' H' cls od, WLe W W' → SR K T W' S' H' → XR K T W' c vs cls od → PX H' cls od
  | .st => False
variable {α β : Type} {W : Wd} {P P' : Wd → Sto → Hp → α → Prop} {PX PX' : Hp → Value → Option Addr → Prop}
theorem RP.wle {W' : Wd} {r : Res α} (l : WLe W W') (h : RP K T W r P PX) : RP K T W' r P PX := by
  cases r with
  | ok a S => exact fun W2 H2 l2 s => h W2 H2 (l.trans l2) s
  | ex c vs S => exact fun W2 H2 cls od l2 s => h W2 H2 cls od (l.trans l2) s
  | st => exact h
theorem RP.imp {r : Res α} (h : RP K T W r P PX) (i : ∀ W' S' H' a, WLe W W' → SR K T W' S' H' → P W' S' H' a → P' W' S' H' a) (j : ∀ H' c o, PX H' c o → PX' H' c o) : RP K T W r P' PX' := by
  cases r with
  | ok a S => exact fun W2 H2 l s => i W2 S H2 a l s (h W2 H2 l s)
  | ex c vs S => exact fun W2 H2 cls od l s x => j _ _ _ (h W2 H2 cls od l s x)
  | st => exact h
theorem RP.bind {r : Res α} {g : α → Sto → Res β} {P : Wd → Sto → Hp → β → Prop} {P' : Wd → Sto → Hp → α → Prop} (h : RP K T W (r.bind g) P PX)
    (i : ∀ W' S' H' a, WLe W W' → SR K T W' S' H' → RP K T W' (g a S') P PX → P' W' S' H' a) : RP K T W r P' PX := by
  cases r with
  | ok a S => exact fun W2 H2 l s => i W2 S H2 a l s (RP.wle l h)
  | ex c vs S => exact h
  | st => exact h
theorem RP.noEx {r : Res α} (h : RP K T W (PM.noEx r) P PX) : RP K T W r P PX' := by
  cases r with
  | ok a S => exact h
  | ex c vs S => exact False.elim h
  | st => exact h
theorem RP.now {a : α} {S : Sto} {H : Hp} (h : RP K T W (.ok a S) P PX) (s : SR K T W S H) : P W S H a := h W H (.refl W) s
end

abbrev VP (K : PySem.W.Frag) (T : Tbl) (Q : VK) : Wd → Sto → Hp → Val → Prop := fun W' _ H' v => ∀ x, VR K T W' v x → Q x H'
/-- the wish of an exception, by the slots -/
abbrev XW := Value → Option Addr → L2.St → Hp → Prop
def XW0 : XW := fun _ _ _ _ => False
def rdE (K : PySem.W.Frag) (T : Tbl) (Ew : XW) (f : EM) : TE := fun σ H Q => ∃ W ρ S, SR K T W S H ∧ ER K T W ρ σ ∧ RP K T W (f ρ S) (VP K T Q) (fun H' c o => Ew c o σ H')
def rdT (K : PySem.W.Frag) (T : Tbl) (Ew : XW) (f : BM) : TT := fun σ H Q => ∃ W ρ S, SR K T W S H ∧ ER K T W ρ σ ∧ RP K T W (f ρ S) (fun _ _ H' b => Q b H') (fun H' c o => Ew c o σ H')
def rdA (K : PySem.W.Frag) (T : Tbl) (Ew : XW) (f : AM) : TA := fun σ H Q => ∃ W ρ S, SR K T W S H ∧ ER K T W ρ σ ∧ RP K T W (f ρ S) (fun W' _ H' vs => ∀ xs, VRs K T W' vs xs → Q xs H') (fun H' c o => Ew c o σ H')
/-- behind a statement -/
def SPo (K : PySem.W.Frag) (T : Tbl) (Ew : XW) (W : Wd) (D : Ends) : SRes → Prop
  | .nx ρ' S' => ∀ W' H' σ', WLe W W' → SR K T W' S' H' → ER K T W' ρ' σ' → D.nx σ' H'
  | .rt v S' => ∀ W' H' x, WLe W W' → SR K T W' S' H' → VR K T W' v x → D.rt x H'
  | .bk ρ' S' => ∀ W' H' σ', WLe W W' → SR K T W' S' H' → ER K T W' ρ' σ' → D.bk σ' H'
  | .ct ρ' S' => ∀ W' H' σ', WLe W W' → SR K T W' S' H' → ER K T W' ρ' σ' → D.ct σ' H'
  | .ex c vs ρ' S' => ∀ W' H' σ' cls od, WLe W W' → SR K T W' S' H' → ER K T W' ρ' σ' → XR K T W' c vs cls od → Ew cls od σ' H'
  | .st => False
def rdS (K : PySem.W.Frag) (T : Tbl) (Ew : XW) (s : SM) : TS := fun D σ H => ∃ W ρ S, SR K T W S H ∧ ER K T W ρ σ ∧ SPo K T Ew W D (s ρ S)
theorem SPo.wle {K : PySem.W.Frag} {T : Tbl} {Ew : XW} {W W' : Wd} {D : Ends} {r : SRes} (l : WLe W W') (h : SPo K T Ew W D r) : SPo K T Ew W' D r := by
  cases r with
  | nx ρ S => exact fun W2 H2 σ l2 => h W2 H2 σ (l.trans l2)
  | rt ρ S => exact fun W2 H2 σ l2 => h W2 H2 σ (l.trans l2)
  | bk ρ S => exact fun W2 H2 σ l2 => h W2 H2 σ (l.trans l2)
  | ct ρ S => exact fun W2 H2 σ l2 => h W2 H2 σ (l.trans l2)
  | ex c vs ρ S => exact fun W2 H2 σ cls od l2 => h W2 H2 σ cls od (l.trans l2)
  | st => exact h

/-! ### the judgements over data -/
abbrev PEm (T : Tbl) (X : Cx) (Ew : XW) (e : Expr) (f : EM) : Prop := PE X e (rdE X.K T Ew f)
abbrev PTm (T : Tbl) (X : Cx) (Ew : XW) (e : Expr) (f : BM) : Prop := PT X e (rdT X.K T Ew f)
abbrev PWm (T : Tbl) (X : Cx) (Ew : XW) (e : Expr) (f : BM) : Prop := PW X e (rdT X.K T Ew f)
abbrev PAm (T : Tbl) (X : Cx) (Ew : XW) (es : List Expr) (f : AM) : Prop := PA X es (rdA X.K T Ew f)
abbrev PSm (T : Tbl) (X : Cx) (Ew : XW) (st : Stmt) (f : SM) : Prop := PS X st (rdS X.K T Ew f)
abbrev PBm (T : Tbl) (X : Cx) (Ew : XW) (st : List Stmt) (f : SM) : Prop := PSs X st (rdS X.K T Ew f)
section
variable {X : Cx}
theorem PE.to {e : Expr} {t t' : TE} (h : PE X e t) (i : ∀ σ H Q, t' σ H Q → t σ H Q) : PE X e t' := ⟨fun pins s σ H Q I q => h.run pins s σ H Q I (i _ _ _ q)⟩
theorem PT.to {e : Expr} {t t' : TT} (h : PT X e t) (i : ∀ σ H Q, t' σ H Q → t σ H Q) : PT X e t' := ⟨fun pins s σ H Q I q => h.run pins s σ H Q I (i _ _ _ q)⟩
theorem PW.to {e : Expr} {t t' : TT} (h : PW X e t) (i : ∀ σ H Q, t' σ H Q → t σ H Q) : PW X e t' := ⟨fun wh pins s σ H Q I q => h.run wh pins s σ H Q I (i _ _ _ q)⟩
theorem PA.to {e : List Expr} {t t' : TA} (h : PA X e t) (i : ∀ σ H Q, t' σ H Q → t σ H Q) : PA X e t' := ⟨fun p pins s σ H Q I q => h.run p pins s σ H Q I (i _ _ _ q)⟩
theorem PS.to {e : Stmt} {t t' : TS} (h : PS X e t) (i : ∀ D σ H, t' D σ H → t D σ H) : PS X e t' := ⟨fun pins s σ H D I q => h.run pins s σ H D I (i _ _ _ q)⟩
theorem PSs.to {e : List Stmt} {t t' : TS} (h : PSs X e t) (i : ∀ D σ H, t' D σ H → t D σ H) : PSs X e t' := ⟨fun pins s σ H D I q => h.run pins s σ H D I (i _ _ _ q)⟩
end

/-! ### combinators: expressions -/
def eVar (i : Nat) : EM := fun ρ S => match ρ[i]? with
  | some (some v) => .ok v S
  | _ => .st
def eC (v : Val) : EM := fun _ S => .ok v S
def eBin (op : Val → Val → Sto → Res Val) (a b : EM) : EM := fun ρ S => (a ρ S).bind fun v S1 => (b ρ S1).bind fun w S2 => op v w S2
def eUn (op : Val → Sto → Res Val) (a : EM) : EM := fun ρ S => (a ρ S).bind fun v S1 => op v S1
def aNil : AM := fun _ S => .ok [] S
def aCons (a : EM) (r : AM) : AM := fun ρ S => (a ρ S).bind fun v S1 => (r ρ S1).bind fun vs S2 => .ok (v :: vs) S2
def eBI (op : List Val → Sto → Res Val) (a : AM) : EM := fun ρ S => (a ρ S).bind fun vs S1 => op vs S1
def eCall (F : FM) (a : AM) : EM := fun ρ S => (a ρ S).bind fun vs S1 => noEx (F vs S1)
def eTup (a : AM) : EM := fun ρ S => (a ρ S).bind fun vs S1 => if vs.length ≤ sizeLine then .ok (.tup vs) S1 else .st
/-- a new list: a value, or (bx) an object of the store -/
def mkL (bx : Bool) (vs : List Val) (S : Sto) : Res Val := if bx then .ok (.loc S.next) (S.alloc (.lst vs)) else .ok (.lst vs) S
def eLst (bx : Bool) (a : AM) : EM := fun ρ S => (a ρ S).bind fun vs S1 => if vs.length ≤ sizeLine then mkL bx vs S1 else .st
def eIf (t : BM) (a b : EM) : EM := fun ρ S => (t ρ S).bind fun c S1 => if c then a ρ S1 else b ρ S1
/-- values that are True or False -/
def eAnd (a b : EM) : EM := fun ρ S => (a ρ S).bind fun v S1 => match v with
  | .bl true => b ρ S1
  | .bl false => .ok (.bl false) S1
  | _ => .st
def eOr (a b : EM) : EM := fun ρ S => (a ρ S).bind fun v S1 => match v with
  | .bl true => .ok (.bl true) S1
  | .bl false => b ρ S1
  | _ => .st
def eNot (a : EM) : EM := fun ρ S => (a ρ S).bind fun v S1 => match v with
  | .bl c => .ok (.bl (!c)) S1
  | _ => .st
/-- a test by a value that is True or False -/
def tB (a : EM) : BM := fun ρ S => (a ρ S).bind fun v S1 => match v with
  | .bl c => .ok c S1
  | _ => .st
def tAndM (a b : BM) : BM := fun ρ S => (a ρ S).bind fun c S1 => if c then b ρ S1 else .ok false S1
def tOrM (a b : BM) : BM := fun ρ S => (a ρ S).bind fun c S1 => if c then .ok true S1 else b ρ S1
def tNotM (a : BM) : BM := fun ρ S => (a ρ S).bind fun c S1 => .ok (!c) S1

section
variable {T : Tbl} {X : Cx} {Ew : XW} {e a b c : Expr} {es : List Expr} {f fa fb fc : EM} {fs : AM} {pos : Pos}
theorem m_var (i : Nat) {x : Str} (hN : X.N[i]? = some x := by rfl) (hv : Vis X.env.scope x := by first | exact Or.inl rfl | exact Or.inr (Or.inl rfl) | exact Or.inr (Or.inr rfl)) (hd : (x == ("__debug__" : Str)) = false := by decide)
    (hcd : (x == ("__classdict__" : Str)) = false := by decide) : PEm T X Ew (.Name x pos) (eVar i) := by
  refine PE.to (pe_var hN hv hd hcd) fun σ H Q h => ?_
  obtain ⟨W, ρ, S, s, r, h⟩ := h
  unfold eVar at h
  cases e : ρ[i]? with
  | none => rw [e] at h; exact False.elim h
  | some o =>
    cases o with
    | none => rw [e] at h; exact False.elim h
    | some v =>
      rw [e] at h
      obtain ⟨x, hx, vx⟩ := r.get i v e
      exact ⟨x, hx, h.now s x vx⟩
theorem m_int {i : Int} {j} : PEm T X Ew (.Constant (.int i) j pos) (eC (.int i)) := PE.to pe_int fun σ H Q ⟨W, ρ, S, s, r, h⟩ => h.now s _ (.int i)
theorem m_bl {i : Bool} {j} : PEm T X Ew (.Constant (.bool i) j pos) (eC (.bl i)) := PE.to pe_bl fun σ H Q ⟨W, ρ, S, s, r, h⟩ => h.now s _ (.bl i)
theorem m_non {j} : PEm T X Ew (.Constant .none j pos) (eC .non) := PE.to pe_non fun σ H Q ⟨W, ρ, S, s, r, h⟩ => h.now s _ .non
theorem m_str {i : Str} {j} : PEm T X Ew (.Constant (.str i) j pos) (eC (.str i)) := PE.to pe_str fun σ H Q ⟨W, ρ, S, s, r, h⟩ => h.now s _ (.str i)
/-- a constant of the module -/
theorem m_glob {x : Str} {v : Val} {z : V} {u : Value} (hg : Gl X x) (hm : X.mg x = some u) (r : RelV z u) (hv : ∀ W, VR X.K T W v z) (hd : (x == ("__debug__" : Str)) = false := by decide) : PEm T X Ew (.Name x pos) (eC v) :=
  PE.to (pe_glob hg hm r hd) fun σ H Q ⟨W, ρ, S, s, r, h⟩ => h.now s _ (hv W)
/-- a built-in's name as a value -/
theorem m_bltn {x : Str} {v : Val} {z : V} {u : Value} (hg : Gl X x) (hm : X.mg x = none) (hb : bootBuiltins x = some u) (r : RelV z u) (hv : ∀ W, VR X.K T W v z) (hn : x ≠ "__name__" := by decide) (hd : (x == ("__debug__" : Str)) = false := by decide) :
    PEm T X Ew (.Name x pos) (eC v) := PE.to (pe_bltn hg hm hb r hn hd) fun σ H Q ⟨W, ρ, S, s, r, h⟩ => h.now s _ (hv W)

def Op2 (K : PySem.W.Frag) (T : Tbl) (r : R2) (op : Val → Val → Sto → Res Val) : Prop := ∀ W S H v w x y (Q : VK) (PX : Hp → Value → Option Addr → Prop), SR K T W S H → VR K T W v x → VR K T W w y →
  RP K T W (op v w S) (VP K T Q) PX → r x y H Q
def Op1 (K : PySem.W.Frag) (T : Tbl) (r : V → Hp → VK → Prop) (op : Val → Sto → Res Val) : Prop := ∀ W S H v x (Q : VK) (PX : Hp → Value → Option Addr → Prop), SR K T W S H → VR K T W v x →
  RP K T W (op v S) (VP K T Q) PX → r x H Q
def OpL (K : PySem.W.Frag) (T : Tbl) (r : List V → Hp → VK → Prop) (op : List Val → Sto → Res Val) : Prop := ∀ W S H vs xs (Q : VK) (PX : Hp → Value → Option Addr → Prop), SR K T W S H → VRs K T W vs xs →
  RP K T W (op vs S) (VP K T Q) PX → r xs H Q
theorem rd_bin {r : R2} {op : Val → Val → Sto → Res Val} (ok : Op2 X.K T r op) {σ : L2.St} {H : Hp} {Q : VK} (h : rdE X.K T Ew (eBin op fa fb) σ H Q) : tOp r (rdE X.K T Ew fa) (rdE X.K T Ew fb) σ H Q := by
  obtain ⟨W, ρ, S, s, er, h⟩ := h
  refine ⟨W, ρ, S, s, er, RP.bind h fun W1 S1 H1 v l1 s1 h1 x vx => ⟨W1, ρ, S1, s1, er.mono l1, RP.bind h1 fun W2 S2 H2 w l2 s2 h2 y vy => ?_⟩⟩
  exact ok W2 S2 H2 v w x y Q _ s2 (vx.mono l2) vy h2
theorem m_op {op : Operator} {r : R2} {o : Val → Val → Sto → Res Val} (ho : OpR X (binaryOp op) r) (ok : Op2 X.K T r o) (ha : PEm T X Ew a fa) (hb : PEm T X Ew b fb) : PEm T X Ew (.BinOp a op b pos) (eBin o fa fb) :=
  PE.to (pe_op ho ha hb) fun _ _ _ h => rd_bin ok h
theorem m_cmp {op : CmpOp} {r : R2} {o : Val → Val → Sto → Res Val} (ho : OpR X (compareOp op) r) (ok : Op2 X.K T r o) (ha : PEm T X Ew a fa) (hb : PEm T X Ew b fb) (hm : behindInMarks op b = false) : PEm T X Ew (.Compare a [op] [b] pos) (eBin o fa fb) :=
  PE.to (pe_cmpR ho ha hb hm) fun _ _ _ h => rd_bin ok h
theorem mt_cmp {op : CmpOp} {r : R2} {o : Val → Val → Sto → Res Val} (ho : OpR X (compareOp op) r) (ok : Op2 X.K T r o) (ha : PEm T X Ew a fa) (hb : PEm T X Ew b fb) (hm : behindInMarks op b = false) : PTm T X Ew (.Compare a [op] [b] pos) (tB (eBin o fa fb)) := by
  refine PT.to (pt_cmpR ho ha hb hm) fun σ H Q h => ?_
  refine rd_bin (Ew := Ew) (fa := fa) (fb := fb) ok ?_
  obtain ⟨W, ρ, S, s, er, h⟩ := h
  refine ⟨W, ρ, S, s, er, RP.bind h fun W1 S1 H1 v l1 s1 h1 x vx => ?_⟩
  cases vx with
  | bl k => exact ⟨k, rfl, h1.now s1⟩
  | _ => exact False.elim h1
theorem m_un {op : UnaryOp} {r : V → Hp → VK → Prop} {o : Val → Sto → Res Val} (ho : UnR X (unaryOp op) r) (ok : Op1 X.K T r o) (ha : PEm T X Ew a fa) : PEm T X Ew (.UnaryOp op a pos) (eUn o fa) := by
  refine PE.to (pe_un ho ha) fun σ H Q h => ?_
  obtain ⟨W, ρ, S, s, er, h⟩ := h
  exact ⟨W, ρ, S, s, er, RP.bind h fun W1 S1 H1 v l1 s1 h1 x vx => ok W1 S1 H1 v x Q _ s1 vx h1⟩
/-- a op b op' c -/
def eChain (o o' : Val → Val → Sto → Res Val) (a b c : EM) : EM := fun ρ S => (a ρ S).bind fun v S1 => (b ρ S1).bind fun w S2 => (o v w S2).bind fun k S3 => match k with
  | .bl true => (c ρ S3).bind fun z S4 => o' w z S4
  | .bl false => .ok (.bl false) S3
  | _ => .st
theorem m_chain {op op' : CmpOp} {r r' : R2} {o o' : Val → Val → Sto → Res Val} (ho : OpR X (compareOp op) r) (ho' : OpR X (compareOp op') r') (ok : Op2 X.K T r o) (ok' : Op2 X.K T r' o') (ha : PEm T X Ew a fa) (hb : PEm T X Ew b fb) (hc : PEm T X Ew c fc)
    (hm : lastMarks [op, op'] [b, c] = false := by with_unfolding_all rfl) : PEm T X Ew (.Compare a [op, op'] [b, c] pos) (eChain o o' fa fb fc) := by
  refine PE.to (pe_chain ho ho' ha hb hc hm) fun σ H Q h => ?_
  obtain ⟨W, ρ, S, s, er, h⟩ := h
  refine ⟨W, ρ, S, s, er, RP.bind h fun W1 S1 H1 v l1 s1 h1 x vx => ⟨W1, ρ, S1, s1, er.mono l1, RP.bind h1 fun W2 S2 H2 w l2 s2 h2 y vy => ?_⟩⟩
  refine ok W2 S2 H2 v w x y _ _ s2 (vx.mono l2) vy (RP.bind h2 fun W3 S3 H3 k l3 s3 h3 z vz => ?_)
  cases vz with
  | bl k =>
    refine ⟨k, rfl, ?_⟩
    cases k with
    | true =>
      rw [if_pos rfl]
      exact ⟨W3, ρ, S3, s3, (er.mono l1).mono (l2.trans l3), RP.bind h3 fun W4 S4 H4 z l4 s4 h4 z' vz' => ok' W4 S4 H4 w z y z' Q _ s4 (vy.mono (l3.trans l4)) vz' h4⟩
    | false =>
      rw [if_neg Bool.false_ne_true]
      exact h3.now s3 _ (.bl false)
  | _ => exact False.elim h3
theorem mt_of_chain {op op' : CmpOp} {r r' : R2} {o o' : Val → Val → Sto → Res Val} (ho : OpR X (compareOp op) r) (ho' : OpR X (compareOp op') r') (ok : Op2 X.K T r o) (ok' : Op2 X.K T r' o') (ha : PEm T X Ew a fa) (hb : PEm T X Ew b fb) (hc : PEm T X Ew c fc)
    (hm : lastMarks [op, op'] [b, c] = false := by with_unfolding_all rfl) : PTm T X Ew (.Compare a [op, op'] [b, c] pos) (tB (eChain o o' fa fb fc)) := by
  refine PT.to (pt_chain ho ho' ha hb hc hm) fun σ H Q h => ?_
  obtain ⟨W, ρ, S, s, er, h⟩ := h
  have h' : RP X.K T W (eChain o o' fa fb fc ρ S) (VP X.K T fun x H' => ∃ k, x = .bl k ∧ Q k H') (fun H' c o => Ew c o σ H') := RP.bind h fun W1 S1 H1 v l1 s1 h1 x vx => by
    cases vx with
    | bl k => exact ⟨k, rfl, h1.now s1⟩
    | _ => exact False.elim h1
  refine ⟨W, ρ, S, s, er, RP.bind h' fun W1 S1 H1 v l1 s1 h1 x vx => ⟨W1, ρ, S1, s1, er.mono l1, RP.bind h1 fun W2 S2 H2 w l2 s2 h2 y vy => ?_⟩⟩
  refine ok W2 S2 H2 v w x y _ _ s2 (vx.mono l2) vy (RP.bind h2 fun W3 S3 H3 k l3 s3 h3 z vz => ?_)
  cases vz with
  | bl k =>
    refine ⟨k, rfl, ?_⟩
    cases k with
    | true =>
      rw [if_pos rfl]
      exact ⟨W3, ρ, S3, s3, (er.mono l1).mono (l2.trans l3), RP.bind h3 fun W4 S4 H4 z l4 s4 h4 z' vz' => ok' W4 S4 H4 w z y z' _ _ s4 (vy.mono (l3.trans l4)) vz' h4⟩
    | false =>
      rw [if_neg Bool.false_ne_true]
      exact h3.now s3 _ (.bl false)
  | _ => exact False.elim h3

theorem ma_nil : PAm T X Ew [] aNil := PA.to pa_nil fun σ H Q ⟨W, ρ, S, s, er, h⟩ => h.now s _ .nil
theorem ma_cons (ha : PEm T X Ew e f) (hr : PAm T X Ew es fs) (hs : starEach (e :: es) X.env = (false, eval e X.env) :: starEach es X.env := by rfl) : PAm T X Ew (e :: es) (aCons f fs) := by
  refine PA.to (pa_cons ha hr hs) fun σ H Q h => ?_
  obtain ⟨W, ρ, S, s, er, h⟩ := h
  refine ⟨W, ρ, S, s, er, RP.bind h fun W1 S1 H1 v l1 s1 h1 x vx => ⟨W1, ρ, S1, s1, er.mono l1, RP.bind h1 fun W2 S2 H2 vs l2 s2 h2 xs vxs => ?_⟩⟩
  exact h2.now s2 _ (.cons (vx.mono l2) vxs)
theorem m_tup (h : PAm T X Ew es fs) {x1} : PEm T X Ew (.Tuple es x1 pos) (eTup fs) := by
  refine PE.to (pe_tup h) fun σ H Q h => ?_
  obtain ⟨W, ρ, S, s, er, h⟩ := h
  refine ⟨W, ρ, S, s, er, RP.bind h fun W1 S1 H1 vs l1 s1 h1 xs vxs => ?_⟩
  by_cases hz : vs.length ≤ sizeLine
  · rw [if_pos hz] at h1
    refine ⟨by rw [← vxs.length]; exact hz, fun p hp => ?_⟩
    have l : WLe W1 (W1.add p (.tup xs)) := .add (s1.free hp)
    exact h1 _ _ l (s1.add hp) _ (.tup (.inl upd_same) (vxs.mono l))
  · rw [if_neg hz] at h1; exact False.elim h1
theorem mkL_ok {K : PySem.W.Frag} {T : Tbl} {W : Wd} {S : Sto} {H : Hp} {vs : List Val} {xs : List V} {p : Addr} {bx : Bool} {Q : VK} {PX : Hp → Value → Option Addr → Prop} (s : SR K T W S H) (r : VRs K T W vs xs) (hp : H p = none)
    (h : RP K T W (mkL bx vs S) (VP K T Q) PX) : Q (.ref p) (upd H p (.lst xs)) := by
  cases bx with
  | false =>
    have l : WLe W (W.add p (.lst xs)) := .add (s.free hp)
    exact h _ _ l (s.add hp) _ (.lst upd_same (r.mono l))
  | true =>
    have q := h _ _ .box (s.box (b := .lst vs) hp ⟨xs, upd_same, r.mono .box⟩) (.ref p)
    refine q ?_
    have z : VR K T (W.box p) (.loc W.n) (.ref ((W.box p).m W.n)) := .loc (Nat.lt_succ_self _)
    rw [Wd.box_at] at z
    rw [← s.nx]; exact z
theorem m_lst {bx : Bool} (h : PAm T X Ew es fs) : PEm T X Ew (.List es pos) (eLst bx fs) := by
  refine PE.to (pe_lst h) fun σ H Q h => ?_
  obtain ⟨W, ρ, S, s, er, h⟩ := h
  refine ⟨W, ρ, S, s, er, RP.bind h fun W1 S1 H1 vs l1 s1 h1 xs vxs => ?_⟩
  by_cases hz : vs.length ≤ sizeLine
  · rw [if_pos hz] at h1
    exact ⟨by rw [← vxs.length]; exact hz, fun p hp => mkL_ok s1 vxs hp h1⟩
  · rw [if_neg hz] at h1; exact False.elim h1
theorem m_if {t : BM} (ht : PTm T X Ew c t) (ha : PEm T X Ew a fa) (hb : PEm T X Ew b fb) : PEm T X Ew (.IfExp c a b pos) (eIf t fa fb) := by
  refine PE.to (pe_ifExp ht ha hb) fun σ H Q h => ?_
  obtain ⟨W, ρ, S, s, er, h⟩ := h
  refine ⟨W, ρ, S, s, er, RP.bind h fun W1 S1 H1 k l1 s1 h1 => ?_⟩
  cases k with
  | true => rw [if_pos rfl]; exact ⟨W1, ρ, S1, s1, er.mono l1, h1⟩
  | false => rw [if_neg Bool.false_ne_true]; exact ⟨W1, ρ, S1, s1, er.mono l1, h1⟩
theorem m_one {op : BoolOp} (h : PEm T X Ew a f) : PEm T X Ew (.BoolOp op [a] pos) f := pe_one h
theorem m_and {rest : List Expr} (ha : PEm T X Ew a fa) (hb : PEm T X Ew (.BoolOp .And (b :: rest) pos) fb) : PEm T X Ew (.BoolOp .And (a :: b :: rest) pos) (eAnd fa fb) := by
  refine PE.to (pe_and ha hb) fun σ H Q h => ?_
  obtain ⟨W, ρ, S, s, er, h⟩ := h
  refine ⟨W, ρ, S, s, er, RP.bind h fun W1 S1 H1 v l1 s1 h1 x vx => ?_⟩
  cases vx with
  | bl k =>
    refine ⟨k, rfl, ?_⟩
    cases k with
    | true => rw [if_pos rfl]; exact ⟨W1, ρ, S1, s1, er.mono l1, h1⟩
    | false => rw [if_neg Bool.false_ne_true]; exact h1.now s1 _ (.bl false)
  | _ => exact False.elim h1
theorem m_or {rest : List Expr} (ha : PEm T X Ew a fa) (hb : PEm T X Ew (.BoolOp .Or (b :: rest) pos) fb) : PEm T X Ew (.BoolOp .Or (a :: b :: rest) pos) (eOr fa fb) := by
  refine PE.to (pe_or ha hb) fun σ H Q h => ?_
  obtain ⟨W, ρ, S, s, er, h⟩ := h
  refine ⟨W, ρ, S, s, er, RP.bind h fun W1 S1 H1 v l1 s1 h1 x vx => ?_⟩
  cases vx with
  | bl k =>
    refine ⟨k, rfl, ?_⟩
    cases k with
    | true => rw [if_pos rfl]; exact h1.now s1 _ (.bl true)
    | false => rw [if_neg Bool.false_ne_true]; exact ⟨W1, ρ, S1, s1, er.mono l1, h1⟩
  | _ => exact False.elim h1
theorem m_not (ha : PEm T X Ew a fa) : PEm T X Ew (.UnaryOp .Not a pos) (eNot fa) := by
  refine PE.to (pe_not ha) fun σ H Q h => ?_
  obtain ⟨W, ρ, S, s, er, h⟩ := h
  refine ⟨W, ρ, S, s, er, RP.bind h fun W1 S1 H1 v l1 s1 h1 x vx => ?_⟩
  cases vx with
  | bl k => exact ⟨k, rfl, h1.now s1 _ (.bl _)⟩
  | _ => exact False.elim h1
/-! tests -/
variable {ta tb : BM}
theorem mt_val (h : PEm T X Ew e f) (he : ∀ whole, isTrue e X.env whole = (do let v ← whole; standAt e.pos; holding [v] (truthy v)) := by intro _; rfl) : PTm T X Ew e (tB f) := by
  refine PT.to (pt_val h he) fun σ H Q h => ?_
  obtain ⟨W, ρ, S, s, er, h⟩ := h
  refine ⟨W, ρ, S, s, er, RP.bind h fun W1 S1 H1 v l1 s1 h1 x vx => ?_⟩
  cases vx with
  | bl k => exact ⟨k, rfl, h1.now s1⟩
  | _ => exact False.elim h1
theorem mw_and1 (h : PTm T X Ew a ta) : PWm T X Ew (.BoolOp .And [a] pos) ta := pw_and1 h
theorem mw_or1 (h : PTm T X Ew a ta) : PWm T X Ew (.BoolOp .Or [a] pos) ta := pw_or1 h
theorem mw_and {rest : List Expr} (ha : PTm T X Ew a ta) (hb : PWm T X Ew (.BoolOp .And (b :: rest) pos) tb) : PWm T X Ew (.BoolOp .And (a :: b :: rest) pos) (tAndM ta tb) := by
  refine PW.to (pw_and ha hb) fun σ H Q h => ?_
  obtain ⟨W, ρ, S, s, er, h⟩ := h
  refine ⟨W, ρ, S, s, er, RP.bind h fun W1 S1 H1 k l1 s1 h1 => ?_⟩
  cases k with
  | true => rw [if_pos rfl]; exact ⟨W1, ρ, S1, s1, er.mono l1, h1⟩
  | false => rw [if_neg Bool.false_ne_true]; exact h1.now s1
theorem mw_or {rest : List Expr} (ha : PTm T X Ew a ta) (hb : PWm T X Ew (.BoolOp .Or (b :: rest) pos) tb) : PWm T X Ew (.BoolOp .Or (a :: b :: rest) pos) (tOrM ta tb) := by
  refine PW.to (pw_or ha hb) fun σ H Q h => ?_
  obtain ⟨W, ρ, S, s, er, h⟩ := h
  refine ⟨W, ρ, S, s, er, RP.bind h fun W1 S1 H1 k l1 s1 h1 => ?_⟩
  cases k with
  | true => rw [if_pos rfl]; exact h1.now s1
  | false => rw [if_neg Bool.false_ne_true]; exact ⟨W1, ρ, S1, s1, er.mono l1, h1⟩
theorem mt_not (h : PTm T X Ew a ta) : PTm T X Ew (.UnaryOp .Not a pos) (tNotM ta) := by
  refine PT.to (pt_not h) fun σ H Q h => ?_
  obtain ⟨W, ρ, S, s, er, h⟩ := h
  exact ⟨W, ρ, S, s, er, RP.bind h fun W1 S1 H1 k l1 s1 h1 => h1.now s1⟩
end
end PM

/-! PM, part c: statements, calls, attributes, loops -/
namespace PM
open PySem PySem.Spec L2

def Res.toS {α : Type} (r : Res α) (ρ : Ev) (g : α → Sto → SRes) : SRes := match r with
  | .ok a S => g a S
  | .ex c vs S => .ex c vs ρ S
  | .st => .st
section
variable {K : PySem.W.Frag} {T : Tbl} {Ew : XW} {W : Wd} {D D' : Ends} {σ : L2.St} {ρ : Ev}
theorem SPo.of {α : Type} {r : Res α} {g : α → Sto → SRes} {P : Wd → Sto → Hp → α → Prop} (er : ER K T W ρ σ) (h : SPo K T Ew W D (r.toS ρ g))
    (i : ∀ W' S' H' a, WLe W W' → SR K T W' S' H' → SPo K T Ew W' D (g a S') → P W' S' H' a) : RP K T W r P (fun H' c o => Ew c o σ H') := by
  cases r with
  | ok a S => exact fun W2 H2 l s => i W2 S H2 a l s (SPo.wle l h)
  | ex c vs S => exact fun W2 H2 cls od l s x => h W2 H2 σ cls od l s (er.mono l) x
  | st => exact h
/-- only the four ends matter -/
theorem SPo.ends {r : SRes} (h : SPo K T Ew W D r) (n : D.nx = D'.nx) (t : D.rt = D'.rt) (b : D.bk = D'.bk) (c : D.ct = D'.ct) : SPo K T Ew W D' r := by
  cases D; cases D'; cases n; cases t; cases b; cases c; exact h
end

/-! ### targets -/
inductive Tgt where
  | name (i : Nat)
  | tup (ts : List Tgt)
mutual
def Tgt.set : Tgt → Val → Ev → Option Ev
  | .name i, v, ρ => some (ρ.set i (some v))
  | .tup ts, .tup vs, ρ => Tgt.sets ts vs ρ
  | .tup _, _, _ => none
def Tgt.sets : List Tgt → List Val → Ev → Option Ev
  | [], [], ρ => some ρ
  | t :: ts, v :: vs, ρ => (t.set v ρ).bind fun ρ' => Tgt.sets ts vs ρ'
  | _, _, _ => none
end
mutual
def Tgt.g (K : PySem.W.Frag) : Tgt → TG
  | .name i => gName i
  | .tup ts => gTup K ts.length (Tgt.gs K ts)
def Tgt.gs (K : PySem.W.Frag) : List Tgt → TGs
  | [] => gNil
  | t :: ts => gCons (t.g K) (Tgt.gs K ts)
end
mutual
def Tgt.slots : Tgt → List Nat
  | .name i => [i]
  | .tup ts => Tgt.slotss ts
def Tgt.slotss : List Tgt → List Nat
  | [] => []
  | t :: ts => t.slots ++ Tgt.slotss ts
end
theorem wipe_get (σ : L2.St) : ∀ (ws : List Nat) (j : Nat), (L2.wipe σ ws)[j]? = if j ∈ ws ∧ j < σ.length then some none else σ[j]?
  | [], j => by simp [L2.wipe]
  | w :: ws, j => by
    unfold L2.wipe
    by_cases e : w = j
    · subst e
      by_cases hl : w < σ.length
      · rw [List.getElem?_set_self (by rw [wipe_length]; exact hl), if_pos ⟨List.mem_cons_self, hl⟩]
      · rw [List.getElem?_eq_none (by rw [List.length_set, wipe_length]; omega), if_neg (fun z => hl z.2), List.getElem?_eq_none (by omega)]
    · rw [List.getElem?_set_ne e, wipe_get σ ws j]
      have : (j ∈ w :: ws) ↔ j ∈ ws := by
        rw [List.mem_cons]
        exact ⟨fun z => z.resolve_left fun q => e q.symm, .inr⟩
      by_cases hj : j ∈ ws
      · simp [hj]
      · have h2 : ¬ j = w := fun q => e q.symm
        simp [hj, h2]
theorem wipe_set {σ : L2.St} {i : Nat} {x : Option V} {ws : List Nat} (h : i ∈ ws) : L2.wipe (σ.set i x) ws = L2.wipe σ ws := by
  apply List.ext_getElem?
  intro j
  rw [wipe_get, wipe_get, List.length_set]
  by_cases e : i = j
  · subst e
    by_cases hl : i < σ.length
    · rw [if_pos ⟨h, hl⟩, if_pos ⟨h, hl⟩]
    · rw [if_neg (fun z => hl z.2), if_neg (fun z => hl z.2), List.getElem?_eq_none (by rw [List.length_set]; omega), List.getElem?_eq_none (by omega)]
  · rw [List.getElem?_set_ne e]
section
variable {K : PySem.W.Frag} {T : Tbl} {W : Wd} {H : Hp} {ws : List Nat}
mutual
theorem Tgt.ok (sub : ∀ a o, W.I a = some o → H a = some o) : ∀ (t : Tgt) {v : Val} {x : V} {ρ ρ' : Ev} {σ : L2.St} {R : L2.St → Hp → Prop}, VR K T W v x → ER K T W ρ σ → t.set v ρ = some ρ' →
    (∀ σ', ER K T W ρ' σ' → ((∀ i ∈ t.slots, i ∈ ws) → L2.wipe σ' ws = L2.wipe σ ws) → R σ' H) → t.g K x σ H R
  | .name i, v, x, ρ, ρ', σ, R, vx, er, e, k => by
    unfold Tgt.set at e
    cases e
    unfold Tgt.g
    exact k _ (er.set vx) fun z => wipe_set (z i (by simp [Tgt.slots]))
  | .tup ts, v, x, ρ, ρ', σ, R, vx, er, e, k => by
    cases vx with
    | tup h r =>
      unfold Tgt.set at e
      unfold Tgt.g
      have hl := Tgt.sets_len ts e
      exact ⟨_, _, rfl, TQ_sq sub h, by rw [← r.length, hl], Tgt.oks sub ts r er e fun σ' e' w => k σ' e' fun z => w (by simpa [Tgt.slots] using z)⟩
    | _ => simp [Tgt.set] at e
theorem Tgt.oks (sub : ∀ a o, W.I a = some o → H a = some o) : ∀ (ts : List Tgt) {vs : List Val} {xs : List V} {ρ ρ' : Ev} {σ : L2.St} {R : L2.St → Hp → Prop}, VRs K T W vs xs → ER K T W ρ σ → Tgt.sets ts vs ρ = some ρ' →
    (∀ σ', ER K T W ρ' σ' → ((∀ i ∈ Tgt.slotss ts, i ∈ ws) → L2.wipe σ' ws = L2.wipe σ ws) → R σ' H) → Tgt.gs K ts xs σ H R
  | [], _, _, ρ, ρ', σ, R, .nil, er, e, k => by
    unfold Tgt.sets at e
    cases e
    unfold Tgt.gs
    exact ⟨rfl, k σ er fun _ => rfl⟩
  | [], _, _, ρ, ρ', σ, R, .cons _ _, er, e, k => by simp [Tgt.sets] at e
  | t :: ts, _, _, ρ, ρ', σ, R, .nil, er, e, k => by simp [Tgt.sets] at e
  | t :: ts, _, _, ρ, ρ', σ, R, .cons (v := v) (vs := vs) vx r, er, e, k => by
    unfold Tgt.sets at e
    cases q : t.set v ρ with
    | none => rw [q] at e; cases e
    | some ρ1 =>
      rw [q] at e
      unfold Tgt.gs
      refine ⟨_, _, rfl, Tgt.ok sub t vx er q fun σ1 e1 w1 => Tgt.oks sub ts r e1 e fun σ2 e2 w2 => k σ2 e2 fun z => ?_⟩
      rw [w2 fun i hi => z i (by unfold Tgt.slotss; exact List.mem_append_right _ hi), w1 fun i hi => z i (by unfold Tgt.slotss; exact List.mem_append_left _ hi)]
theorem Tgt.sets_len : ∀ (ts : List Tgt) {vs : List Val} {ρ ρ' : Ev}, Tgt.sets ts vs ρ = some ρ' → vs.length = ts.length
  | [], [], _, _, _ => rfl
  | [], _ :: _, _, _, e => by simp [Tgt.sets] at e
  | _ :: _, [], _, _, e => by simp [Tgt.sets] at e
  | t :: ts, v :: vs, ρ, ρ', e => by
    unfold Tgt.sets at e
    cases q : t.set v ρ with
    | none => rw [q] at e; cases e
    | some ρ1 =>
      rw [q] at e
      exact congrArg (· + 1) (Tgt.sets_len ts e)
end
end

/-! ### statements -/
def sNext : SM := fun ρ S => .nx ρ S
def sNever : SM := fun _ _ => .st
def sSeq (s t : SM) : SM := fun ρ S => match s ρ S with
  | .nx ρ' S' => t ρ' S'
  | r => r
def sSet (i : Nat) (e : EM) : SM := fun ρ S => (e ρ S).toS ρ fun v S1 => .nx (ρ.set i (some v)) S1
def sAsg (t : Tgt) (e : EM) : SM := fun ρ S => (e ρ S).toS ρ fun v S1 => match t.set v ρ with
  | some ρ' => .nx ρ' S1
  | none => .st
def sPar (i j : Nat) (a : AM) : SM := fun ρ S => (a ρ S).toS ρ fun vs S1 => match vs with
  | [v, w] => .nx ((ρ.set i (some v)).set j (some w)) S1
  | _ => .st
def sDrop (e : EM) : SM := fun ρ S => (e ρ S).toS ρ fun _ S1 => .nx ρ S1
def sRet (e : EM) : SM := fun ρ S => (e ρ S).toS ρ fun v S1 => .rt v S1
def sRetN : SM := fun _ S => .rt .non S
def sBreak : SM := fun ρ S => .bk ρ S
def sCont : SM := fun ρ S => .ct ρ S
def sIf (t : BM) (a b : SM) : SM := fun ρ S => (t ρ S).toS ρ fun c S1 => if c then a ρ S1 else b ρ S1
def sAug (i : Nat) (op : Val → Val → Sto → Res Val) (e : EM) : SM := fun ρ S => match ρ[i]? with
  | some (some v) => (e ρ S).toS ρ fun w S1 => (op v w S1).toS ρ fun z S2 => .nx (ρ.set i (some z)) S2
  | _ => .st
def whileM : Nat → BM → SM → SM
  | 0, _, _ => fun _ _ => .st
  | n + 1, c, b => fun ρ S => (c ρ S).toS ρ fun k S1 => if k then (match b ρ S1 with
      | .nx ρ' S' => whileM n c b ρ' S'
      | .ct ρ' S' => whileM n c b ρ' S'
      | .bk ρ' S' => .nx ρ' S'
      | r => r) else .nx ρ S1

/-- what a loop walks: the items; what must hold of the store at each turn -/
structure ItV where
  items : List Val
  src : Sto → Prop
abbrev IM := Ev → Sto → Res ItV
open Classical in
noncomputable def forGo (src : Sto → Prop) (tg : Tgt) (b : SM) : List Val → SM
  | [] => fun ρ S => if src S then .nx ρ S else .st
  | v :: vs => fun ρ S => if src S then (match tg.set v ρ with
      | some ρ1 => (match b ρ1 S with
        | .nx ρ' S' => forGo src tg b vs ρ' S'
        | .ct ρ' S' => forGo src tg b vs ρ' S'
        | .bk ρ' S' => .nx ρ' S'
        | r => r)
      | none => .st) else .st
noncomputable def sFor (it : IM) (tg : Tgt) (b : SM) : SM := fun ρ S => (it ρ S).toS ρ fun iv S1 => forGo iv.src tg b iv.items ρ S1
def ItOk (K : PySem.W.Frag) (T : Tbl) (W : Wd) (iv : ItV) (J : It) : Prop := ∀ W' S' H', WLe W W' → SR K T W' S' H' → iv.src S' → ∀ i,
  (∀ v, iv.items[i]? = some v → J.go i H' ∧ ∀ x H'', J.yld i H' x H'' → ∃ W'', WLe W' W'' ∧ SR K T W'' S' H'' ∧ VR K T W'' v x) ∧ (iv.items[i]? = none → J.stop i H')
theorem ItOk.mono {K : PySem.W.Frag} {T : Tbl} {W W' : Wd} {iv : ItV} {J : It} (l : WLe W W') (h : ItOk K T W iv J) : ItOk K T W' iv J := fun W2 S H l2 => h W2 S H (l.trans l2)
def rdI (K : PySem.W.Frag) (T : Tbl) (Ew : XW) (f : IM) : TI := fun σ H R => ∃ W ρ S, SR K T W S H ∧ ER K T W ρ σ ∧ RP K T W (f ρ S) (fun W' _ H' iv => ∀ J, ItOk K T W' iv J → R J H') (fun H' c o => Ew c o σ H')
abbrev PIm (T : Tbl) (X : Cx) (Ew : XW) (tg e : Expr) (f : IM) : Prop := PI X tg e (rdI X.K T Ew f)
theorem PI.to {X : Cx} {tg e : Expr} {t t' : TI} (h : PI X tg e t) (i : ∀ σ H R, t' σ H R → t σ H R) : PI X tg e t' := ⟨fun pins s σ H R I q => h.run pins s σ H R I (i _ _ _ q)⟩
/-- a target: its names -/
abbrev PGm (X : Cx) (e : Expr) (t : Tgt) : Prop := PG X e (t.g X.K)
abbrev PGsm (X : Cx) (e : List Expr) (t : List Tgt) : Prop := PGs X e (Tgt.gs X.K t)

section
variable {T : Tbl} {X : Cx} {Ew : XW} {e c a b : Expr} {es : List Expr} {f fa fb : EM} {fs : AM} {t : BM} {s u : SM} {st : Stmt} {sts rest body orelse : List Stmt} {pos : Pos}
theorem g_name {i : Nat} {x : Str} (hN : X.N.Nodup) (hi : X.N[i]? = some x) (hx : Loc X.env.scope x) (hf : X.fn x = true ∨ X.env.scope.names.lookup x = some .local := by first | exact .inl rfl | exact .inr rfl | assumption) : PGm X (.Name x pos) (.name i) := by
  show PG X (.Name x pos) (Tgt.g X.K (.name i))
  unfold Tgt.g
  exact pg_name hN hi hx hf
theorem gs_nil : PGsm X [] [] := by
  show PGs X [] (Tgt.gs X.K [])
  unfold Tgt.gs
  exact pgs_nil
theorem gs_cons {tg : Tgt} {ts : List Tgt} (h1 : PGm X e tg) (h2 : PGsm X es ts) (hs : (assignEach (e :: es) X.env).map (·.2) = assign e X.env :: (assignEach es X.env).map (·.2) := by rfl) : PGsm X (e :: es) (tg :: ts) := by
  show PGs X (e :: es) (Tgt.gs X.K (tg :: ts))
  unfold Tgt.gs
  exact pgs_cons h1 h2 hs
theorem g_tup {ts : List Tgt} {k : Nat} (hc : X.calm = true) (h : PGsm X es ts) (hn : (assignEach es X.env).length = ts.length := by rfl) (hst : (assignEach es X.env).findIdx? (·.1) = none := by rfl) : PGm X (.Tuple es k pos) (.tup ts) := by
  show PG X _ (Tgt.g X.K (.tup ts))
  unfold Tgt.g
  exact pg_tup hc h hn hst
theorem mb_nil : PBm T X Ew [] sNext := PSs.to pss_nil fun D σ H ⟨W, ρ, S, s, er, h⟩ => h W H σ (.refl W) s er
theorem mb_one (h : PSm T X Ew st s) : PBm T X Ew [st] s := pss_one h
theorem mb_cons (h1 : PSm T X Ew st s) (h2 : PBm T X Ew rest u) : PBm T X Ew (st :: rest) (sSeq s u) := by
  refine PSs.to (pss_cons h1 h2) fun D σ H ⟨W, ρ, S, sr, er, h⟩ => ⟨W, ρ, S, sr, er, ?_⟩
  unfold sSeq at h
  cases q : s ρ S with
  | nx ρ' S' =>
    rw [q] at h
    exact fun W2 H2 σ2 l s2 e2 => ⟨W2, ρ', S', s2, e2, SPo.wle l h⟩
  | rt v S' => rw [q] at h; exact h
  | bk v S' => rw [q] at h; exact h
  | ct v S' => rw [q] at h; exact h
  | ex c vs v S' => rw [q] at h; exact h
  | st => rw [q] at h; exact h
theorem ms_pass : PSm T X Ew (.Pass pos) sNext := PS.to ps_pass fun D σ H ⟨W, ρ, S, s, er, h⟩ => h W H σ (.refl W) s er
theorem ms_never : PSm T X Ew st sNever := PS.to ps_never fun D σ H ⟨W, ρ, S, s, er, h⟩ => h
theorem mb_never : PBm T X Ew sts sNever := PSs.to pss_never fun D σ H ⟨W, ρ, S, s, er, h⟩ => h
theorem ms_break : PSm T X Ew (.Break pos) sBreak := PS.to ps_break fun D σ H ⟨W, ρ, S, s, er, h⟩ => h W H σ (.refl W) s er
theorem ms_cont : PSm T X Ew (.Continue pos) sCont := PS.to ps_continue fun D σ H ⟨W, ρ, S, s, er, h⟩ => h W H σ (.refl W) s er
theorem ms_set {i : Nat} {x : Str} {pos' : Pos} (hN : X.N.Nodup) (hi : X.N[i]? = some x) (hx : Loc X.env.scope x) (he : PEm T X Ew e f) (hs : swapsWith e (some (.Name x pos')) pos.line X.env = pure false := by rfl)
    (hf : X.fn x = true ∨ X.env.scope.names.lookup x = some .local := by first | exact .inl rfl | exact .inr rfl | assumption) : PSm T X Ew (.Assign [.Name x pos'] e pos) (sSet i f) := by
  refine PS.to (ps_set hN hi hx he hs hf) fun D σ H ⟨W, ρ, S, sr, er, h⟩ => ⟨W, ρ, S, sr, er, SPo.of er h fun W1 S1 H1 v l s1 h1 x vx => ?_⟩
  exact h1 W1 H1 _ (.refl _) s1 ((er.mono l).set vx)
theorem ms_asg {tg : Expr} {g : Tgt} (he : PEm T X Ew e f) (hg : PGm X tg g) (hs : swapsWithSole [tg] e pos.line X.env = pure false := by rfl) (hw : swappedStores [tg] e X.env = pure none := by rfl)
    (h1 : (assignEach [tg] X.env).map (·.2) = [assign tg X.env] := by rfl) : PSm T X Ew (.Assign [tg] e pos) (sAsg g f) := by
  refine PS.to (ps_asg he hg hs hw h1) fun D σ H ⟨W, ρ, S, sr, er, h⟩ => ⟨W, ρ, S, sr, er, SPo.of er h fun W1 S1 H1 v l s1 h1 x vx => ?_⟩
  cases q : g.set v ρ with
  | none => rw [q] at h1; exact False.elim h1
  | some ρ' =>
    rw [q] at h1
    exact Tgt.ok (ws := []) s1.sub g vx (er.mono l) q fun σ' e' _ => h1 W1 H1 σ' (.refl _) s1 e'
theorem ms_par {i j : Nat} {x y : Str} {px py pt : Pos} {kt k2 pt2} (hc : X.calm = true) (hN : X.N.Nodup) (hi : X.N[i]? = some x) (hj : X.N[j]? = some y) (hij : i ≠ j)
    (hx : X.env.scope.names.lookup x = some .local) (hy : X.env.scope.names.lookup y = some .local) (ha : PAm T X Ew [a, b] fs)
    (hw : swappedStores [.Tuple [.Name x px, .Name y py] kt pt] (.Tuple [a, b] k2 pt2) X.env = pure (some [x, y]) := by rfl)
    (hs : swapsWithSole [.Tuple [.Name x px, .Name y py] kt pt] (.Tuple [a, b] k2 pt2) pos.line X.env = pure false := by rfl) :
    PSm T X Ew (.Assign [.Tuple [.Name x px, .Name y py] kt pt] (.Tuple [a, b] k2 pt2) pos) (sPar i j fs) := by
  refine PS.to (ps_par hc hN hi hj hij hx hy ha hw hs) fun D σ H ⟨W, ρ, S, sr, er, h⟩ => ⟨W, ρ, S, sr, er, SPo.of er h fun W1 S1 H1 vs l s1 h1 xs vxs => ?_⟩
  cases vxs with
  | nil => exact False.elim h1
  | cons v1 r1 =>
    cases r1 with
    | nil => exact False.elim h1
    | cons v2 r2 =>
      cases r2 with
      | nil => exact ⟨_, _, rfl, h1 W1 H1 _ (.refl _) s1 (((er.mono l).set v1).set v2)⟩
      | cons _ _ => exact False.elim h1
theorem ms_expr (he : PEm T X Ew e f) (hs : swapsWith e none pos.line X.env = pure false := by rfl) : PSm T X Ew (.Expr e pos) (sDrop f) :=
  PS.to (ps_expr he hs) fun D σ H ⟨W, ρ, S, sr, er, h⟩ => ⟨W, ρ, S, sr, er, SPo.of er h fun W1 S1 H1 v l s1 h1 x vx => h1 W1 H1 _ (.refl _) s1 (er.mono l)⟩
theorem ms_ret (he : PEm T X Ew e f) : PSm T X Ew (.Return (some e) pos) (sRet f) :=
  PS.to (ps_ret he) fun D σ H ⟨W, ρ, S, sr, er, h⟩ => ⟨W, ρ, S, sr, er, SPo.of er h fun W1 S1 H1 v l s1 h1 x vx => h1 W1 H1 _ (.refl _) s1 vx⟩
theorem ms_retN : PSm T X Ew (.Return none pos) sRetN := PS.to ps_retN fun D σ H ⟨W, ρ, S, s, er, h⟩ => h W H _ (.refl W) s .non
theorem ms_if {A B : List Stmt} (ht : PTm T X Ew c t) (ha : PBm T X Ew A s) (hb : PBm T X Ew B u) : PSm T X Ew (.If c A B pos) (sIf t s u) := by
  refine PS.to (ps_if ht ha hb) fun D σ H ⟨W, ρ, S, sr, er, h⟩ => ⟨W, ρ, S, sr, er, SPo.of er h fun W1 S1 H1 k l s1 h1 => ?_⟩
  cases k with
  | true => rw [if_pos rfl]; exact ⟨W1, ρ, S1, s1, er.mono l, h1⟩
  | false => rw [if_neg Bool.false_ne_true]; exact ⟨W1, ρ, S1, s1, er.mono l, h1⟩
theorem ms_aug {i : Nat} {x : Str} {op : Operator} {o : Val → Val → Sto → Res Val} {r : TIp} {pos' : Pos} (hN : X.N.Nodup) (hi : X.N[i]? = some x) (hx : Loc X.env.scope x) (he : PEm T X Ew e f) (ho : PIp X op r) (ok : Op2 X.K T r o)
    (hf : X.fn x = true ∨ X.env.scope.names.lookup x = some .local := by first | exact .inl rfl | exact .inr rfl | assumption) : PSm T X Ew (.AugAssign (.Name x pos') op e pos) (sAug i o f) := by
  refine PS.to (ps_aug hN hi hx he ho hf) fun D σ H ⟨W, ρ, S, sr, er, h⟩ => ?_
  unfold sAug at h
  cases q : ρ[i]? with
  | none => rw [q] at h; exact False.elim h
  | some z =>
    cases z with
    | none => rw [q] at h; exact False.elim h
    | some v =>
      rw [q] at h
      obtain ⟨y, hy, vy⟩ := er.get i v q
      refine ⟨y, hy, W, ρ, S, sr, er, SPo.of er h fun W1 S1 H1 w l s1 h1 x vx => ?_⟩
      refine ok W1 S1 H1 v w y x _ (fun H' c o => Ew c o σ H') s1 (vy.mono l) vx (SPo.of (er.mono l) h1 fun W2 S2 H2 z l2 s2 h2 xz vz => ?_)
      exact h2 W2 H2 _ (.refl _) s2 (((er.mono l).mono l2).set vz)
theorem ms_while (n : Nat) (hp : PassesOwn (model X.prog X.w) X.A X.env X.xe) (hc : PTm T X Ew c t) (hb : PBm T X Ew body s) : PSm T X Ew (.While c body [] pos) (whileM n t s) := by
  refine PS.to (ps_while hp hc hb) fun D σ H ⟨W, ρ, S, sr, er, h⟩ => ?_
  refine ⟨fun m σ H => ∃ W ρ S, SR X.K T W S H ∧ ER X.K T W ρ σ ∧ SPo X.K T Ew W D (whileM m t s ρ S), ⟨n, W, ρ, S, sr, er, h⟩, fun m σ H hW => ?_⟩
  obtain ⟨W, ρ, S, sr, er, h⟩ := hW
  cases m with
  | zero => exact False.elim h
  | succ m =>
    unfold whileM at h
    refine ⟨W, ρ, S, sr, er, SPo.of er h fun W1 S1 H1 k l s1 h1 => ?_⟩
    cases k with
    | false => rw [if_neg Bool.false_ne_true]; exact h1 W1 H1 σ (.refl _) s1 (er.mono l)
    | true =>
      rw [if_pos rfl]
      rw [if_pos rfl] at h1
      refine ⟨_, fun σ' H' z => ⟨m, Nat.lt_succ_self m, z⟩, W1, ρ, S1, s1, er.mono l, ?_⟩
      cases q : s ρ S1 with
      | nx ρ' S' => rw [q] at h1; exact fun W2 H2 σ2 l2 s2 e2 => ⟨W2, ρ', S', s2, e2, SPo.wle l2 h1⟩
      | ct ρ' S' => rw [q] at h1; exact fun W2 H2 σ2 l2 s2 e2 => ⟨W2, ρ', S', s2, e2, SPo.wle l2 h1⟩
      | bk ρ' S' => rw [q] at h1; exact h1
      | rt v S' => rw [q] at h1; exact h1
      | ex c vs ρ' S' => rw [q] at h1; exact h1
      | st => rw [q] at h1; exact h1
theorem ms_for {tgE iter : Expr} {it : IM} {g : Tgt} (hp : PassesOwn (model X.prog X.w) X.A X.env X.xe) (hc : X.calm = true) (hi : PIm T X Ew tgE iter it) (hg : PGm X tgE g) (hb : PBm T X Ew body s)
    (hs : ∀ x, foldedSetIterable iter X.env x = pure x := by intro _; rfl) : PSm T X Ew (.For tgE iter body [] pos) (sFor it g s) := by
  refine PS.to (ps_for hp hc hi hg hb hs) fun D σ H ⟨W, ρ, S, sr, er, h⟩ => ⟨W, ρ, S, sr, er, SPo.of er h fun W1 S1 H1 iv l s1 h1 J hJ => ?_⟩
  refine ⟨fun i m σ H => ∃ W ρ S rest, iv.items.drop i = rest ∧ m = rest.length ∧ WLe W1 W ∧ SR X.K T W S H ∧ ER X.K T W ρ σ ∧ SPo X.K T Ew W D (forGo iv.src g s rest ρ S),
    ⟨_, W1, ρ, S1, iv.items, rfl, rfl, .refl _, s1, er.mono l, h1⟩, fun i m σ H hW => ?_⟩
  obtain ⟨W, ρ, S, rest, hd, rfl, lw, sr, er, h⟩ := hW
  cases rest with
  | nil =>
    unfold forGo at h
    by_cases hsrc : iv.src S
    · rw [if_pos hsrc] at h
      have hn : iv.items[i]? = none := List.getElem?_eq_none (by simpa using hd)
      exact .inl ⟨(hJ W S H lw sr hsrc i).2 hn, h W H σ (.refl _) sr er⟩
    · rw [if_neg hsrc] at h; exact False.elim h
  | cons v vs =>
    unfold forGo at h
    by_cases hsrc : iv.src S
    · rw [if_pos hsrc] at h
      have hv : iv.items[i]? = some v := by
        have := congrArg (·[0]?) hd
        simpa using this
      have hd' : iv.items.drop (i + 1) = vs := by
        have := congrArg List.tail hd
        simpa using this
      obtain ⟨go, yl⟩ := (hJ W S H lw sr hsrc i).1 v hv
      refine .inr ⟨go, _, fun σ' H' z => ⟨vs.length, Nat.lt_succ_self _, z⟩, fun x H' y => ?_⟩
      obtain ⟨W2, l2, s2, vx⟩ := yl x H' y
      cases q : g.set v ρ with
      | none => rw [q] at h; exact False.elim h
      | some ρ1 =>
        rw [q] at h
        refine Tgt.ok (ws := []) s2.sub g vx (er.mono l2) q fun σ' e' _ => ⟨W2, ρ1, S, s2, e', ?_⟩
        have h' := SPo.wle l2 h
        cases q2 : s ρ1 S with
        | nx ρ' S' => simp only [q2] at h'; exact fun W3 H3 σ3 l3 s3 e3 => ⟨W3, ρ', S', vs, hd', rfl, (lw.trans l2).trans l3, s3, e3, SPo.wle l3 h'⟩
        | ct ρ' S' => simp only [q2] at h'; exact fun W3 H3 σ3 l3 s3 e3 => ⟨W3, ρ', S', vs, hd', rfl, (lw.trans l2).trans l3, s3, e3, SPo.wle l3 h'⟩
        | bk ρ' S' => simp only [q2] at h'; exact h'
        | rt v S' => simp only [q2] at h'; exact h'
        | ex c vs ρ' S' => simp only [q2] at h'; exact h'
        | st => simp only [q2] at h'; exact h'
    · rw [if_neg hsrc] at h; exact False.elim h
end
end PM

/-! PM, part d: the operators and built-ins over data -/
namespace PM
open PySem PySem.Spec L2

/-! ### looking into a value -/
def lstOf (S : Sto) : Val → Option (List Val)
  | .lst xs => some xs
  | .fz xs => some xs
  | .loc k => match S.objs k with
    | some (.lst xs) => some xs
    | _ => none
  | _ => none
/-- a list that is not the script -/
def mlstOf (S : Sto) : Val → Option (List Val)
  | .lst xs => some xs
  | .loc k => match S.objs k with
    | some (.lst xs) => some xs
    | _ => none
  | _ => none
def insOf (S : Sto) : Val → Option (Nat × List Val)
  | .ins c vs => some (c, vs)
  | .loc k => match S.objs k with
    | some (.ins c vs) => some (c, vs)
    | _ => none
  | _ => none
section
variable {K : PySem.W.Frag} {T : Tbl} {W : Wd} {S : Sto} {H : Hp} {v : Val} {x : V}
theorem locLst (s : SR K T W S H) {k : Nat} {vs : List Val} (e : S.objs k = some (.lst vs)) : ∃ xs, H (W.m k) = some (.lst xs) ∧ VRs K T W vs xs := s.at_ k _ e
theorem lstOf_ok (s : SR K T W S H) (r : VR K T W v x) {vs : List Val} (e : lstOf S v = some vs) : ∃ a xs, x = .ref a ∧ SqL K H a xs ∧ VRs K T W vs xs := by
  cases r with
  | lst h r => cases e; exact ⟨_, _, rfl, .inl (.inl (s.sub _ _ h)), r⟩
  | fz h r => cases e; exact ⟨_, _, rfl, SqL_mono s.sub h, r⟩
  | @loc k h =>
    unfold lstOf at e
    cases q : S.objs k with
    | none => simp only [q] at e; cases e
    | some o =>
      cases o with
      | lst ys =>
        simp only [q] at e; cases e
        obtain ⟨xs, h1, h2⟩ := locLst s q
        exact ⟨_, _, rfl, .inl (.inl h1), h2⟩
      | dk _ _ _ => simp only [q] at e; cases e
      | dt _ _ _ => simp only [q] at e; cases e
      | ins _ _ => simp only [q] at e; cases e
  | _ => cases e
theorem mlstOf_ok (s : SR K T W S H) (r : VR K T W v x) {vs : List Val} (e : mlstOf S v = some vs) : ∃ a xs, x = .ref a ∧ H a = some (.lst xs) ∧ VRs K T W vs xs := by
  cases r with
  | lst h r => cases e; exact ⟨_, _, rfl, s.sub _ _ h, r⟩
  | @loc k h =>
    unfold mlstOf at e
    cases q : S.objs k with
    | none => simp only [q] at e; cases e
    | some o =>
      cases o with
      | lst ys =>
        simp only [q] at e; cases e
        obtain ⟨xs, h1, h2⟩ := locLst s q
        exact ⟨_, _, rfl, h1, h2⟩
      | dk _ _ _ => simp only [q] at e; cases e
      | dt _ _ _ => simp only [q] at e; cases e
      | ins _ _ => simp only [q] at e; cases e
  | _ => cases e
theorem insOf_ok (s : SR K T W S H) (r : VR K T W v x) {c : Nat} {vs : List Val} (e : insOf S v = some (c, vs)) :
    ∃ a C dx xs, x = .ref a ∧ T.cl c = some C ∧ xs.length ≤ (T.fl c).length ∧ H a = some (.ins C dx ((T.fl c).zip xs)) ∧ VRs K T W vs xs := by
  cases r with
  | ins h1 h2 h3 h4 => cases e; exact ⟨_, _, _, _, rfl, h1, h2, s.sub _ _ h3, h4⟩
  | @loc k h =>
    unfold insOf at e
    cases q : S.objs k with
    | none => simp only [q] at e; cases e
    | some o =>
      cases o with
      | ins c' vs' =>
        simp only [q] at e; cases e
        obtain ⟨C, dx, xs, h1, h2, h3, h4⟩ := s.at_ k _ q
        exact ⟨_, _, _, _, rfl, h1, h2, h3, h4⟩
      | dk _ _ _ => simp only [q] at e; cases e
      | dt _ _ _ => simp only [q] at e; cases e
      | lst _ => simp only [q] at e; cases e
  | _ => cases e
theorem tup_ok (s : SR K T W S H) {vs : List Val} (r : VR K T W (.tup vs) x) : ∃ a xs, x = .ref a ∧ SqT K H a xs ∧ VRs K T W vs xs := by
  cases r with
  | tup h r => exact ⟨_, _, rfl, TQ_sq s.sub h, r⟩
theorem kt_ok (s : SR K T W S H) {vs : List Val} (r : VR K T W (.kt vs) x) : ∃ a xs, x = .ref a ∧ SqT K H a xs ∧ VRs K T W vs xs := by
  cases r with
  | kt h r => exact ⟨_, _, rfl, SqT_mono s.sub h, r⟩
end

/-! ### data -/
mutual
def Val.dat : Val → Option PyData
  | .non => some .none
  | .bl b => some (.bool b)
  | .int i => some (.int i)
  | .str x => some (.str x)
  | .tup xs => (Val.dats xs).map .tuple
  | .lst xs => (Val.dats xs).map .list
  | .fz xs => (Val.dats xs).map .list
  | .kt xs => (Val.dats xs).map .tuple
  | _ => none
def Val.dats : List Val → Option (List PyData)
  | [] => some []
  | v :: vs => match v.dat, Val.dats vs with
    | some d, some ds => some (d :: ds)
    | _, _ => none
end
/-- a list of the store counts as its items -/
def datS (S : Sto) : Val → Option PyData
  | .loc k => match S.objs k with
    | some (.lst xs) => (Val.dats xs).map .list
    | _ => none
  | v => v.dat
section
variable {K : PySem.W.Frag} {T : Tbl} {W : Wd} {S : Sto} {H : Hp}
mutual
theorem Val.dat_ok (sub : ∀ a o, W.I a = some o → H a = some o) : ∀ {v : Val} {x : V} {d : PyData}, VR K T W v x → v.dat = some d → Dp K H x d
  | _, _, d, .non, e => by unfold Val.dat at e; cases e; exact .non
  | _, _, d, .bl b, e => by unfold Val.dat at e; cases e; exact .bl b
  | _, _, d, .int b, e => by unfold Val.dat at e; cases e; exact .int b
  | _, _, d, .str b, e => by unfold Val.dat at e; cases e; exact .str b
  | _, _, d, .ty b, e => by unfold Val.dat at e; cases e
  | _, _, d, .tup (vs := vs) h r, e => by
    unfold Val.dat at e
    cases q : Val.dats vs with
    | none => rw [q] at e; cases e
    | some ds => rw [q] at e; cases e; exact .tup (TQ_sq sub h) (Val.dats_ok sub r q)
  | _, _, d, .lst (vs := vs) h r, e => by
    unfold Val.dat at e
    cases q : Val.dats vs with
    | none => rw [q] at e; cases e
    | some ds => rw [q] at e; cases e; exact .lst (.inl (.inl (sub _ _ h))) (Val.dats_ok sub r q)
  | _, _, d, .fz (vs := vs) h r, e => by
    unfold Val.dat at e
    cases q : Val.dats vs with
    | none => rw [q] at e; cases e
    | some ds => rw [q] at e; cases e; exact .lst (SqL_mono sub h) (Val.dats_ok sub r q)
  | _, _, d, .kt (vs := vs) h r, e => by
    unfold Val.dat at e
    cases q : Val.dats vs with
    | none => rw [q] at e; cases e
    | some ds => rw [q] at e; cases e; exact .tup (SqT_mono sub h) (Val.dats_ok sub r q)
  | _, _, d, .dk _ _ _, e => by unfold Val.dat at e; cases e
  | _, _, d, .dt _ _ _, e => by unfold Val.dat at e; cases e
  | _, _, d, .ins _ _ _ _, e => by unfold Val.dat at e; cases e
  | _, _, d, .loc _, e => by unfold Val.dat at e; cases e
  | _, _, d, .cls _, e => by unfold Val.dat at e; cases e
  | _, _, d, .err0 _ _ _, e => by unfold Val.dat at e; cases e
  | _, _, d, .errd _ _ _ _ _, e => by unfold Val.dat at e; cases e
theorem Val.dats_ok (sub : ∀ a o, W.I a = some o → H a = some o) : ∀ {vs : List Val} {xs : List V} {ds : List PyData}, VRs K T W vs xs → Val.dats vs = some ds → DpAll K H xs ds
  | _, _, ds, .nil, e => by unfold Val.dats at e; cases e; exact .nil
  | _, _, ds, .cons (v := v) (vs := vs) a r, e => by
    unfold Val.dats at e
    cases q : v.dat with
    | none => rw [q] at e; cases e
    | some d =>
      cases q2 : Val.dats vs with
      | none => rw [q, q2] at e; cases e
      | some d2 =>
        rw [q, q2] at e; cases e
        exact .cons (Val.dat_ok sub a q) (Val.dats_ok sub r q2)
end
theorem datS_ok (s : SR K T W S H) {v : Val} {x : V} {d : PyData} (r : VR K T W v x) (e : datS S v = some d) : Dp K H x d := by
  cases r with
  | @loc k h =>
    unfold datS at e
    cases q : S.objs k with
    | none => simp only [q] at e; cases e
    | some o =>
      cases o with
      | lst ys =>
        simp only [q] at e
        obtain ⟨xs, h1, h2⟩ := locLst s q
        cases q2 : Val.dats ys with
        | none => rw [q2] at e; cases e
        | some ds => rw [q2] at e; cases e; exact .lst (.inl (.inl h1)) (Val.dats_ok s.sub h2 q2)
      | dk _ _ _ => simp only [q] at e; cases e
      | dt _ _ _ => simp only [q] at e; cases e
      | ins _ _ => simp only [q] at e; cases e
  | non => exact Val.dat_ok (T := T) s.sub .non e
  | bl b => exact Val.dat_ok (T := T) s.sub (.bl b) e
  | int b => exact Val.dat_ok (T := T) s.sub (.int b) e
  | str b => exact Val.dat_ok (T := T) s.sub (.str b) e
  | ty b => exact Val.dat_ok (T := T) s.sub (.ty b) e
  | tup h r => exact Val.dat_ok s.sub (.tup h r) e
  | lst h r => exact Val.dat_ok s.sub (.lst h r) e
  | fz h r => exact Val.dat_ok s.sub (.fz h r) e
  | kt h r => exact Val.dat_ok s.sub (.kt h r) e
  | dk a b c => exact Val.dat_ok s.sub (.dk a b c) e
  | dt a b c => exact Val.dat_ok s.sub (.dt a b c) e
  | ins a b c d => exact Val.dat_ok s.sub (.ins a b c d) e
  | cls a => exact Val.dat_ok s.sub (.cls a) e
  | err0 a b c => exact Val.dat_ok s.sub (.err0 a b c) e
  | errd a b c d r => exact Val.dat_ok s.sub (.errd a b c d r) e
end

/-! ### operators -/
theorem OpR.or {X : Cx} {f : Value → Value → Sem Value} {r r' : R2} (h : OpR X f r) (h' : OpR X f r') : OpR X f (fun x y H Q => r x y H Q ∨ r' x y H Q) := by
  intro pins s σ H x y v u Q I rx ry q
  rcases q with q | q
  · exact h pins s σ H x y v u Q I rx ry q
  · exact h' pins s σ H x y v u Q I rx ry q
theorem CallR.or {X : Cx} {f : Value} {r r' : List V → Hp → VK → Prop} (h : CallR X f r) (h' : CallR X f r') : CallR X f (fun x H Q => r x H Q ∨ r' x H Q) := by
  intro pins s σ H xs us Q I rx q
  rcases q with q | q
  · exact h pins s σ H xs us Q I rx q
  · exact h' pins s σ H xs us Q I rx q

def vAdd (bx : Bool) (v w : Val) (S : Sto) : Res Val := match v, w with
  | .int i, .int j => .ok (.int (i + j)) S
  | .str i, .str j => if i.length + j.length ≤ sizeLine then .ok (.str (i ++ j)) S else .st
  | .tup xs, .tup ys => if xs.length + ys.length ≤ sizeLine then .ok (.tup (xs ++ ys)) S else .st
  | a, b => match mlstOf S a, mlstOf S b with
    | some xs, some ys => if xs.length + ys.length ≤ sizeLine then mkL bx (xs ++ ys) S else .st
    | _, _ => .st
def vSub (v w : Val) (S : Sto) : Res Val := match v, w with
  | .int i, .int j => .ok (.int (i - j)) S
  | _, _ => .st
def vMul (v w : Val) (S : Sto) : Res Val := match v, w with
  | .int i, .int j => if (-(2 ^ 64) < i ∧ i < 2 ^ 64) ∨ (-(2 ^ 64) < j ∧ j < 2 ^ 64) then .ok (.int (i * j)) S else .st
  | _, _ => .st
def vFdiv (v w : Val) (S : Sto) : Res Val := match v, w with
  | .int i, .int j => if 0 < j ∧ j < 1073741824 then .ok (.int (i / j)) S else .st
  | _, _ => .st
def vMod (v w : Val) (S : Sto) : Res Val := match v, w with
  | .int i, .int j => if 0 < j then .ok (.int (i % j)) S else .st
  | _, _ => .st
def vPow (v w : Val) (S : Sto) : Res Val := match v, w with
  | .int i, .int j => if 0 ≤ j ∧ j ≤ 1000000 ∧ i.natAbs < 2 ^ 64 then .ok (.int (i ^ j.toNat)) S else .st
  | _, _ => .st
def vNeg (v : Val) (S : Sto) : Res Val := match v with
  | .int i => .ok (.int (-i)) S
  | _ => .st
def vLt (v w : Val) (S : Sto) : Res Val := match v, w with
  | .int i, .int j => .ok (.bl (decide (i < j))) S
  | _, _ => .st
def vLe (v w : Val) (S : Sto) : Res Val := match v, w with
  | .int i, .int j => .ok (.bl (decide (i ≤ j))) S
  | _, _ => .st
def vGt (v w : Val) (S : Sto) : Res Val := match v, w with
  | .int i, .int j => .ok (.bl (decide (j < i))) S
  | _, _ => .st
def vGe (v w : Val) (S : Sto) : Res Val := match v, w with
  | .int i, .int j => .ok (.bl (decide (j ≤ i))) S
  | _, _ => .st
def vEq (v w : Val) (S : Sto) : Res Val := match datS S v, datS S w with
  | some d, some e => if SeqAt.shaped d = true ∧ SeqAt.shaped e = true then .ok (.bl (PyData.eqv d e)) S else .st
  | _, _ => .st
def vNe (v w : Val) (S : Sto) : Res Val := match datS S v, datS S w with
  | some d, some e => if SeqAt.shaped d = true ∧ SeqAt.shaped e = true then .ok (.bl (!PyData.eqv d e)) S else .st
  | _, _ => .st
def vIsN (v w : Val) (S : Sto) : Res Val := match v, w with
  | .non, .non => .ok (.bl true) S
  | _, .non => .ok (.bl false) S
  | _, _ => .st
def vNotN (v w : Val) (S : Sto) : Res Val := match v, w with
  | .non, .non => .ok (.bl false) S
  | _, .non => .ok (.bl true) S
  | _, _ => .st
/-- an item of a list or tuple -/
def vIx (v w : Val) (S : Sto) : Res Val := match v, w with
  | .tup xs, .int i => match atI xs i with
    | some u => .ok u S
    | none => .st
  | .kt xs, .int i => match atI xs i with
    | some u => .ok u S
    | none => .st
  | a, .int i => match lstOf S a with
    | some xs => (match atI xs i with
      | some u => .ok u S
      | none => .st)
    | none => .st
  | _, _ => .st
theorem atI_ok {K : PySem.W.Frag} {T : Tbl} {W : Wd} {vs : List Val} {xs : List V} {i : Int} {u : Val} (r : VRs K T W vs xs) (e : atI vs i = some u) : ∃ y, atI xs i = some y ∧ VR K T W u y := by
  unfold atI at e ⊢
  rw [← r.length]
  cases q : ixN vs.length i with
  | none => rw [q] at e; cases e
  | some j =>
    rw [q] at e
    obtain ⟨y, h1, h2⟩ := r.get e
    exact ⟨y, h1, h2⟩
section
variable {K : PySem.W.Frag} {T : Tbl}
theorem o_int {g : Int → Int → V} {f : Int → Int → Val} {op : Val → Val → Sto → Res Val} (hg : ∀ W i j, VR K T W (f i j) (g i j))
    (h : ∀ v w S, (∃ i j, v = .int i ∧ w = .int j ∧ op v w S = .ok (f i j) S) ∨ op v w S = .st) : Op2 K T (rI0 g) op := by
  intro W S H v w x y Q PX s vx vy q
  rcases h v w S with ⟨i, j, rfl, rfl, e⟩ | e
  · rw [e] at q
    cases vx; cases vy
    exact ⟨i, j, rfl, rfl, q.now s _ (hg W i j)⟩
  · rw [e] at q; exact False.elim q
theorem o_intC {C : Int → Int → Prop} {g : Int → Int → V} {f : Int → Int → Val} {op : Val → Val → Sto → Res Val} (hg : ∀ W i j, VR K T W (f i j) (g i j))
    (h : ∀ v w S, (∃ i j, v = .int i ∧ w = .int j ∧ C i j ∧ op v w S = .ok (f i j) S) ∨ op v w S = .st) : Op2 K T (rI C g) op := by
  intro W S H v w x y Q PX s vx vy q
  rcases h v w S with ⟨i, j, rfl, rfl, c, e⟩ | e
  · rw [e] at q
    cases vx; cases vy
    exact ⟨i, j, rfl, rfl, c, q.now s _ (hg W i j)⟩
  · rw [e] at q; exact False.elim q
theorem o_sub : Op2 K T (rI0 fun i j => .int (i - j)) vSub := o_int (f := fun i j => .int (i - j)) (fun _ _ _ => .int _) fun v w S => by
  cases v <;> cases w <;> first | exact .inl ⟨_, _, rfl, rfl, rfl⟩ | exact .inr rfl
theorem o_lt : Op2 K T (rI0 fun i j => .bl (decide (i < j))) vLt := o_int (f := fun i j => .bl (decide (i < j))) (fun _ _ _ => .bl _) fun v w S => by
  cases v <;> cases w <;> first | exact .inl ⟨_, _, rfl, rfl, rfl⟩ | exact .inr rfl
theorem o_le : Op2 K T (rI0 fun i j => .bl (decide (i ≤ j))) vLe := o_int (f := fun i j => .bl (decide (i ≤ j))) (fun _ _ _ => .bl _) fun v w S => by
  cases v <;> cases w <;> first | exact .inl ⟨_, _, rfl, rfl, rfl⟩ | exact .inr rfl
theorem o_gt : Op2 K T (rI0 fun i j => .bl (decide (j < i))) vGt := o_int (f := fun i j => .bl (decide (j < i))) (fun _ _ _ => .bl _) fun v w S => by
  cases v <;> cases w <;> first | exact .inl ⟨_, _, rfl, rfl, rfl⟩ | exact .inr rfl
theorem o_ge : Op2 K T (rI0 fun i j => .bl (decide (j ≤ i))) vGe := o_int (f := fun i j => .bl (decide (j ≤ i))) (fun _ _ _ => .bl _) fun v w S => by
  cases v <;> cases w <;> first | exact .inl ⟨_, _, rfl, rfl, rfl⟩ | exact .inr rfl
theorem o_mul : Op2 K T (rI CMul fun i j => .int (i * j)) vMul := o_intC (f := fun i j => .int (i * j)) (fun _ _ _ => .int _) fun v w S => by
  cases v <;> cases w <;> first | exact .inr rfl | skip
  rename_i i j
  by_cases c : (-(2 ^ 64) < i ∧ i < 2 ^ 64) ∨ (-(2 ^ 64) < j ∧ j < 2 ^ 64)
  · exact .inl ⟨_, _, rfl, rfl, c, if_pos c⟩
  · exact .inr (if_neg c)
theorem o_fdiv : Op2 K T (rI CDiv fun i j => .int (i / j)) vFdiv := o_intC (f := fun i j => .int (i / j)) (fun _ _ _ => .int _) fun v w S => by
  cases v <;> cases w <;> first | exact .inr rfl | skip
  rename_i i j
  by_cases c : 0 < j ∧ j < 1073741824
  · exact .inl ⟨_, _, rfl, rfl, c, if_pos c⟩
  · exact .inr (if_neg c)
theorem o_mod : Op2 K T (rI (fun _ j => 0 < j) fun i j => .int (i % j)) vMod := o_intC (f := fun i j => .int (i % j)) (fun _ _ _ => .int _) fun v w S => by
  cases v <;> cases w <;> first | exact .inr rfl | skip
  rename_i i j
  by_cases c : 0 < j
  · exact .inl ⟨_, _, rfl, rfl, c, if_pos c⟩
  · exact .inr (if_neg c)
theorem o_pow : Op2 K T (rI CPow fun i j => .int (i ^ j.toNat)) vPow := o_intC (f := fun i j => .int (i ^ j.toNat)) (fun _ _ _ => .int _) fun v w S => by
  cases v <;> cases w <;> first | exact .inr rfl | skip
  rename_i i j
  by_cases c : 0 ≤ j ∧ j ≤ 1000000 ∧ i.natAbs < 2 ^ 64
  · exact .inl ⟨_, _, rfl, rfl, c, if_pos c⟩
  · exact .inr (if_neg c)
theorem o_neg : Op1 K T (rU fun i => .int (-i)) vNeg := by
  intro W S H v x Q PX s vx q
  cases vx with
  | int i => exact ⟨i, rfl, q.now s _ (.int _)⟩
  | _ => exact False.elim q
def rAddAll (K : PySem.W.Frag) : R2 := fun x y H Q => rI0 (fun i j => .int (i + j)) x y H Q ∨ (∃ i j, x = .str i ∧ y = .str j ∧ i.length + j.length ≤ sizeLine ∧ Q (.str (i ++ j)) H) ∨ rCatA K x y H Q ∨ rCat x y H Q
theorem add_all {X : Cx} : OpR X (binaryOp .Add) (rAddAll X.K) := OpR.or op_add (OpR.or op_add_str (OpR.or op_catA op_cat))
theorem o_add (bx : Bool) : Op2 K T (rAddAll K) (vAdd bx) := by
  intro W S H v w x y Q PX s vx vy q
  have lists : ∀ {a b : Val} {x y : V}, VR K T W a x → VR K T W b y → RP K T W (match mlstOf S a, mlstOf S b with
      | some xs, some ys => if xs.length + ys.length ≤ sizeLine then mkL bx (xs ++ ys) S else .st
      | _, _ => .st) (VP K T Q) PX → rAddAll K x y H Q := fun {a b x y} vx vy q => by
    cases ea : mlstOf S a with
    | none => simp only [ea] at q; exact False.elim q
    | some xs =>
      cases eb : mlstOf S b with
      | none => simp only [ea, eb] at q; exact False.elim q
      | some ys =>
        simp only [ea, eb] at q
        by_cases hz : xs.length + ys.length ≤ sizeLine
        · rw [if_pos hz] at q
          obtain ⟨a1, x1, rfl, h1, r1⟩ := mlstOf_ok s vx ea
          obtain ⟨a2, x2, rfl, h2, r2⟩ := mlstOf_ok s vy eb
          exact .inr (.inr (.inr ⟨a1, a2, x1, x2, rfl, rfl, h1, h2, by rw [← r1.length, ← r2.length]; exact hz, fun p hp => mkL_ok s (r1.append r2) hp q⟩))
        · rw [if_neg hz] at q; exact False.elim q
  cases v with
  | int i =>
    cases w with
    | int j => cases vx; cases vy; exact .inl ⟨i, j, rfl, rfl, q.now s _ (.int _)⟩
    | _ => exact lists vx vy q
  | str i =>
    cases w with
    | str j =>
      cases vx; cases vy
      unfold vAdd at q
      simp only at q
      by_cases hz : i.length + j.length ≤ sizeLine
      · rw [if_pos hz] at q
        exact .inr (.inl ⟨i, j, rfl, rfl, hz, q.now s _ (.str _)⟩)
      · rw [if_neg hz] at q; exact False.elim q
    | _ => exact lists vx vy q
  | tup xs =>
    cases w with
    | tup ys =>
      unfold vAdd at q
      simp only at q
      by_cases hz : xs.length + ys.length ≤ sizeLine
      · rw [if_pos hz] at q
        have vx' := vx
        have vy' := vy
        obtain ⟨a, x1, rfl, h1, r1⟩ := tup_ok s vx
        obtain ⟨b, y1, rfl, h2, r2⟩ := tup_ok s vy
        refine .inr (.inr (.inl ⟨a, b, x1, y1, rfl, rfl, h1, h2, by rw [← r1.length, ← r2.length]; exact hz, fun e => ?_, fun e1 e2 => ?_, fun e1 e2 p hp => ?_⟩))
        · subst e
          cases r1
          exact q.now s _ vy'
        · subst e2
          cases r2
          rw [List.append_nil] at q
          exact q.now s _ vx'
        · have l : WLe W (W.add p (.tup (x1 ++ y1))) := .add (s.free hp)
          exact q _ _ l (s.add hp) _ (.tup (.inl upd_same) ((r1.append r2).mono l))
      · rw [if_neg hz] at q; exact False.elim q
    | _ => exact lists vx vy q
  | _ => exact lists vx vy q
theorem o_eq : Op2 K T (rEqD K) vEq := by
  intro W S H v w x y Q PX s vx vy q
  unfold vEq at q
  cases e1 : datS S v with
  | none => simp only [e1] at q; exact False.elim q
  | some d =>
    cases e2 : datS S w with
    | none => simp only [e1, e2] at q; exact False.elim q
    | some e =>
      simp only [e1, e2] at q
      by_cases c : SeqAt.shaped d = true ∧ SeqAt.shaped e = true
      · rw [if_pos c] at q
        exact ⟨d, e, datS_ok s vx e1, datS_ok s vy e2, c.1, c.2, q.now s _ (.bl _)⟩
      · rw [if_neg c] at q; exact False.elim q
theorem o_ne : Op2 K T (rNeD K) vNe := by
  intro W S H v w x y Q PX s vx vy q
  unfold vNe at q
  cases e1 : datS S v with
  | none => simp only [e1] at q; exact False.elim q
  | some d =>
    cases e2 : datS S w with
    | none => simp only [e1, e2] at q; exact False.elim q
    | some e =>
      simp only [e1, e2] at q
      by_cases c : SeqAt.shaped d = true ∧ SeqAt.shaped e = true
      · rw [if_pos c] at q
        exact ⟨d, e, datS_ok s vx e1, datS_ok s vy e2, c.1, c.2, q.now s _ (.bl _)⟩
      · rw [if_neg c] at q; exact False.elim q
theorem o_isN : Op2 K T (fun x y H Q => y = .non ∧ Q (.bl (decide (x = .non))) H) vIsN := by
  intro W S H v w x y Q PX s vx vy q
  cases vy with
  | non =>
    refine ⟨rfl, ?_⟩
    cases vx <;> exact q.now s _ (.bl _)
  | _ => cases v <;> exact False.elim q
theorem o_notN : Op2 K T (fun x y H Q => y = .non ∧ Q (.bl (!decide (x = .non))) H) vNotN := by
  intro W S H v w x y Q PX s vx vy q
  cases vy with
  | non =>
    refine ⟨rfl, ?_⟩
    cases vx <;> exact q.now s _ (.bl _)
  | _ => cases v <;> exact False.elim q
theorem o_ix : Op2 K T (fun x y H Q => rIxL K x y H Q ∨ rIxT K x y H Q) vIx := by
  intro W S H v w x y Q PX s vx vy q
  have lists : ∀ {a : Val} {x : V} {i : Int}, VR K T W a x → RP K T W (match lstOf S a with
    | some xs => (match atI xs i with
      | some u => .ok u S
      | none => .st)
    | none => .st) (VP K T Q) PX → rIxL K x (.int i) H Q := fun {a x i} vx q => by
    cases ea : lstOf S a with
    | none => simp only [ea] at q; exact False.elim q
    | some xs =>
      simp only [ea] at q
      cases eb : atI xs i with
      | none => simp only [eb] at q; exact False.elim q
      | some u =>
        simp only [eb] at q
        obtain ⟨a1, x1, rfl, h1, r1⟩ := lstOf_ok s vx ea
        obtain ⟨y1, h2, r2⟩ := atI_ok r1 eb
        exact ⟨a1, x1, i, y1, rfl, rfl, h1, h2, q.now s _ r2⟩
  cases w with
  | int i =>
    cases vy
    cases v with
    | tup vs =>
      unfold vIx at q
      simp only at q
      cases eb : atI vs i with
      | none => simp only [eb] at q; exact False.elim q
      | some u =>
        simp only [eb] at q
        obtain ⟨a1, x1, rfl, h1, r1⟩ := tup_ok s vx
        obtain ⟨y1, h2, r2⟩ := atI_ok r1 eb
        exact .inr ⟨a1, x1, i, y1, rfl, rfl, h1, h2, q.now s _ r2⟩
    | kt vs =>
      unfold vIx at q
      simp only at q
      cases eb : atI vs i with
      | none => simp only [eb] at q; exact False.elim q
      | some u =>
        simp only [eb] at q
        obtain ⟨a1, x1, rfl, h1, r1⟩ := kt_ok s vx
        obtain ⟨y1, h2, r2⟩ := atI_ok r1 eb
        exact .inr ⟨a1, x1, i, y1, rfl, rfl, h1, h2, q.now s _ r2⟩
    | _ => exact .inl (lists vx q)
  | _ => cases v <;> exact False.elim q
end
end PM

/-! PM, part e: defs, calls, instances, comprehensions -/
namespace PM
open PySem PySem.Spec L2

/-! ### a def -/
def spD (K : PySem.W.Frag) (T : Tbl) (n : Nat) (F : FM) : Sp := fun vs H Q E => ∃ W args S, args.length = n ∧ SR K T W S H ∧ VRs K T W args vs ∧ RP K T W (F args S) (VP K T Q) (fun H' c o => E c o H')
def runB (N : Nat) (b : SM) : FM := fun vs S => match b (vs.map Option.some ++ List.replicate (N - vs.length) none) S with
  | .nx _ S' => .ok .non S'
  | .rt v S' => .ok v S'
  | .ex c vs _ S' => .ex c vs S'
  | _ => .st
/-- what a body's context gives -/
structure Bd (X : Cx) (Ew : XW) (k : Nat) : Prop where
  hp : PassesOwn (model X.prog X.w) X.A X.env X.xe
  calm : X.calm = true
  room : Room k X.A
  tk : Takes X Ew
  nd : X.N.Nodup
theorem Bd.hu {X : Cx} {Ew : XW} {k : Nat} (h : Bd X Ew k) : X.A.units + 64 < cLine := h.room.units
theorem Bd.hu1 {X : Cx} {Ew : XW} {k : Nat} (h : Bd X Ew k) : X.A.units + 1 < cLine := Nat.lt_of_le_of_lt (Nat.add_le_add_left (by decide : 1 ≤ 64) _) h.room.units
theorem Bd.hu65 {X : Cx} {Ew : XW} {k : Nat} (h : Bd X Ew k) : X.A.units + 65 < cLine := by have := h.room.un; omega
theorem Bd.mono {X : Cx} {Ew : XW} {j k : Nat} (h : Bd X Ew k) (l : j ≤ k) : Bd X Ew j := ⟨h.hp, h.calm, h.room.mono l, h.tk, h.nd⟩
theorem Bd.blk {X : Cx} {Ew : XW} {k : Nat} (h : Bd X Ew k) (s : Shared) (H : Hp) (scope : Scope) (cenv : Env) (fp : List Addr) : Bd (X.blk s H scope cenv fp) XW0 k :=
  ⟨PassesOwn.never, h.calm, h.room, takes0, h.nd⟩
section
variable {P : Program} {w : World} {K : PySem.W.Frag} {mg : Str → Option Value} {base : Heap} {T : Tbl}
theorem read_body {n : Nat} {N : List Str} {b : SM} {vs : List V} {H : Hp} {Q : VK} {E : XK} (h : spD K T n (runB N.length b) vs H Q E) :
    rdS K T (fun c o _ H' => E c o H') b { nx := fun _ H' => Q .non H', rt := Q } (L2.start N vs) H := by
  obtain ⟨W, args, S, _, s, r, h⟩ := h
  refine ⟨W, _, S, s, ER.start (N := N) r, ?_⟩
  unfold runB at h
  cases q : b (args.map Option.some ++ List.replicate (N.length - args.length) none) S with
  | nx ρ S' => simp only [q] at h; exact fun W' H' σ' l s' e' => h W' H' l s' _ .non
  | rt v S' => simp only [q] at h; exact fun W' H' x l s' vx => h W' H' l s' _ vx
  | ex c vs ρ S' => simp only [q] at h; exact fun W' H' σ' cls od l s' e' x => h W' H' cls od l s' x
  | bk _ _ => simp only [q] at h; exact False.elim h
  | ct _ _ => simp only [q] at h; exact False.elim h
  | st => simp only [q] at h; exact False.elim h
theorem fn_ok {x qual : Str} {st : Stmt} {f : Addr} {fd : FuncData} {N ps : List Str} {k : Nat} {b : SM} (F : Fun K x qual st f fd) (S : FnScope N ps (defScope st))
    (hb : ∀ (cdv : Value) (A : Around) (outer : List Env) (s : Shared) (H : Hp) (E : XK), Bd (cxOf (L2.CX P w) P w K mg base N qual (defScope st) f cdv A outer s H E) (fun c o _ H' => E c o H') k →
      PBm T (cxOf (L2.CX P w) P w K mg base N qual (defScope st) f cdv A outer s H E) (fun c o _ H' => E c o H') (defBody st) b) :
    FnOk P w K mg base (L2.CX P w) (k + 1) f fd ps (spD K T ps.length (runB N.length b)) := by
  refine F.okX S (fun vs H Q E h => ?_) (fun cdv A outer s H vs Q E hr h => ⟨_, hb cdv A outer s H E ⟨passes_of rfl, rfl, hr, takes_of rfl rfl rfl rfl, S.nd⟩, read_body h⟩)
  obtain ⟨W, args, S, hl, _, r, _⟩ := h
  rw [← r.length, hl]
end

/-! ### calls -/
def eCallX (F : FM) (a : AM) : EM := fun ρ S => (a ρ S).bind fun vs S1 => F vs S1
def isInst (c : Nat) (S : Sto) (o : Val) : Bool := match insOf S o with
  | some (c', _) => c' == c
  | none => false
def eMeth (c : Nat) (F : FM) (o : EM) (a : AM) : EM := fun ρ S => (o ρ S).bind fun v S1 => if isInst c S1 v then (a ρ S1).bind fun vs S2 => noEx (F (v :: vs) S2) else .st
def eMethX (c : Nat) (F : FM) (o : EM) (a : AM) : EM := fun ρ S => (o ρ S).bind fun v S1 => if isInst c S1 v then (a ρ S1).bind fun vs S2 => F (v :: vs) S2 else .st
def eMake (c : Nat) (F : FM) (a : AM) : EM := fun ρ S => (a ρ S).bind fun vs S1 => (noEx (F (.loc S1.next :: vs) (S1.alloc (.ins c [])))).bind fun r S2 => match r with
  | .non => .ok (.loc S1.next) S2
  | _ => .st
def eMakeX (c : Nat) (F : FM) (a : AM) : EM := fun ρ S => (a ρ S).bind fun vs S1 => (F (.loc S1.next :: vs) (S1.alloc (.ins c []))).bind fun r S2 => match r with
  | .non => .ok (.loc S1.next) S2
  | _ => .st
/-- a store's object handed out for good -/
def giveUp (v : Val) (S : Sto) : Res Val := match v with
  | .loc k => match S.objs k with
    | some (.lst xs) => .ok (.lst xs) (S.drop k)
    | some (.dk false ks vs) => .ok (.dk ks vs) (S.drop k)
    | some (.dt false ks vs) => .ok (.dt ks vs) (S.drop k)
    | some (.ins c vs) => .ok (.ins c vs) (S.drop k)
    | _ => .st
  | v => .ok v S
def eFrz (f : EM) : EM := fun ρ S => (f ρ S).bind giveUp
/-- what is known of a class -/
structure CO (K : PySem.W.Frag) (T : Tbl) (c : Nat) (C : Addr) : Prop where
  at_ : T.cl c = some C
  cls : Cls K C
  nd : (T.fl c).Nodup
  na : ∀ f ∈ T.fl c, NoAttr K C f
  len : (T.fl c).length < 1000
theorem lookup_zip : ∀ {fs : List Str} {xs : List V} {i : Nat} {f : Str}, fs.Nodup → fs[i]? = some f → (fs.zip xs).lookup f = xs[i]?
  | [], _, _, _, _, h => by simp at h
  | _ :: _, [], i, _, _, _ => by simp
  | g :: fs, x :: xs, 0, f, nd, h => by
    simp only [List.getElem?_cons_zero, Option.some.injEq] at h
    subst h
    simp [List.lookup]
  | g :: fs, x :: xs, i + 1, f, nd, h => by
    have h' : fs[i]? = some f := by simpa using h
    have ne : f ≠ g := fun e => (List.nodup_cons.mp nd).1 (e ▸ List.mem_of_getElem? h')
    have hb : (f == g) = false := beq_eq_false_iff_ne.mpr ne
    simp only [List.zip_cons_cons, List.lookup, hb, List.getElem?_cons_succ]
    exact lookup_zip (List.nodup_cons.mp nd).2 h'
theorem lookup_none : ∀ {fs : List Str} {xs : List V} {f : Str}, f ∉ fs → (fs.zip xs).lookup f = none
  | [], _, _, _ => by simp
  | _ :: _, [], _, _ => by simp
  | g :: fs, x :: xs, f, h => by
    have hb : (f == g) = false := beq_eq_false_iff_ne.mpr fun e => h (by rw [e]; exact List.mem_cons_self)
    simp only [List.zip_cons_cons, List.lookup, hb]
    exact lookup_none fun z => h (List.mem_cons_of_mem _ z)
theorem putF_set : ∀ {fs : List Str} {xs : List V} {i : Nat} {f : Str} {y : V}, fs.Nodup → fs[i]? = some f → i < xs.length → putF f y (fs.zip xs) = fs.zip (xs.set i y)
  | [], _, _, _, _, _, h, _ => by simp at h
  | _ :: _, [], _, _, _, _, _, h => by simp at h
  | g :: fs, x :: xs, 0, f, y, nd, h, _ => by
    simp only [List.getElem?_cons_zero, Option.some.injEq] at h
    subst h
    simp [putF]
  | g :: fs, x :: xs, i + 1, f, y, nd, h, hi => by
    have h' : fs[i]? = some f := by simpa using h
    have ne : g ≠ f := fun e => (List.nodup_cons.mp nd).1 (e ▸ List.mem_of_getElem? h')
    have ih := putF_set (y := y) (List.nodup_cons.mp nd).2 h' (by simpa using hi)
    simp only [List.zip_cons_cons, putF, if_neg ne, List.set_cons_succ, ih]
theorem putF_new : ∀ {fs : List Str} {xs : List V} {f : Str} {y : V}, fs.Nodup → fs[xs.length]? = some f → putF f y (fs.zip xs) = fs.zip (xs ++ [y])
  | [], _, _, _, _, h => by simp at h
  | g :: fs, [], f, y, nd, h => by
    simp only [List.length_nil, List.getElem?_cons_zero, Option.some.injEq] at h
    subst h
    simp [putF]
  | g :: fs, x :: xs, f, y, nd, h => by
    have h' : fs[xs.length]? = some f := by simpa using h
    have ne : g ≠ f := fun e => (List.nodup_cons.mp nd).1 (e ▸ List.mem_of_getElem? h')
    have ih := putF_new (y := y) (List.nodup_cons.mp nd).2 h'
    simp only [List.zip_cons_cons, putF, if_neg ne, List.cons_append, ih]
def eAttr (c i : Nat) (o : EM) : EM := fun ρ S => (o ρ S).bind fun v S1 => match insOf S1 v with
  | some (c', vs) => if c' = c then (match vs[i]? with
    | some u => .ok u S1
    | none => .st) else .st
  | none => .st
def sAttr (c i : Nat) (o e : EM) : SM := fun ρ S => (e ρ S).toS ρ fun u S1 => (o ρ S1).toS ρ fun v S2 => match v with
  | .loc k => (match S2.objs k with
    | some (.ins c' vs) => if c' = c then (if i < vs.length then .nx ρ (S2.put k (.ins c (vs.set i u))) else if i = vs.length then .nx ρ (S2.put k (.ins c (vs ++ [u]))) else .st) else .st
    | _ => .st)
  | _ => .st

section
variable {T : Tbl} {X : Cx} {Ew : XW} {k : Nat} {f C : Addr} {fd : FuncData} {ps : List Str} {n : Nat} {F : FM} {x m fl : Str} {p pos apos : Pos} {e o value : Expr} {es : List Expr} {fo fe : EM} {fs : AM} {c i : Nat}
theorem spD_of {W : Wd} {S : Sto} {H : Hp} {args : List Val} {xs : List V} {Q : VK} {PX : Hp → Value → Option Addr → Prop} {E : XK} (s : SR X.K T W S H) (r : VRs X.K T W args xs) (hl : args.length = n) (h : RP X.K T W (F args S) (VP X.K T Q) PX) (hE : ∀ H' c o, PX H' c o → E c o H') :
    spD X.K T n F xs H Q E := ⟨W, args, S, hl, s, r, h.imp (fun _ _ _ _ _ _ q => q) hE⟩
theorem spD_no {W : Wd} {S : Sto} {H : Hp} {args : List Val} {xs : List V} {Q : VK} {PX : Hp → Value → Option Addr → Prop} (s : SR X.K T W S H) (r : VRs X.K T W args xs) (hl : args.length = n) (h : RP X.K T W (noEx (F args S)) (VP X.K T Q) PX) :
    spD X.K T n F xs H Q E0 := ⟨W, args, S, hl, s, r, h.noEx⟩
def eCallN (n : Nat) (F : FM) (a : AM) : EM := fun ρ S => (a ρ S).bind fun vs S1 => if vs.length = n then noEx (F vs S1) else .st
theorem m_call (G : FnOk X.prog X.w X.K X.mg X.base (L2.CX X.prog X.w) k f fd ps (spD X.K T n F)) (hr : Room k X.A) (hg : Gl X x) (hm : X.mg x = some (.ref f)) (hk : PySem.W.keepIn X.K (.ref f) = true) (hb : Binds X.K fd ps [])
    (ha : PAm T X Ew (e :: es) fs) (hdb : (x == ("__debug__" : Str)) = false := by decide) (he : starEach (e :: es) X.env = (false, eval e X.env) :: starEach es X.env := by rfl) (hpl : (backTo pos (starEach es X.env)).any (·.1) = false := by rfl) :
    PEm T X Ew (.Call (.Name x p) (e :: es) [] pos) (eCallN n F fs) := by
  refine PE.to (pe_call G hr hg hm hk hb .nil passL ha hdb he hpl) fun σ H Q h => ?_
  obtain ⟨W, ρ, S, s, er, h⟩ := h
  refine ⟨W, ρ, S, s, er, RP.bind h fun W1 S1 H1 vs l1 s1 h1 xs vx => ?_⟩
  show spD X.K T n F (xs ++ []) H1 Q E0
  rw [List.append_nil]
  by_cases hl : vs.length = n
  · rw [if_pos hl] at h1; exact spD_no s1 vx hl h1
  · rw [if_neg hl] at h1; exact False.elim h1
theorem m_call0 (G : FnOk X.prog X.w X.K X.mg X.base (L2.CX X.prog X.w) k f fd ps (spD X.K T n F)) (hr : Room k X.A) (hg : Gl X x) (hm : X.mg x = some (.ref f)) (hk : PySem.W.keepIn X.K (.ref f) = true) (hb : Binds X.K fd ps [])
    (hdb : (x == ("__debug__" : Str)) = false := by decide) : PEm T X Ew (.Call (.Name x p) [] [] pos) (eCallN n F aNil) := by
  refine PE.to (pe_call0 G hr hg hm hk hb .nil passL hdb) fun σ H Q h => ?_
  obtain ⟨W, ρ, S, s, er, h⟩ := h
  have h1 : RP X.K T W (if ([] : List Val).length = n then noEx (F [] S) else .st) (VP X.K T Q) (fun H' c o => Ew c o σ H') := h
  show spD X.K T n F [] H Q E0
  by_cases hl : ([] : List Val).length = n
  · rw [if_pos hl] at h1; exact spD_no s .nil hl h1
  · rw [if_neg hl] at h1; exact False.elim h1
/-- what is raised goes on -/
def eCallXN (n : Nat) (F : FM) (a : AM) : EM := fun ρ S => (a ρ S).bind fun vs S1 => if vs.length = n then F vs S1 else .st
theorem m_callX (tk : Takes X Ew) (G : FnOk X.prog X.w X.K X.mg X.base (L2.CX X.prog X.w) k f fd ps (spD X.K T n F)) (hr : Room k X.A) (hg : Gl X x) (hm : X.mg x = some (.ref f)) (hk : PySem.W.keepIn X.K (.ref f) = true) (hb : Binds X.K fd ps [])
    (ha : PAm T X Ew (e :: es) fs) (hdb : (x == ("__debug__" : Str)) = false := by decide) (he : starEach (e :: es) X.env = (false, eval e X.env) :: starEach es X.env := by rfl) (hpl : (backTo pos (starEach es X.env)).any (·.1) = false := by rfl) :
    PEm T X Ew (.Call (.Name x p) (e :: es) [] pos) (eCallXN n F fs) := by
  refine PE.to (pe_callS (E := WE Ew) G hr hg hm hk hb (fun σ => passAt tk σ) ha hdb he hpl) fun σ H Q h => ?_
  obtain ⟨W, ρ, S, s, er, h⟩ := h
  refine ⟨W, ρ, S, s, er, RP.bind h fun W1 S1 H1 vs l1 s1 h1 xs vx => ?_⟩
  by_cases hl : vs.length = n
  · rw [if_pos hl] at h1; exact spD_of s1 vx hl h1 fun _ _ _ q => q
  · rw [if_neg hl] at h1; exact False.elim h1
theorem isInst_ok {K : PySem.W.Frag} {W : Wd} {S : Sto} {H : Hp} {v : Val} {y : V} (O : CO K T c C) (s : SR K T W S H) (r : VR K T W v y) (h : isInst c S v = true) : ∃ a dx xs, y = .ref a ∧ H a = some (.ins C dx ((T.fl c).zip xs)) := by
  unfold isInst at h
  cases q : insOf S v with
  | none => simp only [q] at h; cases h
  | some z =>
    obtain ⟨c', vs⟩ := z
    simp only [q] at h
    obtain rfl : c' = c := by simpa using h
    obtain ⟨a, C', dx, xs, rfl, hc, _, hH, _⟩ := insOf_ok s r q
    rw [O.at_] at hc
    cases hc
    exact ⟨a, dx, xs, rfl, hH⟩
def eMethN (n c : Nat) (F : FM) (o : EM) (a : AM) : EM := fun ρ S => (o ρ S).bind fun v S1 => if isInst c S1 v then (a ρ S1).bind fun vs S2 => if (v :: vs).length = n then noEx (F (v :: vs) S2) else .st else .st
theorem m_meth {pl : Sem Bool} (O : CO X.K T c C) (hmn : m ∉ T.fl c) (ho : PEm T X Ew o fo) (hm : Meth X.K C m f) (G : FnOk X.prog X.w X.K X.mg X.base (L2.CX X.prog X.w) k f fd ps (spD X.K T n F)) (hr : Room k X.A) (hb : Binds X.K fd ps [])
    (ha : PAm T X Ew (e :: es) fs)
    (hst : starEach (e :: es) X.env = (false, eval e X.env) :: starEach es X.env := by rfl) (hpl : (backTo pos (starEach es X.env)).any (·.1) = false := by rfl)
    (ht : eval (.Call (.Attribute o m apos) (e :: es) [] pos) X.env = (do
      let ov ← eval o X.env
      standAt apos.atName
      let (f, first) ← holding [ov] (getMethod ov m pl)
      callWith pos f first (backTo pos (starEach (e :: es) X.env)) (backToKw pos (keywordEach [] X.env))) := by rfl) :
    PEm T X Ew (.Call (.Attribute o m apos) (e :: es) [] pos) (eMethN n c F fo fs) := by
  refine PE.to (pe_meth ho O.cls hm G hr hb .nil passL ha hst hpl ht) fun σ H Q h => ?_
  obtain ⟨W, ρ, S, s, er, h⟩ := h
  refine ⟨W, ρ, S, s, er, RP.bind h fun W1 S1 H1 v l1 s1 h1 y vy => ?_⟩
  cases hi : isInst c S1 v with
  | false => rw [hi] at h1; exact False.elim h1
  | true =>
    rw [hi, if_pos rfl] at h1
    obtain ⟨a, dx, xs, rfl, hH⟩ := isInst_ok O s1 vy hi
    refine ⟨a, dx, _, rfl, hH, lookup_none hmn, W1, ρ, S1, s1, er.mono l1, RP.bind h1 fun W2 S2 H2 vs l2 s2 h2 zs vz => ?_⟩
    show spD X.K T n F (.ref a :: (zs ++ [])) H2 Q E0
    rw [List.append_nil]
    by_cases hl : (v :: vs).length = n
    · rw [if_pos hl] at h2; exact spD_no s2 (.cons (vy.mono l2) vz) hl h2
    · rw [if_neg hl] at h2; exact False.elim h2
theorem m_meth0 {pl : Sem Bool} (O : CO X.K T c C) (hmn : m ∉ T.fl c) (ho : PEm T X Ew o fo) (hm : Meth X.K C m f) (G : FnOk X.prog X.w X.K X.mg X.base (L2.CX X.prog X.w) k f fd ps (spD X.K T n F)) (hr : Room k X.A) (hb : Binds X.K fd ps [])
    (ht : eval (.Call (.Attribute o m apos) [] [] pos) X.env = (do
      let ov ← eval o X.env
      standAt apos.atName
      let (f, first) ← holding [ov] (getMethod ov m pl)
      callWith pos f first (backTo pos (starEach [] X.env)) (backToKw pos (keywordEach [] X.env))) := by rfl) :
    PEm T X Ew (.Call (.Attribute o m apos) [] [] pos) (eMethN n c F fo aNil) := by
  refine PE.to (pe_meth0 ho O.cls hm G hr hb .nil passL ht) fun σ H Q h => ?_
  obtain ⟨W, ρ, S, s, er, h⟩ := h
  refine ⟨W, ρ, S, s, er, RP.bind h fun W1 S1 H1 v l1 s1 h1 y vy => ?_⟩
  cases hi : isInst c S1 v with
  | false => rw [hi] at h1; exact False.elim h1
  | true =>
    rw [hi, if_pos rfl] at h1
    obtain ⟨a, dx, xs, rfl, hH⟩ := isInst_ok O s1 vy hi
    have h2 : RP X.K T W1 (if [v].length = n then noEx (F [v] S1) else .st) (VP X.K T Q) (fun H' c o => Ew c o σ H') := h1
    refine ⟨a, dx, _, rfl, hH, lookup_none hmn, ?_⟩
    show spD X.K T n F [.ref a] H1 Q E0
    by_cases hl : [v].length = n
    · rw [if_pos hl] at h2; exact spD_no s1 (.cons vy .nil) hl h2
    · rw [if_neg hl] at h2; exact False.elim h2
def eMakeN (n c : Nat) (F : FM) (a : AM) : EM := fun ρ S => (a ρ S).bind fun vs S1 => if (Val.loc S1.next :: vs).length = n then (noEx (F (.loc S1.next :: vs) (S1.alloc (.ins c [])))).bind fun r S2 => (match r with
  | .non => .ok (.loc S1.next) S2
  | _ => .st) else .st
theorem m_make (O : CO X.K T c C) (M : Mk X.K C f) (G : FnOk X.prog X.w X.K X.mg X.base (L2.CX X.prog X.w) k f fd ps (spD X.K T n F)) (hr : Room (k + 1) X.A) (hg : Gl X x) (hm : X.mg x = some (.ref C)) (hb : Binds X.K fd ps [])
    (ha : PAm T X Ew (e :: es) fs) (hdb : (x == ("__debug__" : Str)) = false := by decide) (he : starEach (e :: es) X.env = (false, eval e X.env) :: starEach es X.env := by rfl) (hpl : (backTo pos (starEach es X.env)).any (·.1) = false := by rfl) :
    PEm T X Ew (.Call (.Name x p) (e :: es) [] pos) (eMakeN n c F fs) := by
  refine PE.to (pe_make M G hr hg hm hb .nil passL ha hdb he hpl) fun σ H Q h => ?_
  obtain ⟨W, ρ, S, s, er, h⟩ := h
  refine ⟨W, ρ, S, s, er, RP.bind h fun W1 S1 H1 vs l1 s1 h1 xs vx => fun q dx hq hdx hne => ?_⟩
  show spD X.K T n F (.ref q :: (xs ++ [])) (upd (upd H1 dx (.own q)) q (.ins C dx [])) (fun v H2 => v = .non ∧ Q (.ref q) H2) E0
  rw [List.append_nil]
  by_cases hl : (Val.loc S1.next :: vs).length = n
  · rw [if_pos hl] at h1
    have s2 := s1.beside (o := .own q) hdx
    have hq' : (upd H1 dx (.own q)) q = none := by rw [upd_ne hne.symm]; exact hq
    have s3 : SR X.K T (W1.box q) (S1.alloc (.ins c [])) (upd (upd H1 dx (.own q)) q (.ins C dx [])) :=
      s2.box (b := .ins c []) hq' ⟨C, dx, [], O.at_, Nat.zero_le _, by rw [upd_same]; simp, .nil⟩
    have vl : VR X.K T (W1.box q) (.loc S1.next) (.ref q) := by
      have z : VR X.K T (W1.box q) (.loc W1.n) (.ref ((W1.box q).m W1.n)) := .loc (Nat.lt_succ_self _)
      rw [Wd.box_at] at z
      rw [← s1.nx]; exact z
    refine spD_no (PX := fun H' c o => Ew c o σ H') s3 (.cons vl (vx.mono .box)) hl ?_
    refine RP.bind (h1.wle .box) fun W2 S2 H2 r l2 s4 h2 y vy => ?_
    cases vy with
    | non => exact ⟨rfl, h2.now s4 _ (vl.mono l2)⟩
    | _ => exact False.elim h2
  · rw [if_neg hl] at h1; exact False.elim h1
theorem m_frz (h : PEm T X Ew e fe) : PEm T X Ew e (eFrz fe) := by
  refine PE.to h fun σ H Q h => ?_
  obtain ⟨W, ρ, S, s, er, h⟩ := h
  refine ⟨W, ρ, S, s, er, RP.bind h fun W1 S1 H1 v l1 s1 h1 y vy => ?_⟩
  cases vy with
  | @loc k hk =>
    unfold giveUp at h1
    cases q : S1.objs k with
    | none => simp only [q] at h1; exact False.elim h1
    | some b =>
      have A := s1.at_ k b q
      cases b with
      | lst xs =>
        simp only [q] at h1
        obtain ⟨zs, hz, r⟩ := A
        have l : WLe W1 (W1.add (W1.m k) (.lst zs)) := .add (s1.out k _ q rfl)
        exact h1 _ _ l (s1.frz q hz) _ (.lst upd_same (r.mono l))
      | ins c vs =>
        simp only [q] at h1
        obtain ⟨C, dx, zs, hc, hl, hz, r⟩ := A
        have l : WLe W1 (W1.add (W1.m k) (.ins C dx ((T.fl c).zip zs))) := .add (s1.out k _ q rfl)
        exact h1 _ _ l (s1.frz q hz) _ (.ins hc hl upd_same (r.mono l))
      | dk lk ks vs =>
        cases lk with
        | true => simp only [q] at h1; exact False.elim h1
        | false =>
          simp only [q] at h1
          obtain ⟨zs, hl, hz, r⟩ := A
          rw [if_neg Bool.false_ne_true] at hz
          have l : WLe W1 (W1.add (W1.m k) (.dK (ks.zip zs))) := .add (s1.out k _ q rfl)
          exact h1 _ _ l (s1.frz q hz) _ (.dk hl upd_same (r.mono l))
      | dt lk ks vs =>
        cases lk with
        | true => simp only [q] at h1; exact False.elim h1
        | false =>
          simp only [q] at h1
          obtain ⟨zs, hl, hz, r⟩ := A
          rw [if_neg Bool.false_ne_true] at hz
          have l : WLe W1 (W1.add (W1.m k) (.dT (ks.zip zs))) := .add (s1.out k _ q rfl)
          exact h1 _ _ l (s1.frz q hz) _ (.dt hl upd_same (r.mono l))
  | non => exact h1.now s1 _ .non
  | bl b => exact h1.now s1 _ (.bl b)
  | int b => exact h1.now s1 _ (.int b)
  | str b => exact h1.now s1 _ (.str b)
  | ty b => exact h1.now s1 _ (.ty b)
  | tup h r => exact h1.now s1 _ (.tup h r)
  | lst h r => exact h1.now s1 _ (.lst h r)
  | fz h r => exact h1.now s1 _ (.fz h r)
  | kt h r => exact h1.now s1 _ (.kt h r)
  | dk a b c => exact h1.now s1 _ (.dk a b c)
  | dt a b c => exact h1.now s1 _ (.dt a b c)
  | ins a b c d => exact h1.now s1 _ (.ins a b c d)
  | cls a => exact h1.now s1 _ (.cls a)
  | err0 a b c => exact h1.now s1 _ (.err0 a b c)
  | errd a b c d r => exact h1.now s1 _ (.errd a b c d r)
theorem m_attr (O : CO X.K T c C) (hi : (T.fl c)[i]? = some fl) (ho : PEm T X Ew o fo) (hb : attributeBase o fl X.env (eval o X.env) = eval o X.env := by rfl) : PEm T X Ew (.Attribute o fl pos) (eAttr c i fo) := by
  refine PE.to (pe_fld ho hb) fun σ H Q h => ?_
  obtain ⟨W, ρ, S, s, er, h⟩ := h
  refine ⟨W, ρ, S, s, er, RP.bind h fun W1 S1 H1 v l1 s1 h1 y vy => ?_⟩
  cases q : insOf S1 v with
  | none => simp only [q] at h1; exact False.elim h1
  | some z =>
    obtain ⟨c', vs⟩ := z
    simp only [q] at h1
    by_cases hc : c' = c
    · subst hc
      rw [if_pos rfl] at h1
      cases q2 : vs[i]? with
      | none => simp only [q2] at h1; exact False.elim h1
      | some u =>
        simp only [q2] at h1
        obtain ⟨a, C', dx, xs, rfl, hcl, hle, hH, r⟩ := insOf_ok s1 vy q
        rw [O.at_] at hcl
        cases hcl
        obtain ⟨yu, e1, vu⟩ := r.get q2
        exact ⟨a, C, dx, _, yu, rfl, hH, O.cls, O.na _ (List.mem_of_getElem? hi), (lookup_zip O.nd hi).trans e1, h1.now s1 _ vu⟩
    · rw [if_neg hc] at h1; exact False.elim h1
theorem ms_attr {pos' : Pos} (O : CO X.K T c C) (hi : (T.fl c)[i]? = some fl) (ho : PEm T X Ew o fo) (hv : PEm T X Ew value fe) (hs : swapsWith value (some (.Attribute o fl pos')) pos.line X.env = pure false := by rfl) :
    PSm T X Ew (.Assign [.Attribute o fl pos'] value pos) (sAttr c i fo fe) := by
  refine PS.to (ps_fld ho hv hs) fun D σ H ⟨W, ρ, S, sr, er, h⟩ => ⟨W, ρ, S, sr, er, SPo.of er h fun W1 S1 H1 u l1 s1 h1 y vy => ⟨W1, ρ, S1, s1, er.mono l1, SPo.of (er.mono l1) h1 fun W2 S2 H2 v l2 s2 h2 z vz => ?_⟩⟩
  cases vz with
  | @loc k hk =>
    simp only at h2
    cases q : S2.objs k with
    | none => simp only [q] at h2; exact False.elim h2
    | some b =>
      cases b with
      | ins c' vs =>
        simp only [q] at h2
        by_cases hc : c' = c
        · subst hc
          rw [if_pos rfl] at h2
          obtain ⟨C', dx, xs, hcl, hle, hH, r⟩ := s2.at_ k _ q
          rw [O.at_] at hcl
          cases hcl
          have hlt := O.len
          refine ⟨_, C, dx, _, rfl, hH, O.cls, O.na _ (List.mem_of_getElem? hi), ?_, ?_⟩
          · rw [List.length_zip]; omega
          · by_cases h3 : i < vs.length
            · rw [if_pos h3] at h2
              have h3' : i < xs.length := by rw [← r.length]; exact h3
              refine h2 W2 _ σ (.refl _) (s2.put q ⟨C, dx, xs.set i y, O.at_, by rw [List.length_set]; exact hle, ?_, VRs.set (vy.mono l2) i r⟩) ((er.mono l1).mono l2)
              rw [upd_same, putF_set O.nd hi h3']
            · rw [if_neg h3] at h2
              by_cases h4 : i = vs.length
              · subst h4
                rw [if_pos rfl] at h2
                have hi' : (T.fl c')[xs.length]? = some fl := by rw [← r.length]; exact hi
                refine h2 W2 _ σ (.refl _) (s2.put q ⟨C, dx, xs ++ [y], O.at_, ?_, ?_, r.append (.cons (vy.mono l2) .nil)⟩) ((er.mono l1).mono l2)
                · have := (List.getElem?_eq_some_iff.mp hi').1
                  rw [List.length_append, List.length_singleton]; omega
                · rw [upd_same, putF_new O.nd hi']
              · rw [if_neg h4] at h2; exact False.elim h2
        · rw [if_neg hc] at h2; exact False.elim h2
      | _ => simp only [q] at h2; exact False.elim h2
  | _ => exact False.elim h2
end

/-! ### built-ins -/
section
variable {T : Tbl} {X : Cx} {Ew : XW} {x : Str} {p pos apos cpos : Pos} {e o : Expr} {es : List Expr} {fo : EM} {fs : AM} {id Ty : String} {r : List V → Hp → VK → Prop} {op : List Val → Sto → Res Val}
theorem rd_L (ok : OpL X.K T r op) {σ : L2.St} {H : Hp} {Q : VK} (h : rdE X.K T Ew (eBI op fs) σ H Q) : tCB r (rdA X.K T Ew fs) σ H Q := by
  obtain ⟨W, ρ, S, s, er, h⟩ := h
  exact ⟨W, ρ, S, s, er, RP.bind h fun W1 S1 H1 vs l1 s1 h1 xs vx => ok W1 S1 H1 vs xs Q _ s1 vx h1⟩
theorem m_callB (hc : CallR X (.builtin id) r) (ok : OpL X.K T r op) (hg : Gl X x) (hm : X.mg x = none) (hv : bootBuiltins x = some (.builtin id)) (ha : PAm T X Ew (e :: es) fs) (hn : x ≠ "__name__" := by decide) (hdb : (x == ("__debug__" : Str)) = false := by decide)
    (he : starEach (e :: es) X.env = (false, eval e X.env) :: starEach es X.env := by rfl) (hpl : (backTo pos (starEach es X.env)).any (·.1) = false := by rfl) : PEm T X Ew (.Call (.Name x p) (e :: es) [] pos) (eBI op fs) :=
  PE.to (pe_callB hc hg hm hv ha hn hdb he hpl) fun _ _ _ h => rd_L ok h
theorem m_callTy (hc : CallR X (.type Ty) r) (ok : OpL X.K T r op) (hg : Gl X x) (hm : X.mg x = none) (hv : bootBuiltins x = some (.type Ty)) (ha : PAm T X Ew (e :: es) fs) (hn : x ≠ "__name__" := by decide) (hdb : (x == ("__debug__" : Str)) = false := by decide)
    (he : starEach (e :: es) X.env = (false, eval e X.env) :: starEach es X.env := by rfl) (hpl : (backTo pos (starEach es X.env)).any (·.1) = false := by rfl) : PEm T X Ew (.Call (.Name x p) (e :: es) [] pos) (eBI op fs) :=
  PE.to (pe_callTy hc hg hm hv ha hn hdb he hpl) fun _ _ _ h => rd_L ok h
def OpM (K : PySem.W.Frag) (T : Tbl) (r : V → List V → Hp → VK → Prop) (op : Val → List Val → Sto → Res Val) : Prop := ∀ W S H v y vs xs (Q : VK) (PX : Hp → Value → Option Addr → Prop), SR K T W S H → VR K T W v y → VRs K T W vs xs →
  RP K T W (op v vs S) (VP K T Q) PX → r y xs H Q
def eBM (chk : Val → Sto → Bool) (op : Val → List Val → Sto → Res Val) (o : EM) (a : AM) : EM := fun ρ S => (o ρ S).bind fun v S1 => if chk v S1 then (a ρ S1).bind fun vs S2 => op v vs S2 else .st
theorem m_bm {name : Str} {rm : V → List V → Hp → VK → Prop} {chk : Val → Sto → Bool} {om : Val → List Val → Sto → Res Val} (pa : PlainAttrs Ty) (slot : Slot Ty name id) (hty : typeOf (.builtin id) = pure (.type "method_descriptor")) (hm : MtR X id rm)
    (hck : ∀ W S H v y, SR X.K T W S H → VR X.K T W v y → chk v S = true → tyV X.K Ty y H) (ok : OpM X.K T rm om) (ho : PEm T X Ew o fo) (ha : PAm T X Ew (e :: es) fs)
    (hbase : attributeBase o name X.env (eval o X.env) = eval o X.env := by rfl)
    (hfew : ((backTo cpos (starEach (e :: es) X.env)).all (fun x => !x.1) && (backToKw cpos (keywordEach [] X.env)).all (fun x => x.1.isSome)
      && decide ((e :: es).length + ([] : List Keyword).length + (if ([] : List Keyword).isEmpty then 0 else 1) < 30)) = true := by rfl)
    (hline : (apos.endLine == cpos.line) = true := by rfl) (hs : starEach (e :: es) X.env = (false, eval e X.env) :: starEach es X.env := by rfl) (hplain : (backTo cpos (starEach es X.env)).any (·.1) = false := by rfl) :
    PEm T X Ew (.Call (.Attribute o name apos) (e :: es) [] cpos) (eBM chk om fo fs) := by
  refine PE.to (pe_bm pa slot hty hm ho ha hbase hfew hline hs hplain) fun σ H Q h => ?_
  obtain ⟨W, ρ, S, s, er, h⟩ := h
  refine ⟨W, ρ, S, s, er, RP.bind h fun W1 S1 H1 v l1 s1 h1 y vy => ?_⟩
  cases hc : chk v S1 with
  | false => rw [hc] at h1; exact False.elim h1
  | true =>
    rw [hc, if_pos rfl] at h1
    exact ⟨hck W1 S1 H1 v y s1 vy hc, W1, ρ, S1, s1, er.mono l1, RP.bind h1 fun W2 S2 H2 vs l2 s2 h2 xs vx => ok W2 S2 H2 v y vs xs Q _ s2 (vy.mono l2) vx h2⟩
end

/-! ### list comprehensions -/
open Classical in
noncomputable def lcGo (src : Sto → Prop) (tg : Tgt) (tst : BM) (elt : EM) (n0 : Nat) (ρ0 : Ev) : List Val → Sto → Res Unit
  | [], S => if src S then .ok () S else .st
  | v :: vs, S => if src S then (match tg.set v ρ0 with
      | some ρ1 => (noEx (tst ρ1 S)).bind fun k S1 => if k then (noEx (elt ρ1 S1)).bind fun u S2 => (match S2.objs n0 with
          | some (.lst acc) => if acc.length < sizeLine then lcGo src tg tst elt n0 ρ0 vs (S2.put n0 (.lst (acc ++ [u]))) else .st
          | _ => .st) else lcGo src tg tst elt n0 ρ0 vs S1
      | none => .st) else .st
def lcEnd (bx : Bool) (n0 : Nat) (S : Sto) : Res Val := match S.objs n0 with
  | some (.lst acc) => if bx then .ok (.loc n0) S else .ok (.lst acc) (S.drop n0)
  | _ => .st
noncomputable def eLc (bx : Bool) (it : IM) (tg : Tgt) (tst : BM) (elt : EM) (ws : List Nat) : EM := fun ρ S => (it ρ S).bind fun iv S1 =>
  (lcGo iv.src tg tst elt S1.next (wipeE ρ ws) iv.items (S1.alloc (.lst []))).bind fun _ S2 => lcEnd bx S1.next S2
def tYesM : BM := fun _ S => .ok true S
section
variable {T : Tbl} {X : Cx} {Ew : XW} {elt tgE iter c : Expr} {ifs : List Expr} {scope : Scope} {own : List (Str × Nat)} {pos : Pos} {it : IM} {tg : Tgt} {tst : BM} {fe : EM} {bx : Bool}
theorem rd_lc (hsl : ∀ i ∈ tg.slots, i ∈ own.map (·.2)) {σ : L2.St} {H : Hp} {Q : VK} (h : rdE X.K T Ew (eLc bx it tg tst fe (own.map (·.2))) σ H Q) :
    tLc (rdI X.K T Ew it) (tg.g X.K) (rdT X.K T XW0 tst) (rdE X.K T XW0 fe) (own.map (·.2)) σ H Q := by
  obtain ⟨W, ρ, S, sr, er, h⟩ := h
  refine ⟨W, ρ, S, sr, er, RP.bind h fun W1 S1 H1 iv l1 s1 h1 J hJ D hD => ?_⟩
  have sB : SR X.K T (W1.box D) (S1.alloc (.lst [])) (upd H1 D (.lst [])) := s1.box (b := .lst []) hD ⟨[], upd_same, .nil⟩
  have eD : (W1.box D).m S1.next = D := by rw [← s1.nx]; exact Wd.box_at
  have lD : S1.next < (W1.box D).n := by rw [← s1.nx]; exact Nat.lt_succ_self _
  refine ⟨fun i m H => ∃ W S rest, iv.items.drop i = rest ∧ m = rest.length ∧ WLe (W1.box D) W ∧ SR X.K T W S H ∧
      RP X.K T W ((lcGo iv.src tg tst fe S1.next (wipeE ρ (own.map (·.2))) rest S).bind fun _ S2 => lcEnd bx S1.next S2) (VP X.K T Q) (fun H' c o => Ew c o σ H'),
    ⟨_, W1.box D, _, iv.items, rfl, rfl, .refl _, sB, h1.wle .box⟩, fun i m H hW => ?_⟩
  obtain ⟨W, S, rest, hd, rfl, lw, sr, h⟩ := hW
  have wD : W.m S1.next = D := (lw.eq _ lD).trans eD
  cases rest with
  | nil =>
    unfold lcGo at h
    by_cases hsrc : iv.src S
    · rw [if_pos hsrc] at h
      have hn : iv.items[i]? = none := List.getElem?_eq_none (by simpa using hd)
      refine .inl ⟨(hJ W S H (.trans .box lw) sr hsrc i).2 hn, ?_⟩
      have h' : RP X.K T W (lcEnd bx S1.next S) (VP X.K T Q) (fun H' c o => Ew c o σ H') := h
      unfold lcEnd at h'
      cases q : S.objs S1.next with
      | none => simp only [q] at h'; exact False.elim h'
      | some b =>
        cases b with
        | lst acc =>
          simp only [q] at h'
          obtain ⟨xs, hx, r⟩ := sr.at_ _ _ q
          cases bx with
          | true =>
            rw [if_pos rfl] at h'
            have z : VR X.K T W (.loc S1.next) (.ref (W.m S1.next)) := .loc (Nat.lt_of_lt_of_le lD lw.le)
            rw [wD] at z
            exact h'.now sr _ z
          | false =>
            rw [if_neg Bool.false_ne_true] at h'
            have l : WLe W (W.add (W.m S1.next) (.lst xs)) := .add (sr.out _ _ q rfl)
            have z : VR X.K T (W.add (W.m S1.next) (.lst xs)) (.lst acc) (.ref (W.m S1.next)) := .lst upd_same (r.mono l)
            have r' := h' _ _ l (sr.frz q hx) _ z
            rw [wD] at r'
            exact r'
        | _ => simp only [q] at h'; exact False.elim h'
    · rw [if_neg hsrc] at h; exact False.elim h
  | cons v vs =>
    unfold lcGo at h
    by_cases hsrc : iv.src S
    · rw [if_pos hsrc] at h
      have hv : iv.items[i]? = some v := by
        have := congrArg (·[0]?) hd
        simpa using this
      have hd' : iv.items.drop (i + 1) = vs := by
        have := congrArg List.tail hd
        simpa using this
      obtain ⟨go, yl⟩ := (hJ W S H (.trans .box lw) sr hsrc i).1 v hv
      refine .inr ⟨go, _, fun H' z => ⟨vs.length, Nat.lt_succ_self _, z⟩, fun x H' y => ?_⟩
      obtain ⟨W2, l2, s2, vx⟩ := yl x H' y
      cases q : tg.set v (wipeE ρ (own.map (·.2))) with
      | none => rw [q] at h; exact False.elim h
      | some ρ1 =>
        rw [q] at h
        have er2 : ER X.K T W2 (wipeE ρ (own.map (·.2))) (L2.wipe σ (own.map (·.2))) := ((er.mono l1).mono (.trans .box (lw.trans l2))).wipe _
        refine Tgt.ok (ws := own.map (·.2)) s2.sub tg vx er2 q fun σ' e' w' => ⟨?_, ?_⟩
        · rw [w' hsl]
          apply List.ext_getElem?
          intro j
          rw [wipe_get, wipe_get]
          rw [wipe_length]
          by_cases hj : j ∈ own.map (·.2) ∧ j < σ.length
          · rw [if_pos hj, if_pos hj]
          · rw [if_neg hj, if_neg hj]
        have h' : RP X.K T W2 ((noEx (tst ρ1 S)).bind fun k S1' => (if k then (noEx (fe ρ1 S1')).bind fun u S2 => (match S2.objs S1.next with
          | some (.lst acc) => if acc.length < sizeLine then lcGo iv.src tg tst fe S1.next (wipeE ρ (own.map (·.2))) vs (S2.put S1.next (.lst (acc ++ [u]))) else .st
          | _ => .st) else lcGo iv.src tg tst fe S1.next (wipeE ρ (own.map (·.2))) vs S1').bind fun _ S2 => lcEnd bx S1.next S2) (VP X.K T Q) (fun H' c o => Ew c o σ H') := by
          have hh := h.wle l2
          cases qt : noEx (tst ρ1 S) with
          | ok k S' => simp only [qt, Res.bind] at hh ⊢; exact hh
          | ex c vs S' => simp only [qt, Res.bind] at hh ⊢; exact hh
          | st => simp only [qt, Res.bind] at hh ⊢; exact hh
        refine ⟨W2, ρ1, S, s2, e', (RP.bind h' fun W3 S3 H3 k l3 s3 h3 => ?_ : RP X.K T W2 (noEx (tst ρ1 S)) _ (fun H' c o => Ew c o σ H')).noEx⟩
        have lw3 : WLe (W1.box D) W3 := lw.trans (l2.trans l3)
        cases k with
        | false =>
          dsimp only at h3 ⊢
          rw [if_neg Bool.false_ne_true] at h3 ⊢
          exact ⟨W3, S3, vs, hd', rfl, lw3, s3, h3⟩
        | true =>
          dsimp only at h3 ⊢
          rw [if_pos rfl] at h3 ⊢
          have h4 : RP X.K T W3 ((noEx (fe ρ1 S3)).bind fun u S2 => (match S2.objs S1.next with
            | some (.lst acc) => if acc.length < sizeLine then lcGo iv.src tg tst fe S1.next (wipeE ρ (own.map fun (p : Str × Nat) => p.2)) vs (S2.put S1.next (.lst (acc ++ [u]))) else .st
            | _ => .st).bind fun _ S2 => lcEnd bx S1.next S2) (VP X.K T Q) (fun H' c o => Ew c o σ H') := by
            cases qt : noEx (fe ρ1 S3) with
            | ok k S' => simp only [qt, Res.bind] at h3 ⊢; exact h3
            | ex c vs S' => simp only [qt, Res.bind] at h3 ⊢; exact h3
            | st => simp only [qt, Res.bind] at h3 ⊢; exact h3
          refine ⟨W3, ρ1, S3, s3, e'.mono l3, (RP.bind h4 fun W4 S4 H4 u l4 s4 h5 yv vu => ?_ : RP X.K T W3 (noEx (fe ρ1 S3)) _ (fun H' c o => Ew c o σ H')).noEx⟩
          have lw4 : WLe (W1.box D) W4 := lw3.trans l4
          have wD4 : W4.m S1.next = D := (lw4.eq _ lD).trans eD
          cases q5 : S4.objs S1.next with
          | none => simp only [q5] at h5; exact False.elim h5
          | some b =>
            cases b with
            | lst acc =>
              simp only [q5] at h5
              by_cases hz : acc.length < sizeLine
              · rw [if_pos hz] at h5
                obtain ⟨xs, hx, r⟩ := s4.at_ _ _ q5
                rw [wD4] at hx
                refine ⟨xs, hx, by rw [← r.length]; exact hz, W4, S4.put S1.next (.lst (acc ++ [u])), vs, hd', rfl, lw4, ?_, h5⟩
                have sp := s4.put (o := .lst (xs ++ [yv])) (b' := .lst (acc ++ [u])) q5 ⟨xs ++ [yv], upd_same, r.append (.cons vu .nil)⟩
                rw [wD4] at sp
                exact sp
              · rw [if_neg hz] at h5; exact False.elim h5
            | _ => simp only [q5] at h5; exact False.elim h5
    · rw [if_neg hsrc] at h; exact False.elim h
theorem mts_nil : PTs X [] (rdT X.K T XW0 tYesM) := ⟨fun pins s σ H Q I h => pts_nil.run pins s σ H Q I (by
  obtain ⟨W, ρ, S, sr, er, h⟩ := h
  exact h.now sr)⟩
theorem mts_one (h : PTm T X XW0 c tst) : PTs X [c] (rdT X.K T XW0 tst) := pts_one h
theorem m_lc (hc : X.calm = true) (hN : X.N.Nodup) (hi : PIm T X Ew tgE iter it) (ok : BlkOk X.N X.env.scope scope own) (hsl : ∀ i ∈ tg.slots, i ∈ own.map (·.2))
    (hg : ∀ (s : Shared) (H : Hp) (C : Addr) (cl : List (Str × Addr)) (fp : List Addr), PG (X.blk s H scope (compEnvC scope cl C X.env) fp) tgE (tg.g X.K)) (ht : ∀ (s : Shared) (H : Hp) (C : Addr) (cl : List (Str × Addr)) (fp : List Addr), PTs (X.blk s H scope (compEnvC scope cl C X.env) fp) ifs (rdT X.K T XW0 tst))
    (he : ∀ (s : Shared) (H : Hp) (C : Addr) (cl : List (Str × Addr)) (fp : List Addr), PEm T (X.blk s H scope (compEnvC scope cl C X.env) fp) XW0 elt fe) (hs : ∀ x, foldedSetIterable iter X.env x = pure x := by intro _; rfl) :
    PEm T X Ew (.ListComp elt [⟨tgE, iter, ifs, 0⟩] scope pos) (eLc bx it tg tst fe (own.map (·.2))) :=
  PE.to (pe_lc hc hN hi ok hg ht he hs) fun _ _ _ h => rd_lc hsl h
/-- name = [..] where the name is stored within the comprehension's frame -/
theorem ms_setLc {i : Nat} {y : Str} {py : Pos} {spos : Pos} (hc : X.calm = true) (hN : X.N.Nodup) (hy : X.N[i]? = some y) (hyl : X.env.scope.names.lookup y = some .local)
    (hsw : swapsWith (.ListComp elt [⟨tgE, iter, ifs, 0⟩] scope pos) (some (.Name y py)) spos.line X.env = pure true) (hi : PIm T X Ew tgE iter it) (ok : BlkOk X.N X.env.scope scope own) (hsl : ∀ i ∈ tg.slots, i ∈ own.map (·.2))
    (hg : ∀ (s : Shared) (H : Hp) (C : Addr) (cl : List (Str × Addr)) (fp : List Addr), PG (X.blk s H scope (compEnvC scope cl C X.env) fp) tgE (tg.g X.K)) (ht : ∀ (s : Shared) (H : Hp) (C : Addr) (cl : List (Str × Addr)) (fp : List Addr), PTs (X.blk s H scope (compEnvC scope cl C X.env) fp) ifs (rdT X.K T XW0 tst))
    (he : ∀ (s : Shared) (H : Hp) (C : Addr) (cl : List (Str × Addr)) (fp : List Addr), PEm T (X.blk s H scope (compEnvC scope cl C X.env) fp) XW0 elt fe) (hs : ∀ x, foldedSetIterable iter X.env x = pure x := by intro _; rfl) :
    PSm T X Ew (.Assign [.Name y py] (.ListComp elt [⟨tgE, iter, ifs, 0⟩] scope pos) spos) (sSet i (eLc bx it tg tst fe (own.map (·.2)))) := by
  refine PS.to (ps_setLc (te := rdE X.K T XW0 fe) hc hN hy hyl hsw hi ok hg ht he hs) fun D σ H ⟨W, ρ, S, sr, er, h⟩ => ?_
  refine rd_lc (Ew := Ew) (bx := bx) hsl ⟨W, ρ, S, sr, er, SPo.of er h fun W1 S1 H1 v l s1 h1 x vx => ?_⟩
  exact h1 W1 H1 _ (.refl _) s1 ((er.mono l).set vx)
end
end PM

/-! PM, part f: what is walked, built-in functions and methods -/
namespace PM
open PySem PySem.Spec L2

/-! ### iterators -/
def seqIt (v : Val) (S : Sto) : Res ItV := match v with
  | .tup xs => .ok ⟨xs, fun _ => True⟩ S
  | .lst xs => .ok ⟨xs, fun _ => True⟩ S
  | .fz xs => .ok ⟨xs, fun _ => True⟩ S
  | .loc k => match S.objs k with
    | some (.lst xs) => .ok ⟨xs, fun S' => S'.objs k = some (.lst xs)⟩ S
    | _ => .st
  | _ => .st
def iSeq (f : EM) : IM := fun ρ S => (f ρ S).bind seqIt
def rangeL (lo : Int) (n : Nat) : List Val := (List.range n).map fun (i : Nat) => Val.int (lo + (i : Int))
def iRange1 (a : EM) : IM := fun ρ S => (a ρ S).bind fun v S1 => match v with
  | .int j => if -(2 ^ 62) ≤ j ∧ j < 2 ^ 62 then .ok ⟨rangeL 0 j.toNat, fun _ => True⟩ S1 else .st
  | _ => .st
def iRange2 (a b : EM) : IM := fun ρ S => (a ρ S).bind fun v S1 => (b ρ S1).bind fun w S2 => match v, w with
  | .int i, .int j => if -(2 ^ 62) ≤ i ∧ i < 2 ^ 62 ∧ -(2 ^ 62) ≤ j ∧ j < 2 ^ 62 then .ok ⟨rangeL i (j - i).toNat, fun _ => True⟩ S2 else .st
  | _, _ => .st
def iRev (f : EM) : IM := fun ρ S => (f ρ S).bind fun v S1 => match v with
  | .lst xs => .ok ⟨xs.reverse, fun _ => True⟩ S1
  | .fz xs => .ok ⟨xs.reverse, fun _ => True⟩ S1
  | .loc k => (match S1.objs k with
    | some (.lst xs) => .ok ⟨xs.reverse, fun S' => S'.objs k = some (.lst xs)⟩ S1
    | _ => .st)
  | _ => .st
def zipE (vs : List Val) : List Val := vs.zipIdx.map fun p => Val.tup [.int (p.2 : Nat), p.1]
def iEnumM (f : EM) : IM := fun ρ S => (f ρ S).bind fun v S1 => match v with
  | .lst xs => .ok ⟨zipE xs, fun _ => True⟩ S1
  | .fz xs => .ok ⟨zipE xs, fun _ => True⟩ S1
  | .loc k => (match S1.objs k with
    | some (.lst xs) => .ok ⟨zipE xs, fun S' => S'.objs k = some (.lst xs)⟩ S1
    | _ => .st)
  | _ => .st
section
variable {K : PySem.W.Frag} {T : Tbl} {W : Wd} {S : Sto} {H : Hp}
/-- a readable list: by a fixed one, or by the store -/
theorem list_src (s : SR K T W S H) {v : Val} {x : V} (r : VR K T W v x) {xs : List Val} {src : Sto → Prop}
    (h : (v = .lst xs ∧ src = fun _ => True) ∨ (v = .fz xs ∧ src = fun _ => True) ∨ ∃ k, v = .loc k ∧ S.objs k = some (.lst xs) ∧ src = fun S' => S'.objs k = some (.lst xs)) :
    ∃ a, x = .ref a ∧ (∃ ys, SqL K H a ys ∧ ys.length = xs.length) ∧ ∀ W' S' H', WLe W W' → SR K T W' S' H' → src S' → ∃ ys, SqL K H' a ys ∧ VRs K T W' xs ys := by
  rcases h with ⟨rfl, rfl⟩ | ⟨rfl, rfl⟩ | ⟨k, rfl, e, rfl⟩
  · cases r with
    | lst h r => exact ⟨_, rfl, ⟨_, .inl (.inl (s.sub _ _ h)), r.length.symm⟩, fun W' S' H' l s' _ => ⟨_, .inl (.inl (s'.sub _ _ (l.sub _ _ h))), r.mono l⟩⟩
  · cases r with
    | fz h r => exact ⟨_, rfl, ⟨_, SqL_mono s.sub h, r.length.symm⟩, fun W' S' H' l s' _ => ⟨_, SqL_mono (fun a o q => s'.sub a o (l.sub a o q)) h, r.mono l⟩⟩
  · cases r with
    | loc hk =>
      obtain ⟨ys, hy, r⟩ := locLst s e
      refine ⟨_, rfl, ⟨ys, .inl (.inl hy), r.length.symm⟩, fun W' S' H' l s' e' => ?_⟩
      obtain ⟨zs, hz, r'⟩ := locLst s' e'
      rw [l.eq k hk] at hz
      exact ⟨zs, .inl (.inl hz), r'⟩
theorem itl_ok {a : Addr} {xs : List Val} {src : Sto → Prop} (h : ∀ W' S' H', WLe W W' → SR K T W' S' H' → src S' → ∃ ys, SqL K H' a ys ∧ VRs K T W' xs ys) : ItOk K T W ⟨xs, src⟩ (Itl K a) := by
  intro W' S' H' l s' hs i
  obtain ⟨ys, hy, r⟩ := h W' S' H' l s' hs
  refine ⟨fun v hv => ?_, fun hn => ⟨ys, hy, ?_⟩⟩
  · obtain ⟨y, e, vy⟩ := r.get hv
    refine ⟨⟨ys, y, hy, e⟩, fun x H'' q => ?_⟩
    obtain ⟨rfl, q⟩ := q
    have := q ys hy
    rw [e] at this
    cases this
    exact ⟨W', .refl _, s', vy⟩
  · rw [← r.length]
    exact List.getElem?_eq_none_iff.mp hn
theorem itt_ok {a : Addr} {xs : List Val} {ys : List V} (hy : SqT K W.I a ys) (r : VRs K T W xs ys) : ItOk K T W ⟨xs, fun _ => True⟩ (Itt K a) := by
  intro W' S' H' l s' hs i
  have hy' : SqT K H' a ys := SqT_mono (fun a o q => s'.sub a o (l.sub a o q)) hy
  refine ⟨fun v hv => ?_, fun hn => ⟨ys, hy', ?_⟩⟩
  · obtain ⟨y, e, vy⟩ := r.get hv
    refine ⟨⟨ys, y, hy', e⟩, fun x H'' q => ?_⟩
    obtain ⟨rfl, q⟩ := q
    have := q ys hy'
    rw [e] at this
    cases this
    exact ⟨W', .refl _, s', vy.mono l⟩
  · rw [← r.length]
    exact List.getElem?_eq_none_iff.mp hn
theorem rangeL_get (lo : Int) (n i : Nat) : (rangeL lo n)[i]? = if i < n then some (.int (lo + (i : Int))) else none := by
  unfold rangeL
  rw [List.getElem?_map]
  by_cases h : i < n
  · rw [List.getElem?_range h, if_pos h]; rfl
  · rw [List.getElem?_eq_none (by rw [List.length_range]; omega), if_neg h]; rfl
theorem itr_ok (lo : Int) (n : Nat) : ItOk K T W ⟨rangeL lo n, fun _ => True⟩ (Itr lo n) := by
  intro W' S' H' l s' hs i
  show (∀ v, (rangeL lo n)[i]? = some v → _) ∧ ((rangeL lo n)[i]? = none → _)
  rw [rangeL_get]
  by_cases h : i < n
  · rw [if_pos h]
    refine ⟨fun v hv => ?_, fun hn => (by cases hn)⟩
    cases hv
    refine ⟨h, fun x H'' q => ?_⟩
    obtain ⟨e1, e2⟩ := (show H'' = H' ∧ x = .int (lo + i) from q)
    subst e1 e2
    exact ⟨W', .refl _, s', .int _⟩
  · rw [if_neg h]
    exact ⟨fun v hv => (by cases hv), fun _ => Nat.le_of_not_lt h⟩
theorem itv_ok {a : Addr} {xs : List Val} {n : Nat} (hn : n = xs.length) {src : Sto → Prop} (h : ∀ W' S' H', WLe W W' → SR K T W' S' H' → src S' → ∃ ys, SqL K H' a ys ∧ VRs K T W' xs ys) : ItOk K T W ⟨xs.reverse, src⟩ (Itv K a n) := by
  intro W' S' H' l s' hs i
  obtain ⟨ys, hy, r⟩ := h W' S' H' l s' hs
  subst hn
  refine ⟨fun v hv => ?_, fun hq => ?_⟩
  · have hi : i < xs.length := by
      have := (List.getElem?_eq_some_iff.mp hv).1
      simpa using this
    have hv' : xs.reverse[i]? = some v := hv
    rw [List.getElem?_reverse hi] at hv'
    obtain ⟨y, e, vy⟩ := r.get hv'
    refine ⟨⟨hi, ys, y, hy, e⟩, fun x H'' q => ?_⟩
    obtain ⟨rfl, q⟩ := q
    have := q ys hy
    rw [e] at this
    cases this
    exact ⟨W', .refl _, s', vy⟩
  · have := List.getElem?_eq_none_iff.mp (show xs.reverse[i]? = none from hq)
    show xs.length ≤ i
    simpa using this
theorem ite_ok {a : Addr} {xs : List Val} {src : Sto → Prop} (h : ∀ W' S' H', WLe W W' → SR K T W' S' H' → src S' → ∃ ys, SqL K H' a ys ∧ VRs K T W' xs ys) : ItOk K T W ⟨zipE xs, src⟩ (Ite K a) := by
  intro W' S' H' l s' hs i
  obtain ⟨ys, hy, r⟩ := h W' S' H' l s' hs
  have hg : (zipE xs)[i]? = (xs[i]?).map fun v => Val.tup [.int (i : Nat), v] := by
    unfold zipE
    rw [List.getElem?_map, List.getElem?_zipIdx]
    cases xs[i]? <;> simp
  refine ⟨fun v hv => ?_, fun hq => ⟨ys, hy, ?_⟩⟩
  · have hv' : (zipE xs)[i]? = some v := hv
    rw [hg] at hv'
    cases e0 : xs[i]? with
    | none => rw [e0] at hv'; cases hv'
    | some u =>
      rw [e0] at hv'
      cases hv'
      obtain ⟨y, e, vy⟩ := r.get e0
      refine ⟨⟨ys, y, hy, e⟩, fun x H'' q => ?_⟩
      obtain ⟨p, z, rfl, hp, rfl, q⟩ := q
      have := q ys hy
      rw [e] at this
      cases this
      have l2 : WLe W' (W'.add p (.tup [.int (i : Nat), y])) := .add (s'.free hp)
      exact ⟨_, l2, s'.add hp, .tup (.inl upd_same) (.cons (.int _) (.cons (vy.mono l2) .nil))⟩
  · have hq' : (zipE xs)[i]? = none := hq
    rw [hg] at hq'
    rw [← r.length]
    cases e0 : xs[i]? with
    | none => exact List.getElem?_eq_none_iff.mp e0
    | some u => rw [e0] at hq'; cases hq'
end
section
variable {T : Tbl} {X : Cx} {Ew : XW} {tg e a b : Expr} {f fa fb : EM} {p pos : Pos}
/-- list or tuple -/
theorem pi_seq {te : TE} (hl : PE X e te) : PI X tg e (fun σ H R => te σ H fun x H1 => ∃ a, x = .ref a ∧ (((∃ xs, SqL X.K H1 a xs) ∧ R (Itl X.K a) H1) ∨ ((∃ xs, SqT X.K H1 a xs) ∧ R (Itt X.K a) H1))) := by
  refine ⟨fun pins s σ H R I h => ?_⟩
  refine thn (hl.run pins s σ H _ I h) fun v s1 ⟨x, H1, I1, r1, q1⟩ => ?_
  obtain ⟨a, e, q⟩ := q1
  subst e
  cases r1
  rcases q with ⟨⟨xs, hq⟩, q⟩ | ⟨⟨xs, hq⟩, q⟩
  · obtain ⟨its, rv, p, hz⟩ := I1.list hq
    refine wpAny_pyIter_list p.isList ?_
    refine ⟨s1.heap.objs.size, [s1.heap.objs.size], _, _, H1, rfl, I1.kept (t' := s1.toks) fun b o e => Heap.get?_push_of_some _ e, turn_list a _, ⟨_, Heap.get?_push_size _ rfl, rfl, rfl⟩, fun b hb => ?_, q⟩
    have e : b = s1.heap.objs.size := by simpa using hb
    subst e
    exact I1.fpOk (Nat.le_refl _) (I1.hok.fresh (Nat.le_refl _))
  · obtain ⟨its, rv, p, hz⟩ := I1.tuple hq
    refine wpAny_pyIter_tuple (show s1.heap.IsTuple a its.toArray from p) ?_
    refine ⟨s1.heap.objs.size, [s1.heap.objs.size], _, _, H1, rfl, I1.kept (t' := s1.toks) fun b o e => Heap.get?_push_of_some _ e, turn_tuple a _, ⟨_, Heap.get?_push_size _ rfl, rfl, rfl⟩, fun b hb => ?_, q⟩
    have e : b = s1.heap.objs.size := by simpa using hb
    subst e
    exact I1.fpOk (Nat.le_refl _) (I1.hok.fresh (Nat.le_refl _))
theorem i_seq (h : PEm T X Ew e f) : PIm T X Ew tg e (iSeq f) := by
  refine PI.to (pi_seq h) fun σ H R h => ?_
  obtain ⟨W, ρ, S, s, er, h⟩ := h
  refine ⟨W, ρ, S, s, er, RP.bind h fun W1 S1 H1 v l1 s1 h1 x vx => ?_⟩
  cases v with
  | tup xs =>
    cases vx with
    | tup hy r => exact ⟨_, rfl, .inr ⟨⟨_, TQ_sq s1.sub hy⟩, h1.now s1 _ (itt_ok hy.sq r)⟩⟩
  | lst xs =>
    obtain ⟨a, rfl, ⟨ys, hy, _⟩, q⟩ := list_src s1 vx (.inl ⟨rfl, rfl⟩)
    exact ⟨a, rfl, .inl ⟨⟨ys, hy⟩, h1.now s1 _ (itl_ok q)⟩⟩
  | fz xs =>
    obtain ⟨a, rfl, ⟨ys, hy, _⟩, q⟩ := list_src s1 vx (.inr (.inl ⟨rfl, rfl⟩))
    exact ⟨a, rfl, .inl ⟨⟨ys, hy⟩, h1.now s1 _ (itl_ok q)⟩⟩
  | loc k =>
    unfold seqIt at h1
    cases q0 : S1.objs k with
    | none => simp only [q0] at h1; exact False.elim h1
    | some o =>
      cases o with
      | lst xs =>
        simp only [q0] at h1
        obtain ⟨a, rfl, ⟨ys, hy, _⟩, q⟩ := list_src s1 vx (.inr (.inr ⟨k, rfl, q0, rfl⟩))
        exact ⟨a, rfl, .inl ⟨⟨ys, hy⟩, h1.now s1 _ (itl_ok q)⟩⟩
      | _ => simp only [q0] at h1; exact False.elim h1
  | _ => exact False.elim h1
theorem i_range1 (hg : Gl X "range") (hm : X.mg "range" = none) (ha : PEm T X Ew a fa) (hs : starEach [a] X.env = [(false, eval a X.env)] := by rfl) : PIm T X Ew tg (.Call (.Name "range" p) [a] [] pos) (iRange1 fa) := by
  refine PI.to (pi_range1 (ta := rdA X.K T Ew (aCons fa aNil)) hg hm (ma_cons ha ma_nil hs) hs) fun σ H R h => ?_
  obtain ⟨W, ρ, S, s, er, h⟩ := h
  refine ⟨W, ρ, S, s, er, ?_⟩
  unfold iRange1 at h
  unfold aCons
  cases q : fa ρ S with
  | st => rw [q] at h; exact h
  | ex c vs S' => rw [q] at h; exact h
  | ok v S' =>
    rw [q] at h
    intro W1 H1 l1 s1 xs vxs
    have h1 := RP.wle l1 h
    cases vxs with
    | cons vx rr =>
      cases rr
      cases vx with
      | int j =>
        have h2 : RP X.K T W1 (if -(2 ^ 62) ≤ j ∧ j < 2 ^ 62 then Res.ok (⟨rangeL 0 j.toNat, fun _ => True⟩ : ItV) S' else .st) _ _ := h1
        by_cases c : -(2 ^ 62) ≤ j ∧ j < 2 ^ 62
        · rw [if_pos c] at h2
          exact ⟨j, rfl, c.1, c.2, h2.now s1 _ (itr_ok 0 j.toNat)⟩
        · rw [if_neg c] at h2; exact False.elim h2
      | _ => exact False.elim h1
theorem i_range2 (hg : Gl X "range") (hm : X.mg "range" = none) (ha : PEm T X Ew a fa) (hb : PEm T X Ew b fb) (hs : starEach [a, b] X.env = [(false, eval a X.env), (false, eval b X.env)] := by rfl) (hs1 : starEach [b] X.env = (false, eval b X.env) :: starEach [] X.env := by rfl) : PIm T X Ew tg (.Call (.Name "range" p) [a, b] [] pos) (iRange2 fa fb) := by
  refine PI.to (pi_range2 (ta := rdA X.K T Ew (aCons fa (aCons fb aNil))) hg hm (ma_cons ha (ma_cons hb ma_nil hs1) (by rw [hs, hs1]; rfl)) hs hs1) fun σ H R h => ?_
  obtain ⟨W, ρ, S, s, er, h⟩ := h
  refine ⟨W, ρ, S, s, er, ?_⟩
  unfold iRange2 at h
  unfold aCons
  cases q : fa ρ S with
  | st => rw [q] at h; exact h
  | ex c vs S' => rw [q] at h; exact h
  | ok v S' =>
    rw [q] at h
    show RP X.K T W (((fb ρ S').bind fun w S2 => (aNil ρ S2).bind fun vs S3 => .ok (w :: vs) S3).bind fun vs S2 => .ok (v :: vs) S2) _ _
    have h' : RP X.K T W ((fb ρ S').bind fun w S2 => match v, w with
      | .int i, .int j => if -(2 ^ 62) ≤ i ∧ i < 2 ^ 62 ∧ -(2 ^ 62) ≤ j ∧ j < 2 ^ 62 then Res.ok (⟨rangeL i (j - i).toNat, fun _ => True⟩ : ItV) S2 else .st
      | _, _ => .st) (fun W' x H' iv => ∀ (J : It), ItOk X.K T W' iv J → R J H') (fun H' c o => Ew c o σ H') := h
    cases q2 : fb ρ S' with
    | st => rw [q2] at h'; exact h'
    | ex c vs S' => rw [q2] at h'; exact h'
    | ok w S2 =>
      rw [q2] at h'
      intro W1 H1 l1 s1 xs vxs
      have h1 := RP.wle l1 h'
      cases vxs with
      | cons vx rr =>
        cases rr with
        | cons vy rr =>
          cases rr
          cases vx with
          | int i =>
            cases vy with
            | int j =>
              have h2 : RP X.K T W1 (if -(2 ^ 62) ≤ i ∧ i < 2 ^ 62 ∧ -(2 ^ 62) ≤ j ∧ j < 2 ^ 62 then Res.ok (⟨rangeL i (j - i).toNat, fun _ => True⟩ : ItV) S2 else .st) _ _ := h1
              by_cases c : -(2 ^ 62) ≤ i ∧ i < 2 ^ 62 ∧ -(2 ^ 62) ≤ j ∧ j < 2 ^ 62
              · rw [if_pos c] at h2
                exact ⟨i, j, rfl, c, h2.now s1 _ (itr_ok i _)⟩
              · rw [if_neg c] at h2; exact False.elim h2
            | _ => exact False.elim h1
          | _ => exact False.elim h1
theorem one_of {W : Wd} {ρ : Ev} {S : Sto} {P : Wd → Sto → Hp → ItV → Prop} {g : Val → Sto → Res ItV} {R : List V → Hp → Prop} {σ : L2.St} (h : RP X.K T W ((f ρ S).bind g) P (fun H' c o => Ew c o σ H'))
    (i : ∀ W' S' H' v x, WLe W W' → SR X.K T W' S' H' → RP X.K T W' (g v S') P (fun H' c o => Ew c o σ H') → VR X.K T W' v x → R [x] H') : RP X.K T W (aCons f aNil ρ S) (fun W' _ H' vs => ∀ xs, VRs X.K T W' vs xs → R xs H') (fun H' c o => Ew c o σ H') := by
  unfold aCons
  cases q : f ρ S with
  | st => rw [q] at h; exact h
  | ex c vs S' => rw [q] at h; exact h
  | ok v S' =>
    rw [q] at h
    intro W1 H1 l1 s1 xs vxs
    cases vxs with
    | cons vx rr =>
      cases rr
      exact i W1 S' H1 v _ l1 s1 (RP.wle l1 h) vx
theorem i_rev (hg : Gl X "reversed") (hm : X.mg "reversed" = none) (ha : PEm T X Ew e f) (hs : starEach [e] X.env = [(false, eval e X.env)] := by rfl) : PIm T X Ew tg (.Call (.Name "reversed" p) [e] [] pos) (iRev f) := by
  refine PI.to (pi_reversed (ta := rdA X.K T Ew (aCons f aNil)) hg hm (ma_cons ha ma_nil hs) hs) fun σ H R h => ?_
  obtain ⟨W, ρ, S, s, er, h⟩ := h
  refine ⟨W, ρ, S, s, er, one_of (R := fun vs H1 => ∃ (a : Addr) (xs : List V), vs = [.ref a] ∧ SqL X.K H1 a xs ∧ R (Itv X.K a xs.length) H1) h fun W1 S1 H1 v x l1 s1 h1 vx => ?_⟩
  cases v with
  | lst xs =>
    obtain ⟨a, rfl, ⟨ys, hy, hl⟩, q⟩ := list_src s1 vx (.inl ⟨rfl, rfl⟩)
    exact ⟨a, ys, rfl, hy, h1.now s1 _ (itv_ok hl q)⟩
  | fz xs =>
    obtain ⟨a, rfl, ⟨ys, hy, hl⟩, q⟩ := list_src s1 vx (.inr (.inl ⟨rfl, rfl⟩))
    exact ⟨a, ys, rfl, hy, h1.now s1 _ (itv_ok hl q)⟩
  | loc k =>
    simp only at h1
    cases q0 : S1.objs k with
    | none => simp only [q0] at h1; exact False.elim h1
    | some o =>
      cases o with
      | lst xs =>
        simp only [q0] at h1
        obtain ⟨a, rfl, ⟨ys, hy, hl⟩, q⟩ := list_src s1 vx (.inr (.inr ⟨k, rfl, q0, rfl⟩))
        exact ⟨a, ys, rfl, hy, h1.now s1 _ (itv_ok hl q)⟩
      | _ => simp only [q0] at h1; exact False.elim h1
  | _ => exact False.elim h1
theorem i_enum {tpos : Pos} {elts : List Expr} {kk : Nat} (hg : Gl X "enumerate") (hm : X.mg "enumerate" = none) (ha : PEm T X Ew e f) (hs : starEach [e] X.env = [(false, eval e X.env)] := by rfl) : PIm T X Ew (.Tuple elts kk tpos) (.Call (.Name "enumerate" p) [e] [] pos) (iEnumM f) := by
  refine PI.to (pi_enum (ta := rdA X.K T Ew (aCons f aNil)) hg hm (ma_cons ha ma_nil hs) hs) fun σ H R h => ?_
  obtain ⟨W, ρ, S, s, er, h⟩ := h
  refine ⟨W, ρ, S, s, er, one_of (R := fun vs H1 => ∃ (a : Addr) (xs : List V), vs = [.ref a] ∧ SqL X.K H1 a xs ∧ R (Ite X.K a) H1) h fun W1 S1 H1 v x l1 s1 h1 vx => ?_⟩
  cases v with
  | lst xs =>
    obtain ⟨a, rfl, ⟨ys, hy, hl⟩, q⟩ := list_src s1 vx (.inl ⟨rfl, rfl⟩)
    exact ⟨a, ys, rfl, hy, h1.now s1 _ (ite_ok q)⟩
  | fz xs =>
    obtain ⟨a, rfl, ⟨ys, hy, hl⟩, q⟩ := list_src s1 vx (.inr (.inl ⟨rfl, rfl⟩))
    exact ⟨a, ys, rfl, hy, h1.now s1 _ (ite_ok q)⟩
  | loc k =>
    simp only at h1
    cases q0 : S1.objs k with
    | none => simp only [q0] at h1; exact False.elim h1
    | some o =>
      cases o with
      | lst xs =>
        simp only [q0] at h1
        obtain ⟨a, rfl, ⟨ys, hy, hl⟩, q⟩ := list_src s1 vx (.inr (.inr ⟨k, rfl, q0, rfl⟩))
        exact ⟨a, ys, rfl, hy, h1.now s1 _ (ite_ok q)⟩
      | _ => simp only [q0] at h1; exact False.elim h1
  | _ => exact False.elim h1
end

/-! ### tests by truth -/
def truOf (S : Sto) : Val → Option Bool
  | .non => some false
  | .bl b => some b
  | .int i => some (i != 0)
  | .str y => if y.length ≤ sizeLine then some ((y.length : Int) != 0) else none
  | .tup xs => some (!xs.isEmpty)
  | v => (lstOf S v).map fun xs => !xs.isEmpty
def tTru (f : EM) : BM := fun ρ S => (f ρ S).bind fun v S1 => match truOf S1 v with
  | some c => .ok c S1
  | none => .st
section
variable {T : Tbl} {X : Cx} {Ew : XW} {e : Expr} {f : EM}
theorem isEmpty_vr {K : PySem.W.Frag} {W : Wd} {vs : List Val} {xs : List V} (r : VRs K T W vs xs) : vs.isEmpty = xs.isEmpty := by cases r <;> rfl
theorem tru_vr {W : Wd} {S : Sto} {H : Hp} {v : Val} {x : V} {c : Bool} (s : SR X.K T W S H) (r : VR X.K T W v x) (h : truOf S v = some c) : TruV X.K x H c := by
  have lists : ∀ {v : Val} {x : V}, VR X.K T W v x → (lstOf S v).map (fun xs => !xs.isEmpty) = some c → TruV X.K x H c := fun {v x} r h => by
    cases q : lstOf S v with
    | none => rw [q] at h; cases h
    | some xs =>
      rw [q] at h
      cases h
      obtain ⟨a, ys, rfl, hy, ry⟩ := lstOf_ok s r q
      exact .inl ⟨ys, hy, by show (!xs.isEmpty) = _; rw [isEmpty_vr ry]⟩
  cases v with
  | non => cases r; cases h; exact rfl
  | bl b => cases r; cases h; exact rfl
  | int b => cases r; cases h; exact rfl
  | str y =>
    cases r
    unfold truOf at h
    simp only at h
    by_cases hz : y.length ≤ sizeLine
    · rw [if_pos hz] at h; cases h; exact ⟨hz, rfl⟩
    · rw [if_neg hz] at h; cases h
  | tup xs =>
    cases h
    obtain ⟨a, ys, rfl, hy, ry⟩ := tup_ok s r
    exact .inr (.inl ⟨ys, hy, by rw [isEmpty_vr ry]⟩)
  | _ => exact lists r h
theorem mt_tru (h : PEm T X Ew e f) (he : ∀ whole, isTrue e X.env whole = (do let v ← whole; standAt e.pos; holding [v] (truthy v)) := by intro _; rfl) : PTm T X Ew e (tTru f) := by
  refine PT.to (pt_truth h he) fun σ H Q h => ?_
  obtain ⟨W, ρ, S, s, er, h⟩ := h
  refine ⟨W, ρ, S, s, er, RP.bind h fun W1 S1 H1 v l1 s1 h1 x vx => ?_⟩
  cases q : truOf S1 v with
  | none => rw [q] at h1; exact False.elim h1
  | some c => rw [q] at h1; exact ⟨c, tru_vr s1 vx q, h1.now s1⟩
end

/-! ### built-in functions -/
def vLen (vs : List Val) (S : Sto) : Res Val := match vs with
  | [.str y] => if y.length ≤ sizeLine then .ok (.int (y.length : Nat)) S else .st
  | [.tup xs] => .ok (.int (xs.length : Nat)) S
  | [v] => match lstOf S v with
    | some xs => .ok (.int (xs.length : Nat)) S
    | none => .st
  | _ => .st
def vAbs (vs : List Val) (S : Sto) : Res Val := match vs with
  | [.int i] => .ok (.int (if i < 0 then -i else i)) S
  | _ => .st
def vMin2 (vs : List Val) (S : Sto) : Res Val := match vs with
  | [.int i, .int j] => .ok (.int (if j < i then j else i)) S
  | _ => .st
def vMax2 (vs : List Val) (S : Sto) : Res Val := match vs with
  | [.int i, .int j] => .ok (.int (if j > i then j else i)) S
  | _ => .st
def vInt (vs : List Val) (S : Sto) : Res Val := match vs with
  | [.int i] => .ok (.int i) S
  | [.bl k] => .ok (.int (if k then 1 else 0)) S
  | _ => .st
def vList (bx : Bool) (vs : List Val) (S : Sto) : Res Val := match vs with
  | [.tup xs] => mkL bx xs S
  | [v] => match lstOf S v with
    | some xs => mkL bx xs S
    | none => .st
  | _ => .st
def vTuple (vs : List Val) (S : Sto) : Res Val := match vs with
  | [.tup xs] => .ok (.tup xs) S
  | [v] => match lstOf S v with
    | some xs => .ok (.tup xs) S
    | none => .st
  | _ => .st
/-- the class of a value -/
def tagOf (S : Sto) : Val → Option Tg
  | .non => some .non
  | .bl _ => some .bl
  | .int _ => some .int
  | .str _ => some .str
  | .tup _ => some .tup
  | .lst _ => some .lst
  | .loc k => match S.objs k with
    | some (.lst _) => some .lst
    | some (.dk false _ _) => some .dct
    | some (.dt false _ _) => some .dct
    | _ => none
  | .dk _ _ => some .dct
  | .dt _ _ => some .dct
  | _ => none
def isA (t n : Tg) : Bool := t = n || (t = .bl && n = .int)
def vIsi (vs : List Val) (S : Sto) : Res Val := match vs with
  | [v, .ty n] => match tagOf S v with
    | some t => .ok (.bl (isA t n)) S
    | none => .st
  | _ => .st
theorem kit_tag : ∀ t n : Tg, kitB t.nm n.nm = some (isA t n) := by
  intro t n
  cases t <;> cases n <;> decide +kernel
section
variable {K : PySem.W.Frag} {T : Tbl}
theorem tagOf_ok {W : Wd} {S : Sto} {H : Hp} {v : Val} {x : V} {t : Tg} (s : SR K T W S H) (r : VR K T W v x) (h : tagOf S v = some t) : TyX K H x (.type t.nm) := by
  cases r with
  | non => cases h; exact .base .non
  | bl b => cases h; exact .base (.bl b)
  | int b => cases h; exact .base (.int b)
  | str b => cases h; exact .base (.str b)
  | tup hy r =>
    cases h
    rcases hy.sq with (hy | ⟨o, hy⟩) | ⟨o, its, n, hk, hc, _⟩
    · exact .base (.tup (s.sub _ _ hy))
    · exact .fTuple (s.sub _ _ hy)
    · exact .kTuple hk hc
  | lst hy r => cases h; exact .base (.lst (s.sub _ _ hy))
  | dk hl hy r => cases h; exact .base (.dK (s.sub _ _ hy))
  | dt hl hy r => cases h; exact .base (.dT (s.sub _ _ hy))
  | @loc k hk =>
    unfold tagOf at h
    cases q : S.objs k with
    | none => simp only [q] at h; cases h
    | some b =>
      have A := s.at_ k b q
      cases b with
      | lst xs =>
        simp only [q] at h; cases h
        obtain ⟨ys, hy, _⟩ := A
        exact .base (.lst hy)
      | dk lk ks vs =>
        cases lk with
        | true => simp only [q] at h; cases h
        | false =>
          simp only [q] at h; cases h
          obtain ⟨ys, _, hy, _⟩ := A
          rw [if_neg Bool.false_ne_true] at hy
          exact .base (.dK hy)
      | dt lk ks vs =>
        cases lk with
        | true => simp only [q] at h; cases h
        | false =>
          simp only [q] at h; cases h
          obtain ⟨ys, _, hy, _⟩ := A
          rw [if_neg Bool.false_ne_true] at hy
          exact .base (.dT hy)
      | ins c vs => simp only [q] at h; cases h
  | _ => cases h
theorem l_isi : OpL K T (rIsi K) vIsi := by
  intro W S H vs xs Q PX s r q
  unfold vIsi at q
  split at q
  · rename_i v n
    cases r with
    | cons r1 r2 =>
      cases r2 with
      | cons r3 r4 =>
        cases r4
        cases r3
        cases e : tagOf S v with
        | none => rw [e] at q; exact False.elim q
        | some t =>
          rw [e] at q
          exact ⟨_, _, _, _, _, rfl, .ty _, tagOf_ok s r1 e, kit_ty (kit_tag t n), q.now s _ (.bl _)⟩
  · exact False.elim q
theorem l_len : OpL K T (fun xs H Q => ∃ x n, xs = [x] ∧ LenV K x H n ∧ Q (.int n) H) vLen := by
  intro W S H vs xs Q PX s r q
  have lists : ∀ {v : Val} {xs : List V}, VRs K T W [v] xs → RP K T W (match lstOf S v with
    | some xs => .ok (.int (xs.length : Nat)) S
    | none => .st) (VP K T Q) PX → ∃ x n, xs = [x] ∧ LenV K x H n ∧ Q (.int n) H := fun {v xs} r q => by
    cases r with
    | cons r1 r2 =>
      cases r2
      cases e : lstOf S v with
      | none => rw [e] at q; exact False.elim q
      | some ys =>
        rw [e] at q
        obtain ⟨a, zs, rfl, hz, rz⟩ := lstOf_ok s r1 e
        exact ⟨_, ys.length, rfl, .inl ⟨zs, hz, rz.length⟩, q.now s _ (.int _)⟩
  cases vs with
  | nil => exact False.elim q
  | cons v vs =>
    cases vs with
    | cons _ _ => cases v <;> exact False.elim q
    | nil =>
      cases v with
      | str y =>
        cases r with
        | cons r1 r2 =>
          cases r2
          cases r1
          unfold vLen at q
          simp only at q
          by_cases hz : y.length ≤ sizeLine
          · rw [if_pos hz] at q; exact ⟨_, y.length, rfl, ⟨hz, rfl⟩, q.now s _ (.int _)⟩
          · rw [if_neg hz] at q; exact False.elim q
      | tup ys =>
        cases r with
        | cons r1 r2 =>
          cases r2
          obtain ⟨a, zs, rfl, hz, rz⟩ := tup_ok s r1
          exact ⟨_, ys.length, rfl, .inr ⟨zs, hz, rz.length⟩, q.now s _ (.int _)⟩
      | _ => exact lists r q
theorem l_abs : OpL K T (fun xs H Q => ∃ i, xs = [.int i] ∧ Q (.int (if i < 0 then -i else i)) H) vAbs := by
  intro W S H vs xs Q PX s r q
  unfold vAbs at q
  split at q
  · cases r with
    | cons r1 r2 => cases r2; cases r1; exact ⟨_, rfl, q.now s _ (.int _)⟩
  · exact False.elim q
theorem l_min2 : OpL K T (fun xs H Q => ∃ i j, xs = [.int i, .int j] ∧ Q (.int (if j < i then j else i)) H) vMin2 := by
  intro W S H vs xs Q PX s r q
  unfold vMin2 at q
  split at q
  · cases r with
    | cons r1 r2 => cases r2 with
      | cons r3 r4 => cases r4; cases r1; cases r3; exact ⟨_, _, rfl, q.now s _ (.int _)⟩
  · exact False.elim q
theorem l_max2 : OpL K T (fun xs H Q => ∃ i j, xs = [.int i, .int j] ∧ Q (.int (if j > i then j else i)) H) vMax2 := by
  intro W S H vs xs Q PX s r q
  unfold vMax2 at q
  split at q
  · cases r with
    | cons r1 r2 => cases r2 with
      | cons r3 r4 => cases r4; cases r1; cases r3; exact ⟨_, _, rfl, q.now s _ (.int _)⟩
  · exact False.elim q
theorem l_int : OpL K T (fun xs H Q => (∃ i, xs = [.int i] ∧ Q (.int i) H) ∨ ∃ k, xs = [.bl k] ∧ Q (.int (if k then 1 else 0)) H) vInt := by
  intro W S H vs xs Q PX s r q
  unfold vInt at q
  split at q
  · cases r with
    | cons r1 r2 => cases r2; cases r1; exact .inl ⟨_, rfl, q.now s _ (.int _)⟩
  · cases r with
    | cons r1 r2 => cases r2; cases r1; exact .inr ⟨_, rfl, q.now s _ (.int _)⟩
  · exact False.elim q
theorem l_list (bx : Bool) : OpL K T (fun xs H Q => ∃ p ys, xs = [.ref p] ∧ (SqL K H p ys ∨ SqT K H p ys) ∧ ∀ l, H l = none → Q (.ref l) (upd H l (.lst ys))) (vList bx) := by
  intro W S H vs xs Q PX s r q
  have lists : ∀ {v : Val} {xs : List V}, VRs K T W [v] xs → RP K T W (match lstOf S v with
    | some xs => mkL bx xs S
    | none => .st) (VP K T Q) PX → ∃ p ys, xs = [.ref p] ∧ (SqL K H p ys ∨ SqT K H p ys) ∧ ∀ l, H l = none → Q (.ref l) (upd H l (.lst ys)) := fun {v xs} r q => by
    cases r with
    | cons r1 r2 =>
      cases r2
      cases e : lstOf S v with
      | none => rw [e] at q; exact False.elim q
      | some ys =>
        rw [e] at q
        obtain ⟨a, zs, rfl, hz, rz⟩ := lstOf_ok s r1 e
        exact ⟨a, zs, rfl, .inl hz, fun l hl => mkL_ok s rz hl q⟩
  cases vs with
  | nil => exact False.elim q
  | cons v vs =>
    cases vs with
    | cons _ _ => cases v <;> exact False.elim q
    | nil =>
      cases v with
      | tup ys =>
        cases r with
        | cons r1 r2 =>
          cases r2
          obtain ⟨a, zs, rfl, hz, rz⟩ := tup_ok s r1
          exact ⟨a, zs, rfl, .inr hz, fun l hl => mkL_ok s rz hl q⟩
      | _ => exact lists r q
theorem l_tuple : OpL K T (fun xs H Q => ∃ p ys, xs = [.ref p] ∧ ((SqL K H p ys ∧ ∀ l, H l = none → Q (.ref l) (upd H l (.tup ys))) ∨ (SqT K H p ys ∧ Q (.ref p) H))) vTuple := by
  intro W S H vs xs Q PX s r q
  have lists : ∀ {v : Val} {xs : List V}, VRs K T W [v] xs → RP K T W (match lstOf S v with
    | some xs => .ok (.tup xs) S
    | none => .st) (VP K T Q) PX → ∃ p ys, xs = [.ref p] ∧ ((SqL K H p ys ∧ ∀ l, H l = none → Q (.ref l) (upd H l (.tup ys))) ∨ (SqT K H p ys ∧ Q (.ref p) H)) := fun {v xs} r q => by
    cases r with
    | cons r1 r2 =>
      cases r2
      cases e : lstOf S v with
      | none => rw [e] at q; exact False.elim q
      | some ys =>
        rw [e] at q
        obtain ⟨a, zs, rfl, hz, rz⟩ := lstOf_ok s r1 e
        refine ⟨a, zs, rfl, .inl ⟨hz, fun l hl => ?_⟩⟩
        have l2 : WLe W (W.add l (.tup zs)) := .add (s.free hl)
        exact q _ _ l2 (s.add hl) _ (.tup (.inl upd_same) (rz.mono l2))
  cases vs with
  | nil => exact False.elim q
  | cons v vs =>
    cases vs with
    | cons _ _ => cases v <;> exact False.elim q
    | nil =>
      cases v with
      | tup ys =>
        cases r with
        | cons r1 r2 =>
          cases r2
          have r1' := r1
          obtain ⟨a, zs, rfl, hz, rz⟩ := tup_ok s r1
          exact ⟨a, zs, rfl, .inr ⟨hz, q.now s _ r1'⟩⟩
      | _ => exact lists r q
end

/-! ### all, any of a list of truth values -/
def blsOf : List Val → Option (List Bool)
  | [] => some []
  | .bl b :: vs => (blsOf vs).map (b :: ·)
  | _ :: _ => none
def vAll (vs : List Val) (S : Sto) : Res Val := match vs with
  | [v] => match (lstOf S v).bind blsOf with
    | some bs => .ok (.bl (bs.all id)) S
    | none => .st
  | _ => .st
def vAny (vs : List Val) (S : Sto) : Res Val := match vs with
  | [v] => match (lstOf S v).bind blsOf with
    | some bs => .ok (.bl (bs.any id)) S
    | none => .st
  | _ => .st
section
variable {K : PySem.W.Frag} {T : Tbl}
theorem blsOf_ok {W : Wd} : ∀ {vs : List Val} {xs : List V} {bs : List Bool}, VRs K T W vs xs → blsOf vs = some bs → xs = bs.map V.bl
  | _, _, _, .nil, h => by cases h; rfl
  | v :: vs, _, bs, .cons r rr, h => by
    cases v with
    | bl b =>
      cases r
      unfold blsOf at h
      cases e : blsOf vs with
      | none => rw [e] at h; cases h
      | some cs => rw [e] at h; cases h; rw [blsOf_ok rr e]; rfl
    | _ => cases h
theorem l_all : OpL K T (rAll K) vAll := by
  intro W S H vs xs Q PX s r q
  unfold vAll at q
  split at q
  · rename_i v
    cases r with
    | cons r1 r2 =>
      cases r2
      cases e : lstOf S v with
      | none => rw [e] at q; exact False.elim q
      | some ys =>
        rw [e] at q
        cases e2 : blsOf ys with
        | none => simp only [Option.bind, e2] at q; exact False.elim q
        | some bs =>
          simp only [Option.bind, e2] at q
          obtain ⟨a, zs, rfl, hz, rz⟩ := lstOf_ok s r1 e
          have ez := blsOf_ok rz e2
          subst ez
          exact ⟨a, bs, rfl, hz, q.now s _ (.bl _)⟩
  · exact False.elim q
theorem l_any : OpL K T (rAny K) vAny := by
  intro W S H vs xs Q PX s r q
  unfold vAny at q
  split at q
  · rename_i v
    cases r with
    | cons r1 r2 =>
      cases r2
      cases e : lstOf S v with
      | none => rw [e] at q; exact False.elim q
      | some ys =>
        rw [e] at q
        cases e2 : blsOf ys with
        | none => simp only [Option.bind, e2] at q; exact False.elim q
        | some bs =>
          simp only [Option.bind, e2] at q
          obtain ⟨a, zs, rfl, hz, rz⟩ := lstOf_ok s r1 e
          have ez := blsOf_ok rz e2
          subst ez
          exact ⟨a, bs, rfl, hz, q.now s _ (.bl _)⟩
  · exact False.elim q
end
end PM

/-! PM, part g: slices, stores to items, list methods, in, dicts, exceptions -/
namespace PM
open PySem PySem.Spec L2

/-! ### slices -/
def cutG {α : Type} (xs : List α) (lo hi : Option Int) : List α := (xs.drop (HT.sIx xs.length 0 lo)).take (HT.sIx xs.length xs.length hi - HT.sIx xs.length 0 lo)
abbrev OM := Ev → Sto → Res (Option Int)
def oNone : OM := fun _ S => .ok none S
def oSome (f : EM) : OM := fun ρ S => (f ρ S).bind fun v S1 => match v with
  | .int i => .ok (some i) S1
  | _ => .st
def vCut (bx : Bool) (v : Val) (lo hi : Option Int) (S : Sto) : Res Val := match v with
  | .tup xs => .ok (.tup (cutG xs lo hi)) S
  | v => match lstOf S v with
    | some xs => mkL bx (cutG xs lo hi) S
    | none => .st
def eCut (bx : Bool) (f : EM) (lo hi : OM) : EM := fun ρ S => (f ρ S).bind fun v S1 => (lo ρ S1).bind fun l S2 => (hi ρ S2).bind fun u S3 => vCut bx v l u S3
def rdO (K : PySem.W.Frag) (T : Tbl) (Ew : XW) (f : OM) : TO := fun σ H Q => ∃ W ρ S, SR K T W S H ∧ ER K T W ρ σ ∧ RP K T W (f ρ S) (fun _ _ H' o => Q o H') (fun H' c o => Ew c o σ H')
abbrev POm (T : Tbl) (X : Cx) (Ew : XW) (e : Option Expr) (f : OM) : Prop := PO X e (rdO X.K T Ew f)
theorem cutG_vr {K : PySem.W.Frag} {T : Tbl} {W : Wd} {vs : List Val} {xs : List V} (r : VRs K T W vs xs) (lo hi : Option Int) : VRs K T W (cutG vs lo hi) (cutV xs lo hi) := by
  unfold cutG cutV
  rw [r.length]
  exact (r.drop _).take _
section
variable {T : Tbl} {X : Cx} {Ew : XW} {e o i value : Expr} {es : List Expr} {f fo fi fe : EM} {fs : AM} {lo hi : Option Expr} {lm hm : OM} {pos p2 tpos : Pos}
theorem mo_none : POm T X Ew none oNone := ⟨fun pins s σ H Q I ⟨W, ρ, S, sr, er, h⟩ => po_none.run pins s σ H Q I (h.now sr)⟩
theorem mo_some (h : PEm T X Ew e f) : POm T X Ew (some e) (oSome f) := ⟨fun pins s σ H Q I ⟨W, ρ, S, sr, er, q⟩ => (po_some h).run pins s σ H Q I ⟨W, ρ, S, sr, er, RP.bind q fun W1 S1 H1 v l1 s1 h1 x vx => by
  cases vx with
  | int j => exact ⟨j, rfl, h1.now s1⟩
  | _ => exact False.elim h1⟩⟩
theorem m_cut {bx : Bool} (he : PEm T X Ew e f) (hl : POm T X Ew lo lm) (hu : POm T X Ew hi hm) : PEm T X Ew (.Subscript e (.Slice lo hi none p2) pos) (eCut bx f lm hm) := by
  refine PE.to (pe_slice (SlR.or sl_list sl_tupA) he hl hu) fun σ H Q h => ?_
  obtain ⟨W, ρ, S, s, er, h⟩ := h
  refine ⟨W, ρ, S, s, er, RP.bind h fun W1 S1 H1 v l1 s1 h1 x vx => ⟨W1, ρ, S1, s1, er.mono l1, RP.bind h1 fun W2 S2 H2 lw l2 s2 h2 => ⟨W2, ρ, S2, s2, (er.mono l1).mono l2, RP.bind h2 fun W3 S3 H3 uw l3 s3 h3 => ?_⟩⟩⟩
  have vx3 := vx.mono (l2.trans l3)
  have lists : ∀ {v : Val}, VR X.K T W3 v x → RP X.K T W3 (match lstOf S3 v with
    | some xs => mkL bx (cutG xs lw uw) S3
    | none => .st) (VP X.K T Q) (fun H' c o => Ew c o σ H') → rSlL X.K x lw uw H3 Q := fun {v} vx q => by
    cases e : lstOf S3 v with
    | none => rw [e] at q; exact False.elim q
    | some xs =>
      rw [e] at q
      obtain ⟨a, ys, rfl, hy, r⟩ := lstOf_ok s3 vx e
      exact ⟨a, ys, rfl, hy, fun p hp => mkL_ok s3 (cutG_vr r lw uw) hp q⟩
  cases v with
  | tup xs =>
    refine .inr ?_
    have vt := vx3
    obtain ⟨a, ys, rfl, hy, r⟩ := tup_ok s3 vx3
    refine ⟨a, ys, rfl, hy, fun hw => ?_, fun hw p hp => ?_⟩
    · have e0 : cutG xs lw uw = xs := by
        unfold cutG
        rw [r.length, hw.1, hw.2, List.drop_zero, Nat.sub_zero, ← r.length, List.take_length]
      have h4 : RP X.K T W3 (.ok (.tup (cutG xs lw uw)) S3) (VP X.K T Q) (fun H' c o => Ew c o σ H') := h3
      rw [e0] at h4
      exact h4.now s3 _ vt
    · have l : WLe W3 (W3.add p (.tup (cutV ys lw uw))) := .add (s3.free hp)
      exact h3 _ _ l (s3.add hp) _ (.tup (.inl upd_same) ((cutG_vr r lw uw).mono l))
  | _ => exact .inl (lists vx3 h3)
/-- xs[::-1] of a list -/
def vRevL (bx : Bool) (v : Val) (S : Sto) : Res Val := match lstOf S v with
  | some xs => mkL bx xs.reverse S
  | none => .st
theorem m_revL {bx : Bool} {k : Nat} {p1 p2 p3 : Pos} (he : PEm T X Ew e f) : PEm T X Ew (.Subscript e (.Slice none none (some (.UnaryOp .USub (.Constant (.int 1) k p1) p2)) p3) pos) (eUn (vRevL bx) f) := by
  refine PE.to (pe_revL he) fun σ H Q h => ?_
  obtain ⟨W, ρ, S, s, er, h⟩ := h
  refine ⟨W, ρ, S, s, er, RP.bind h fun W1 S1 H1 v l1 s1 h1 x vx => ?_⟩
  unfold vRevL at h1
  cases e : lstOf S1 v with
  | none => rw [e] at h1; exact False.elim h1
  | some xs =>
    rw [e] at h1
    obtain ⟨a, ys, rfl, hy, r⟩ := lstOf_ok s1 vx e
    exact ⟨a, ys, rfl, hy, fun p hp => mkL_ok s1 r.reverse hp h1⟩

/-! ### stores to items -/
def setIx (o i u : Val) (S : Sto) : Option Sto := match o, i with
  | .loc k, .int j => match S.objs k with
    | some (.lst xs) => (ixN xs.length j).map fun n => S.put k (.lst (xs.set n u))
    | _ => none
  | _, _ => none
theorem setIx_ok {K : PySem.W.Frag} {W : Wd} {S S' : Sto} {H : Hp} {o i u : Val} {x y z : V} {Q : Hp → Prop} (s : SR K T W S H) (ro : VR K T W o x) (ri : VR K T W i y) (ru : VR K T W u z) (h : setIx o i u S = some S') (q : ∀ H', SR K T W S' H' → Q H') : rSetL x y z H Q := by
  cases ro with
  | @loc k hk =>
    cases ri with
    | int j =>
      unfold setIx at h
      simp only at h
      cases e : S.objs k with
      | none => rw [e] at h; cases h
      | some b =>
        cases b with
        | lst xs =>
          rw [e] at h
          simp only at h
          obtain ⟨ys, hy, r⟩ := locLst s e
          cases e2 : ixN xs.length j with
          | none => rw [e2] at h; cases h
          | some n =>
            rw [e2] at h
            cases h
            exact ⟨_, ys, j, n, rfl, rfl, hy, by rw [← r.length]; exact e2, q _ (s.put e ⟨_, upd_same, r.set ru n⟩)⟩
        | _ => rw [e] at h; cases h
    | _ => cases h
  | _ => cases h
def sSetIx (o i e : EM) : SM := fun ρ S => (e ρ S).toS ρ fun u S1 => (o ρ S1).toS ρ fun v S2 => (i ρ S2).toS ρ fun j S3 => match setIx v j u S3 with
  | some S4 => .nx ρ S4
  | none => .st
theorem ms_setIx (hv : PEm T X Ew value fe) (ho : PEm T X Ew o fo) (hi : PEm T X Ew i fi) (hs : swapsWithSole [.Subscript o i tpos] value pos.line X.env = pure false := by rfl) (hw : swappedStores [.Subscript o i tpos] value X.env = pure none := by rfl)
    (h1 : (assignEach [.Subscript o i tpos] X.env).map (·.2) = [assign (.Subscript o i tpos) X.env] := by rfl)
    (ha : ∀ v, assign (.Subscript o i tpos) X.env v = (do
      let ov ← holding [v] (eval o X.env)
      let iv ← holding [v, ov] (eval i X.env)
      standAt tpos
      holding [v, ov, iv] (setItem ov iv v)
      release [v, ov, iv] []) := by intro _; rfl) : PSm T X Ew (.Assign [.Subscript o i tpos] value pos) (sSetIx fo fi fe) := by
  refine PS.to (ps_asg hv (pg_sub ho hi set_list ha) hs hw h1) fun D σ H ⟨W, ρ, S, sr, er, h⟩ => ⟨W, ρ, S, sr, er, SPo.of er h fun W1 S1 H1 u l1 s1 h1 z vz => ?_⟩
  refine ⟨W1, ρ, S1, s1, er.mono l1, SPo.of (er.mono l1) h1 fun W2 S2 H2 v l2 s2 h2 x vx => ⟨W2, ρ, S2, s2, (er.mono l1).mono l2, SPo.of ((er.mono l1).mono l2) h2 fun W3 S3 H3 j l3 s3 h3 y vy => ?_⟩⟩
  cases e : setIx v j u S3 with
  | none => rw [e] at h3; exact False.elim h3
  | some S4 =>
    rw [e] at h3
    exact setIx_ok s3 (vx.mono l3) vy (vz.mono (l2.trans l3)) e fun H' s' => h3 W3 H' σ (.refl _) s' (((er.mono l1).mono l2).mono l3)
/-- a[i], b[j] = e, e a pair -/
def sSetIx2 (o i o2 i2 e : EM) : SM := fun ρ S => (e ρ S).toS ρ fun t S1 => match t with
  | .tup [u, w] => (o ρ S1).toS ρ fun v S2 => (i ρ S2).toS ρ fun j S3 => (match setIx v j u S3 with
    | some S4 => (o2 ρ S4).toS ρ fun v2 S5 => (i2 ρ S5).toS ρ fun j2 S6 => (match setIx v2 j2 w S6 with
      | some S7 => .nx ρ S7
      | none => .st)
    | none => .st)
  | _ => .st
theorem ms_setIx2 {o2 i2 : Expr} {fo2 fi2 : EM} {p3 p4 : Pos} {kk : Nat} (hc : X.calm = true) (hv : PEm T X Ew value fe) (ho : PEm T X Ew o fo) (hi : PEm T X Ew i fi) (ho2 : PEm T X Ew o2 fo2) (hi2 : PEm T X Ew i2 fi2)
    (hs : swapsWithSole [.Tuple [.Subscript o i tpos, .Subscript o2 i2 p3] kk p4] value pos.line X.env = pure false := by rfl) (hw : swappedStores [.Tuple [.Subscript o i tpos, .Subscript o2 i2 p3] kk p4] value X.env = pure none := by rfl)
    (h1 : (assignEach [.Tuple [.Subscript o i tpos, .Subscript o2 i2 p3] kk p4] X.env).map (·.2) = [assign (.Tuple [.Subscript o i tpos, .Subscript o2 i2 p3] kk p4) X.env] := by rfl)
    (ha : ∀ v, assign (.Subscript o i tpos) X.env v = (do
      let ov ← holding [v] (eval o X.env)
      let iv ← holding [v, ov] (eval i X.env)
      standAt tpos
      holding [v, ov, iv] (setItem ov iv v)
      release [v, ov, iv] []) := by intro _; rfl)
    (ha2 : ∀ v, assign (.Subscript o2 i2 p3) X.env v = (do
      let ov ← holding [v] (eval o2 X.env)
      let iv ← holding [v, ov] (eval i2 X.env)
      standAt p3
      holding [v, ov, iv] (setItem ov iv v)
      release [v, ov, iv] []) := by intro _; rfl)
    (hn : (assignEach [.Subscript o i tpos, .Subscript o2 i2 p3] X.env).length = 2 := by rfl) (hst : (assignEach [.Subscript o i tpos, .Subscript o2 i2 p3] X.env).findIdx? (·.1) = none := by rfl)
    (hs1 : (assignEach [.Subscript o i tpos, .Subscript o2 i2 p3] X.env).map (·.2) = assign (.Subscript o i tpos) X.env :: (assignEach [.Subscript o2 i2 p3] X.env).map (·.2) := by rfl)
    (hs2 : (assignEach [.Subscript o2 i2 p3] X.env).map (·.2) = assign (.Subscript o2 i2 p3) X.env :: (assignEach [] X.env).map (·.2) := by rfl) :
    PSm T X Ew (.Assign [.Tuple [.Subscript o i tpos, .Subscript o2 i2 p3] kk p4] value pos) (sSetIx2 fo fi fo2 fi2 fe) := by
  refine PS.to (ps_asg hv (pg_tup hc (pgs_cons (pg_sub ho hi set_list ha) (pgs_cons (pg_sub ho2 hi2 set_list ha2) pgs_nil hs2) hs1) hn hst) hs hw h1) fun D σ H ⟨W, ρ, S, sr, er, h⟩ => ⟨W, ρ, S, sr, er, SPo.of er h fun W1 S1 H1 t l1 s1 h1 z vz => ?_⟩
  cases vz with
  | @tup a vs xs hy r =>
    cases r with
    | nil => exact False.elim h1
    | cons r1 rr =>
      cases rr with
      | nil => exact False.elim h1
      | cons r2 rr =>
        cases rr with
        | cons _ _ => exact False.elim h1
        | nil =>
          refine ⟨_, _, rfl, TQ_sq s1.sub hy, rfl, _, _, rfl, ?_⟩
          refine ⟨W1, ρ, S1, s1, er.mono l1, SPo.of (er.mono l1) h1 fun W2 S2 H2 v l2 s2 h2 x vx => ⟨W2, ρ, S2, s2, (er.mono l1).mono l2, SPo.of ((er.mono l1).mono l2) h2 fun W3 S3 H3 j l3 s3 h3 y vy => ?_⟩⟩
          have er3 := ((er.mono l1).mono l2).mono l3
          rename_i u xu w xw
          cases e : setIx v j u S3 with
          | none => rw [e] at h3; exact False.elim h3
          | some S4 =>
            rw [e] at h3
            refine setIx_ok s3 (vx.mono l3) vy (r1.mono (l2.trans l3)) e fun H4 s4 => ?_
            refine ⟨_, _, rfl, W3, ρ, S4, s4, er3, SPo.of er3 h3 fun W5 S5 H5 v2 l5 s5 h5 x2 vx2 => ⟨W5, ρ, S5, s5, er3.mono l5, SPo.of (er3.mono l5) h5 fun W6 S6 H6 j2 l6 s6 h6 y2 vy2 => ?_⟩⟩
            cases e2 : setIx v2 j2 w S6 with
            | none => rw [e2] at h6; exact False.elim h6
            | some S7 =>
              rw [e2] at h6
              exact setIx_ok s6 (vx2.mono l6) vy2 (r2.mono (((l2.trans l3).trans l5).trans l6)) e2 fun H' s' => ⟨rfl, h6 W6 H' σ (.refl _) s' ((er3.mono l5).mono l6)⟩
  | _ => exact False.elim h1
end

/-! ### methods of lists -/
def isLst (v : Val) (S : Sto) : Bool := (lstOf S v).isSome
theorem isLst_ok {K : PySem.W.Frag} {T : Tbl} (W : Wd) (S : Sto) (H : Hp) (v : Val) (y : V) (s : SR K T W S H) (r : VR K T W v y) (h : isLst v S = true) : tyV K "list" y H := by
  unfold isLst at h
  cases e : lstOf S v with
  | none => rw [e] at h; cases h
  | some xs =>
    obtain ⟨a, ys, rfl, hy, _⟩ := lstOf_ok s r e
    exact .inl ⟨rfl, ys, hy⟩
def vAppend (v : Val) (vs : List Val) (S : Sto) : Res Val := match v, vs with
  | .loc k, [u] => match S.objs k with
    | some (.lst xs) => if xs.length < sizeLine then .ok .non (S.put k (.lst (xs ++ [u]))) else .st
    | _ => .st
  | _, _ => .st
def vExtend (v : Val) (vs : List Val) (S : Sto) : Res Val := match v, vs with
  | .loc k, [u] => match S.objs k, mlstOf S u with
    | some (.lst xs), some ys => if xs.length + ys.length ≤ sizeLine then .ok .non (S.put k (.lst (xs ++ ys))) else .st
    | _, _ => .st
  | _, _ => .st
def vPopAt (v : Val) (vs : List Val) (S : Sto) : Res Val := match v, vs with
  | .loc k, [.int i] => match S.objs k with
    | some (.lst xs) => if -(2 ^ 63) ≤ i ∧ i < 2 ^ 63 then (match seqIndex? i xs.length with
      | some j => (match xs[j]? with
        | some u => .ok u (S.put k (.lst (xs.eraseIdx j)))
        | none => .st)
      | none => .st) else .st
    | _ => .st
  | _, _ => .st
section
variable {K : PySem.W.Frag} {T : Tbl}
theorem w_append : OpM K T rAppend vAppend := by
  intro W S H v y vs xs Q PX s rv rs q
  unfold vAppend at q
  split at q
  · rename_i k u
    cases rs with
    | cons r1 r2 =>
      cases r2
      cases rv with
      | loc hk =>
        cases e : S.objs k with
        | none => simp only [e] at q; exact False.elim q
        | some b =>
          cases b with
          | lst ys =>
            simp only [e] at q
            obtain ⟨zs, hz, r⟩ := locLst s e
            by_cases hl : ys.length < sizeLine
            · rw [if_pos hl] at q
              exact ⟨_, zs, _, rfl, rfl, hz, by rw [← r.length]; exact hl, q W _ (.refl _) (s.put e ⟨_, upd_same, r.append (.cons r1 .nil)⟩) _ .non⟩
            · rw [if_neg hl] at q; exact False.elim q
          | _ => simp only [e] at q; exact False.elim q
  · exact False.elim q
theorem w_extend : OpM K T rExtend vExtend := by
  intro W S H v y vs xs Q PX s rv rs q
  unfold vExtend at q
  split at q
  · rename_i k u
    cases rs with
    | cons r1 r2 =>
      cases r2
      cases rv with
      | loc hk =>
        cases e : S.objs k with
        | none => simp only [e] at q; exact False.elim q
        | some b =>
          cases b with
          | lst ys =>
            simp only [e] at q
            cases e2 : mlstOf S u with
            | none => rw [e2] at q; exact False.elim q
            | some us =>
              rw [e2] at q
              simp only at q
              obtain ⟨zs, hz, r⟩ := locLst s e
              obtain ⟨b, ws, rfl, hw, r2⟩ := mlstOf_ok s r1 e2
              by_cases hl : ys.length + us.length ≤ sizeLine
              · rw [if_pos hl] at q
                exact ⟨_, b, zs, ws, rfl, rfl, hz, hw, by rw [← r.length, ← r2.length]; exact hl, q W _ (.refl _) (s.put e ⟨_, upd_same, r.append r2⟩) _ .non⟩
              · rw [if_neg hl] at q; exact False.elim q
          | _ => simp only [e] at q; exact False.elim q
  · exact False.elim q
theorem w_popAt : OpM K T rPopAt vPopAt := by
  intro W S H v y vs xs Q PX s rv rs q
  unfold vPopAt at q
  split at q
  · rename_i k i
    cases rs with
    | cons r1 r2 =>
      cases r2
      cases r1
      cases rv with
      | loc hk =>
        cases e : S.objs k with
        | none => simp only [e] at q; exact False.elim q
        | some b =>
          cases b with
          | lst ys =>
            simp only [e] at q
            obtain ⟨zs, hz, r⟩ := locLst s e
            by_cases hl : -(2 ^ 63) ≤ i ∧ i < 2 ^ 63
            · rw [if_pos hl] at q
              cases e2 : seqIndex? i ys.length with
              | none => rw [e2] at q; exact False.elim q
              | some j =>
                rw [e2] at q
                simp only at q
                cases e3 : ys[j]? with
                | none => rw [e3] at q; exact False.elim q
                | some u =>
                  rw [e3] at q
                  obtain ⟨z, h1, h2⟩ := r.get e3
                  exact ⟨_, zs, i, j, z, rfl, rfl, hz, hl.1, hl.2, by rw [← r.length]; exact e2, h1, q W _ (.refl _) (s.put e ⟨_, upd_same, r.eraseIdx j⟩) _ h2⟩
            · rw [if_neg hl] at q; exact False.elim q
          | _ => simp only [e] at q; exact False.elim q
  · exact False.elim q
end

/-! ### list(range(..)) -/
def eListR (bx : Bool) (a b : EM) : EM := fun ρ S => (a ρ S).bind fun v S1 => (b ρ S1).bind fun w S2 => match v, w with
  | .int i, .int j => if -(2 ^ 62) ≤ i ∧ i < 2 ^ 62 ∧ -(2 ^ 62) ≤ j ∧ j < 2 ^ 62 ∧ (j - i).toNat ≤ 2 ^ 24 then mkL bx (rangeL i (j - i).toNat) S2 else .st
  | _, _ => .st
theorem rangeL_vr {K : PySem.W.Frag} {T : Tbl} {W : Wd} (a b : Int) : VRs K T W (rangeL a (b - a).toNat) (rgV a b) := by
  unfold rangeL rgV
  induction (List.range (b - a).toNat) with
  | nil => exact .nil
  | cons i r ih => exact .cons (.int _) ih
section
variable {T : Tbl} {X : Cx} {Ew : XW} {a b e : Expr} {fa fb : EM} {p p2 pos pos2 : Pos} {bx : Bool}
theorem m_listR1 (hc : X.calm = true) (hg : Gl X "list") (hm : X.mg "list" = none) (hg2 : Gl X "range") (hm2 : X.mg "range" = none) (ha : PEm T X Ew a fa) (na : starEach [a] X.env = (false, eval a X.env) :: starEach [] X.env := by rfl)
    (n2 : starEach [.Call (.Name "range" p2) [a] [] pos2] X.env = (false, eval (.Call (.Name "range" p2) [a] [] pos2) X.env) :: starEach [] X.env := by rfl) :
    PEm T X Ew (.Call (.Name "list" p) [.Call (.Name "range" p2) [a] [] pos2] [] pos) (eListR bx (eC (.int 0)) fa) := by
  refine PE.to (pe_listRg hc hg hm (prg_1 hg2 hm2 ha na) n2) fun σ H Q h => ?_
  obtain ⟨W, ρ, S, s, er, h⟩ := h
  have h' : RP X.K T W ((fa ρ S).bind fun w S2 => match (Val.int 0), w with
    | .int i, .int j => if -(2 ^ 62) ≤ i ∧ i < 2 ^ 62 ∧ -(2 ^ 62) ≤ j ∧ j < 2 ^ 62 ∧ (j - i).toNat ≤ 2 ^ 24 then mkL bx (rangeL i (j - i).toNat) S2 else .st
    | _, _ => .st) (VP X.K T Q) (fun H' c o => Ew c o σ H') := h
  refine ⟨W, ρ, S, s, er, RP.bind h' fun W1 S1 H1 v l1 s1 h1 x vx => ?_⟩
  cases vx with
  | int j =>
    simp only at h1
    split at h1
    · rename_i c
      obtain ⟨c1, c2, c3, c4, c5⟩ := c
      exact ⟨j, rfl, ⟨c1, c2, c3, c4, c5⟩, fun q hq => mkL_ok s1 (rangeL_vr 0 j) hq h1⟩
    · exact False.elim h1
  | _ => exact False.elim h1
theorem m_listR2 (hc : X.calm = true) (hg : Gl X "list") (hm : X.mg "list" = none) (hg2 : Gl X "range") (hm2 : X.mg "range" = none) (ha : PEm T X Ew a fa) (hb : PEm T X Ew b fb) (na : starEach [a, b] X.env = (false, eval a X.env) :: starEach [b] X.env := by rfl)
    (nb : starEach [b] X.env = (false, eval b X.env) :: starEach [] X.env := by rfl) (hp : (backTo pos2 (starEach [b] X.env)).any (·.1) = false := by rfl)
    (n2 : starEach [.Call (.Name "range" p2) [a, b] [] pos2] X.env = (false, eval (.Call (.Name "range" p2) [a, b] [] pos2) X.env) :: starEach [] X.env := by rfl) :
    PEm T X Ew (.Call (.Name "list" p) [.Call (.Name "range" p2) [a, b] [] pos2] [] pos) (eListR bx fa fb) := by
  refine PE.to (pe_listRg hc hg hm (prg_2 hg2 hm2 ha hb na nb hp) n2) fun σ H Q h => ?_
  obtain ⟨W, ρ, S, s, er, h⟩ := h
  refine ⟨W, ρ, S, s, er, RP.bind h fun W1 S1 H1 v l1 s1 h1 x vx => ⟨W1, ρ, S1, s1, er.mono l1, RP.bind h1 fun W2 S2 H2 w l2 s2 h2 y vy => ?_⟩⟩
  cases vx with
  | int i =>
    cases vy with
    | int j =>
      simp only at h2
      split at h2
      · rename_i c
        obtain ⟨c1, c2, c3, c4, c5⟩ := c
        exact ⟨i, j, rfl, rfl, ⟨c1, c2, c3, c4, c5⟩, fun q hq => mkL_ok s2 (rangeL_vr i j) hq h2⟩
      · exact False.elim h2
    | _ => exact False.elim h2
  | _ => cases vy <;> exact False.elim h2
end

/-! ### sorted of ints -/
def intsOf : List Val → Option (List Int)
  | [] => some []
  | .int i :: vs => (intsOf vs).map (i :: ·)
  | _ :: _ => none
theorem intsOf_eq : ∀ {vs : List Val} {ns : List Int}, intsOf vs = some ns → vs = ns.map Val.int
  | [], _, h => by cases h; rfl
  | v :: vs, ns, h => by
    cases v with
    | int i =>
      unfold intsOf at h
      cases e : intsOf vs with
      | none => rw [e] at h; cases h
      | some ms => rw [e] at h; cases h; rw [intsOf_eq e]; rfl
    | _ => cases h
def insI (x : Int) : List Int → List Int
  | [] => [x]
  | y :: ys => if x ≤ y then x :: y :: ys else y :: insI x ys
def sortI : List Int → List Int
  | [] => []
  | x :: xs => insI x (sortI xs)
theorem insI_perm (x : Int) : ∀ ys, (insI x ys).Perm (x :: ys)
  | [] => .refl _
  | y :: ys => by
    unfold insI
    by_cases h : x ≤ y
    · rw [if_pos h]
    · rw [if_neg h]
      exact ((insI_perm x ys).cons y).trans (.swap x y ys)
theorem sortI_perm : ∀ xs, (sortI xs).Perm xs
  | [] => .refl _
  | x :: xs => (insI_perm x _).trans ((sortI_perm xs).cons x)
theorem insI_sorted (x : Int) : ∀ {ys : List Int}, ys.Pairwise (· ≤ ·) → (insI x ys).Pairwise (· ≤ ·)
  | [], _ => List.pairwise_singleton _ _
  | y :: ys, h => by
    unfold insI
    obtain ⟨h1, h2⟩ := List.pairwise_cons.mp h
    by_cases c : x ≤ y
    · rw [if_pos c]
      refine List.pairwise_cons.mpr ⟨fun z hz => ?_, h⟩
      rcases List.mem_cons.mp hz with rfl | hz
      · exact c
      · exact Int.le_trans c (h1 z hz)
    · rw [if_neg c]
      refine List.pairwise_cons.mpr ⟨fun z hz => ?_, insI_sorted x h2⟩
      rcases List.mem_cons.mp ((insI_perm x ys).mem_iff.mp hz) with rfl | hz
      · omega
      · exact h1 z hz
theorem sortI_sorted : ∀ xs, (sortI xs).Pairwise (· ≤ ·)
  | [] => .nil
  | x :: xs => insI_sorted x (sortI_sorted xs)
theorem sorted_unique : ∀ {xs ys : List Int}, xs.Perm ys → xs.Pairwise (· ≤ ·) → ys.Pairwise (· ≤ ·) → xs = ys
  | [], ys, p, _, _ => (List.nil_perm.mp p).symm ▸ rfl
  | x :: xs, [], p, _, _ => by simpa using p.length_eq
  | x :: xs, y :: ys, p, h1, h2 => by
    obtain ⟨a1, a2⟩ := List.pairwise_cons.mp h1
    obtain ⟨b1, b2⟩ := List.pairwise_cons.mp h2
    have e : x = y := by
      have hx : x ∈ y :: ys := p.mem_iff.mp List.mem_cons_self
      have hy : y ∈ x :: xs := p.mem_iff.mpr List.mem_cons_self
      have l1 : y ≤ x := by rcases List.mem_cons.mp hx with q | q; · omega
                            · exact b1 x q
      have l2 : x ≤ y := by rcases List.mem_cons.mp hy with q | q; · omega
                            · exact a1 y q
      omega
    subst e
    rw [sorted_unique ((List.perm_cons x).mp p) a2 b2]
def vSortI (bx : Bool) (vs : List Val) (S : Sto) : Res Val := match vs with
  | [v] => match (lstOf S v).bind intsOf with
    | some ns => mkL bx ((sortI ns).map Val.int) S
    | none => .st
  | _ => .st
theorem l_sortI {K : PySem.W.Frag} {T : Tbl} (bx : Bool) : OpL K T (rSortedI K) (vSortI bx) := by
  intro W S H vs xs Q PX s r q
  unfold vSortI at q
  split at q
  · rename_i v
    cases r with
    | cons r1 r2 =>
      cases r2
      cases e : lstOf S v with
      | none => rw [e] at q; exact False.elim q
      | some ys =>
        rw [e] at q
        cases e2 : intsOf ys with
        | none => simp only [Option.bind, e2] at q; exact False.elim q
        | some ns =>
          simp only [Option.bind, e2] at q
          obtain ⟨a, zs, rfl, hz, rz⟩ := lstOf_ok s r1 e
          rw [intsOf_eq e2] at rz
          have ez := rz.ints
          subst ez
          refine ⟨a, ns, rfl, hz, fun ns' p hp hs hf => ?_⟩
          have en : ns' = sortI ns := sorted_unique (hp.trans (sortI_perm ns).symm) hs (sortI_sorted ns)
          subst en
          exact mkL_ok s (VRs.ofInts _) hf q
  · exact False.elim q

/-! ### in, not in -/
def flatD : PyData → Bool
  | .none => true | .bool _ => true | .int _ => true | .str _ => true
  | _ => false
theorem flat_eqv {K : PySem.W.Frag} {H : Hp} {x y : V} {d e : PyData} (h1 : Dp K H x d) (h2 : Dp K H y e) (f1 : flatD d = true) (f2 : flatD e = true) : flatV x = true ∧ flatV y = true ∧ eqV x y = PyData.eqv d e := by
  cases h1 <;> first | (cases f1; done) | skip
  all_goals (cases h2 <;> first | (cases f2; done) | exact ⟨rfl, rfl, rfl⟩)
theorem flat_in {K : PySem.W.Frag} {H : Hp} {x : V} {d : PyData} (h1 : Dp K H x d) (f1 : flatD d = true) : ∀ {ys : List V} {ds : List PyData}, DpAll K H ys ds → ds.all flatD = true → ys.all flatV = true ∧ inV x ys = ds.any fun z => PyData.eqv z d
  | _, _, .nil, _ => ⟨rfl, rfl⟩
  | _, _, .cons a r, h => by
    rw [List.all_cons, Bool.and_eq_true] at h
    obtain ⟨q1, q2⟩ := flat_in h1 f1 r h.2
    obtain ⟨p1, p2, p3⟩ := flat_eqv a h1 h.1 f1
    refine ⟨by rw [List.all_cons, p1, q1]; rfl, ?_⟩
    unfold inV at q2 ⊢
    rw [List.any_cons, List.any_cons, p3, q2]
def vInW (neg : Bool) (v w : Val) (S : Sto) : Res Val := match w with
  | .tup ys => match datS S v, Val.dats ys with
    | some d, some ds => if flatD d = true ∧ ds.all flatD = true then .ok (.bl (if neg then !(ds.any fun z => PyData.eqv z d) else ds.any fun z => PyData.eqv z d)) S else .st
    | _, _ => .st
  | w => match datS S v, datS S w with
    | some d, some (.list ds) => if SeqAt.shaped d = true ∧ SeqAt.shaped (.list ds) = true then .ok (.bl (if neg then !(ds.any fun z => PyData.eqv z d) else ds.any fun z => PyData.eqv z d)) S else .st
    | _, _ => .st
def rInW (K : PySem.W.Frag) (neg : Bool) : R2 := fun x y H Q => (if neg then rNotInD K x y H Q else rInD K x y H Q) ∨ rIn K neg x y H Q
theorem o_in {K : PySem.W.Frag} {T : Tbl} (neg : Bool) : Op2 K T (rInW K neg) (vInW neg) := by
  intro W S H v w x y Q PX s vx vy q
  have lists : ∀ {w : Val}, VR K T W w y → RP K T W (match datS S v, datS S w with
    | some d, some (.list ds) => if SeqAt.shaped d = true ∧ SeqAt.shaped (.list ds) = true then .ok (.bl (if neg then !(ds.any fun z => PyData.eqv z d) else ds.any fun z => PyData.eqv z d)) S else .st
    | _, _ => .st) (VP K T Q) PX → rInW K neg x y H Q := fun {w} vy q => by
    cases e1 : datS S v with
    | none => simp only [e1] at q; exact False.elim q
    | some d =>
      cases e2 : datS S w with
      | none => simp only [e1, e2] at q; exact False.elim q
      | some dd =>
        cases dd with
        | list ds =>
          simp only [e1, e2] at q
          by_cases c : SeqAt.shaped d = true ∧ SeqAt.shaped (.list ds) = true
          · rw [if_pos c] at q
            refine .inl ?_
            cases neg with
            | true => exact ⟨d, ds, datS_ok s vx e1, datS_ok s vy e2, c.1, c.2, q.now s _ (.bl _)⟩
            | false => exact ⟨d, ds, datS_ok s vx e1, datS_ok s vy e2, c.1, c.2, q.now s _ (.bl _)⟩
          · rw [if_neg c] at q; exact False.elim q
        | _ => simp only [e1, e2] at q; exact False.elim q
  cases w with
  | tup ys =>
    obtain ⟨a, zs, rfl, hz, r⟩ := tup_ok s vy
    unfold vInW at q
    simp only at q
    cases e1 : datS S v with
    | none => simp only [e1] at q; exact False.elim q
    | some d =>
      cases e2 : Val.dats ys with
      | none => simp only [e1, e2] at q; exact False.elim q
      | some ds =>
        simp only [e1, e2] at q
        by_cases c : flatD d = true ∧ ds.all flatD = true
        · rw [if_pos c] at q
          have dx := datS_ok s vx e1
          obtain ⟨p1, p2⟩ := flat_in dx c.1 (Val.dats_ok s.sub r e2) c.2
          have fx : flatV x = true := by
            obtain ⟨z, _, _⟩ := flat_eqv dx dx c.1 c.1
            exact z
          refine .inr ⟨a, zs, rfl, .inr hz, fx, p1, ?_⟩
          rw [p2]
          exact q.now s _ (.bl _)
        · rw [if_neg c] at q; exact False.elim q
  | _ => exact lists vy q
theorem or_in {X : Cx} (hu : X.A.units + 65 < cLine) : OpR X (compareOp .In) (rInW X.K false) := OpR.or (op_inD hu) op_in_seq
theorem or_notIn {X : Cx} (hu : X.A.units + 65 < cLine) : OpR X (compareOp .NotIn) (rInW X.K true) := OpR.or (op_notInD hu) op_notIn_seq
end PM

/-! PM, part h: raise; calls whose errors go on; dicts by int or text -/
namespace PM
open PySem PySem.Spec L2

def sRaise (c : Nat) : SM := fun ρ S => .ex c [] ρ S
/-- what is known of an error class without own __init__ -/
structure EO (K : PySem.W.Frag) (mg : Str → Option Value) (T : Tbl) (c : Nat) (C : Addr) (x : Str) : Prop where
  at_ : T.cl c = some C
  fl : T.fl c = []
  gC : mg x = some (.ref C)
  q : PySem.W.excIn K C [.type "ValueError", .type "Exception", .type "BaseException", .type "object"] "ValueError.__new__" = true
  kC : PySem.W.keepIn K (.ref C) = true
  b : PySem.W.subIn K (.ref C) (.type "BaseException") = some true
  t : PySem.W.typeIn K (.ref C) = some (.type "type")
section
variable {T : Tbl} {X : Cx} {Ew : XW} {k : Nat} {f C : Addr} {fd : FuncData} {ps : List Str} {n : Nat} {F : FM} {x m fl : Str} {p p2 pos apos : Pos} {e o value : Expr} {es : List Expr} {fo fe : EM} {fs : AM} {c i : Nat}
theorem ms_raise {j : Nat} (hc : X.calm = true) (tk : Takes X Ew) (E : EO X.K X.mg T c C x) (hg : Gl X x) (hdb : (x == ("__debug__" : Str)) = false := by decide) :
    PSm T X Ew (.Raise (some (.Call (.Name x p) [.Constant (.str m) j p2] [] apos)) none pos) (sRaise c) :=
  PS.to (ps_raise hc tk (pmk_own PySem.F.excBase_ValueError E.q E.gC E.kC (raises_own E.b E.t) hg hdb)) fun D σ H ⟨W, ρ, S, sr, er, h⟩ => h W H σ (.ref C) none (.refl _) sr er ⟨C, E.at_, rfl, .inl ⟨E.fl, rfl, rfl⟩⟩

/-- o.m(..) whose error goes on -/
theorem pe_methQ {sp : Sp} {E : L2.St → XK} {ta : TE} {t : TA} {pl : Sem Bool} (he : PE X o ta) (c : Cls X.K C) (hm : Meth X.K C m f) (G : FnOk X.prog X.w X.K X.mg X.base (L2.CX X.prog X.w) k f fd ps sp) (hr : Room k X.A) (hb : Binds X.K fd ps []) (hx : ∀ σ, PassesAt (L2.CX X.prog X.w) X σ (E σ)) (ha : PA X (e :: es) t)
    (hst : starEach (e :: es) X.env = (false, eval e X.env) :: starEach es X.env := by rfl) (hpl : (backTo pos (starEach es X.env)).any (·.1) = false := by rfl)
    (ht : eval (.Call (.Attribute o m apos) (e :: es) [] pos) X.env = (do
      let ov ← eval o X.env
      standAt apos.atName
      let (f, first) ← holding [ov] (getMethod ov m pl)
      callWith pos f first (backTo pos (starEach (e :: es) X.env)) (backToKw pos (keywordEach [] X.env))) := by rfl) :
    PE X (.Call (.Attribute o m apos) (e :: es) [] pos) (fun σ H Q => ta σ H fun x H1 => ∃ a dx fs, x = .ref a ∧ H1 a = some (.ins C dx fs) ∧ fs.lookup m = none ∧ t σ H1 fun vs H2 => sp (x :: vs) H2 Q (E σ)) := by
  refine ⟨fun pins s σ H Q I h => ?_⟩
  refine PySem.W.methodCall_KW (pl := pl) (thn (he.run pins s σ H _ I h) fun u s1 ⟨x, H1, I1, rx, a, dx, fs, ex, ea, l, q⟩ => ?_) ht
  subst ex
  obtain rfl : u = Value.ref a := rx
  refine getmeth_ok I1 ea c hm l ?_
  refine PySem.W.callWith_K (first := [.ref a]) (h₀ := X.base) I.ok.mod.kin hm.kp (thn (ha.run pos pins s1 σ H1 _ I1 q) fun us s2 ⟨vs, H2, I2, r, q2⟩ => ⟨I2.kIn, ?_⟩) hst hpl
  exact run_fnS (us := .ref a :: us) (vs := .ref a :: vs) G hr hb (hx σ) I2 (.cons rfl r) q2
def eMethXN (n c : Nat) (F : FM) (o : EM) (a : AM) : EM := fun ρ S => (o ρ S).bind fun v S1 => if isInst c S1 v then (a ρ S1).bind fun vs S2 => if (v :: vs).length = n then F (v :: vs) S2 else .st else .st
theorem m_methX {pl : Sem Bool} (tk : Takes X Ew) (O : CO X.K T c C) (hmn : m ∉ T.fl c) (ho : PEm T X Ew o fo) (hm : Meth X.K C m f) (G : FnOk X.prog X.w X.K X.mg X.base (L2.CX X.prog X.w) k f fd ps (spD X.K T n F)) (hr : Room k X.A) (hb : Binds X.K fd ps [])
    (ha : PAm T X Ew (e :: es) fs)
    (hst : starEach (e :: es) X.env = (false, eval e X.env) :: starEach es X.env := by rfl) (hpl : (backTo pos (starEach es X.env)).any (·.1) = false := by rfl)
    (ht : eval (.Call (.Attribute o m apos) (e :: es) [] pos) X.env = (do
      let ov ← eval o X.env
      standAt apos.atName
      let (f, first) ← holding [ov] (getMethod ov m pl)
      callWith pos f first (backTo pos (starEach (e :: es) X.env)) (backToKw pos (keywordEach [] X.env))) := by rfl) :
    PEm T X Ew (.Call (.Attribute o m apos) (e :: es) [] pos) (eMethXN n c F fo fs) := by
  refine PE.to (pe_methQ (E := WE Ew) ho O.cls hm G hr hb (fun σ => passAt tk σ) ha hst hpl ht) fun σ H Q h => ?_
  obtain ⟨W, ρ, S, s, er, h⟩ := h
  refine ⟨W, ρ, S, s, er, RP.bind h fun W1 S1 H1 v l1 s1 h1 y vy => ?_⟩
  cases hi : isInst c S1 v with
  | false => rw [hi] at h1; exact False.elim h1
  | true =>
    rw [hi, if_pos rfl] at h1
    obtain ⟨a, dx, xs, rfl, hH⟩ := isInst_ok O s1 vy hi
    refine ⟨a, dx, _, rfl, hH, lookup_none hmn, W1, ρ, S1, s1, er.mono l1, RP.bind h1 fun W2 S2 H2 vs l2 s2 h2 zs vz => ?_⟩
    by_cases hl : (v :: vs).length = n
    · rw [if_pos hl] at h2; exact spD_of s2 (.cons (vy.mono l2) vz) hl h2 fun _ _ _ q => q
    · rw [if_neg hl] at h2; exact False.elim h2
end

/-! ### a dict's pairs -/
def putS {κ α : Type} [DecidableEq κ] (k : κ) (v : α) : List κ → List α → List κ × List α
  | k' :: ks, x :: xs => if k' = k then (k' :: ks, v :: (ks.zip xs).map fun p => if p.1 = k then v else p.2) else (k' :: (putS k v ks xs).1, x :: (putS k v ks xs).2)
  | _, _ => ([k], [v])
def lookS {κ α : Type} [DecidableEq κ] (k : κ) : List κ → List α → Option α
  | k' :: ks, x :: xs => if k' = k then some x else lookS k ks xs
  | _, _ => none
theorem lookS_val {κ : Type} [DecidableEq κ] {k : κ} : ∀ {ks : List κ} {xs : List V}, valV (ks.zip xs) k = lookS k ks xs
  | [], _ => by simp [valV, lookS]
  | _ :: _, [] => by simp [valV, lookS]
  | k' :: ks, x :: xs => by
    by_cases e : k' = k
    · rw [List.zip_cons_cons, valV_pos (p := (k', x)) e]; simp [lookS, e]
    · rw [List.zip_cons_cons, valV_neg (p := (k', x)) e, lookS_val]; simp [lookS, e]
theorem lookS_vr {K : PySem.W.Frag} {T : Tbl} {W : Wd} {κ : Type} [DecidableEq κ] {k : κ} : ∀ {ks : List κ} {vs : List Val} {xs : List V}, VRs K T W vs xs → (∀ v, lookS k ks vs = some v → ∃ x, lookS k ks xs = some x ∧ VR K T W v x) ∧ (lookS k ks vs = none → lookS k ks xs = none)
  | [], _, _, _ => ⟨fun v h => by simp [lookS] at h, fun _ => by simp [lookS]⟩
  | _ :: _, _, _, .nil => ⟨fun v h => by simp [lookS] at h, fun _ => by simp [lookS]⟩
  | k' :: ks, _, _, .cons a r => by
    have ih := lookS_vr (k := k) (ks := ks) r
    by_cases e : k' = k
    · simp only [lookS, if_pos e]
      exact ⟨fun v h => by cases h; exact ⟨_, rfl, a⟩, fun h => by cases h⟩
    · simp only [lookS, if_neg e]
      exact ih
theorem putK_S {κ : Type} [DecidableEq κ] {k : κ} {y : V} : ∀ {ks : List κ} {xs : List V}, ks.length = xs.length → putK (ks.zip xs) k y = (putS k y ks xs).1.zip (putS k y ks xs).2 ∧ (putS k y ks xs).1.length = (putS k y ks xs).2.length
  | [], [], _ => by simp [putK, putS]
  | [], _ :: _, h => by simp at h
  | _ :: _, [], h => by simp at h
  | k' :: ks, x :: xs, h => by
    have hl : ks.length = xs.length := by simpa using h
    obtain ⟨ih, ihl⟩ := putK_S (k := k) (y := y) hl
    by_cases e : k' = k
    · subst e
      simp only [putS, if_pos]
      constructor
      · unfold putK
        have : (((k', x) :: ks.zip xs).any fun kv => decide (kv.1 = k')) = true := by simp
        rw [List.zip_cons_cons, if_pos this, List.map_cons, List.zip_cons_cons]
        simp only [if_pos]
        congr 1
        clear ih ihl this h
        induction ks generalizing xs with
        | nil => simp
        | cons z zs ih2 =>
          cases xs with
          | nil => simp
          | cons w ws =>
            simp only [List.zip_cons_cons, List.map_cons]
            rw [ih2 ws (by simpa using hl)]
            by_cases q : z = k'
            · simp [q]
            · simp [q]
      · simp [hl]
    · simp only [putS, if_neg e]
      constructor
      · unfold putK at ih ⊢
        rw [List.zip_cons_cons, List.zip_cons_cons, ← ih]
        have : (((k', x) :: ks.zip xs).any fun kv => decide (kv.1 = k)) = ((ks.zip xs).any fun kv => decide (kv.1 = k)) := by simp [e]
        rw [this]
        by_cases q : ((ks.zip xs).any fun kv => decide (kv.1 = k)) = true
        · rw [if_pos q, if_pos q, List.map_cons, if_neg e]
        · rw [if_neg q, if_neg q]; rfl
      · simp [ihl]
theorem putT_vr {K : PySem.W.Frag} {T : Tbl} {W : Wd} {κ : Type} [DecidableEq κ] {k : κ} {u : Val} {y : V} (ru : VR K T W u y) : ∀ {ks : List κ} {vs : List Val} {xs : List V}, VRs K T W vs xs →
    VRs K T W ((ks.zip vs).map fun p => if p.1 = k then u else p.2) ((ks.zip xs).map fun p => if p.1 = k then y else p.2)
  | [], _, _, _ => by simp; exact .nil
  | _ :: _, _, _, .nil => by simp; exact .nil
  | z :: zs, _, _, .cons a r => by
    simp only [List.zip_cons_cons, List.map_cons]
    refine .cons ?_ (putT_vr ru r)
    by_cases q : z = k
    · simp only [if_pos q]; exact ru
    · simp only [if_neg q]; exact a
theorem putS_vr {K : PySem.W.Frag} {T : Tbl} {W : Wd} {κ : Type} [DecidableEq κ] {k : κ} {u : Val} {y : V} (ru : VR K T W u y) : ∀ {ks : List κ} {vs : List Val} {xs : List V}, VRs K T W vs xs → (putS k u ks vs).1 = (putS k y ks xs).1 ∧ VRs K T W (putS k u ks vs).2 (putS k y ks xs).2
  | [], _, _, .nil => ⟨rfl, .cons ru .nil⟩
  | [], _, _, .cons _ _ => ⟨rfl, .cons ru .nil⟩
  | _ :: _, _, _, .nil => ⟨rfl, .cons ru .nil⟩
  | k' :: ks, _, _, .cons a r => by
    obtain ⟨i1, i2⟩ := putS_vr (k := k) ru (ks := ks) r
    by_cases e : k' = k
    · simp only [putS, if_pos e]
      exact ⟨trivial, .cons ru (putT_vr ru r)⟩
    · simp only [putS, if_neg e]
      exact ⟨by rw [i1], .cons a i2⟩
def keyOf : Val → Option Key
  | .int i => some (.inl i)
  | .str s => some (.inr s)
  | _ => none
theorem keyOf_ok {K : PySem.W.Frag} {T : Tbl} {W : Wd} {v : Val} {x : V} {k : Key} (r : VR K T W v x) (h : keyOf v = some k) : x = kV k := by
  cases r <;> cases h <;> rfl

/-! ### dict comprehensions, keys ints and texts -/
open Classical in
noncomputable def dcGo (src : Sto → Prop) (tg : Tgt) (tst : BM) (ek ev : EM) (n0 : Nat) (ρ0 : Ev) : List Val → Sto → Res Unit
  | [], S => if src S then .ok () S else .st
  | v :: vs, S => if src S then (match tg.set v ρ0 with
      | some ρ1 => (noEx (tst ρ1 S)).bind fun k S1 => if k then (noEx (ek ρ1 S1)).bind fun a S2 => (noEx (ev ρ1 S2)).bind fun u S3 => (match S3.objs n0, keyOf a with
          | some (.dk false ks us), some q => if ks.length < sizeLine then dcGo src tg tst ek ev n0 ρ0 vs (S3.put n0 (.dk false (putS q u ks us).1 (putS q u ks us).2)) else .st
          | _, _ => .st) else dcGo src tg tst ek ev n0 ρ0 vs S1
      | none => .st) else .st
noncomputable def eDc (it : IM) (tg : Tgt) (tst : BM) (ek ev : EM) (ws : List Nat) : EM := fun ρ S => (it ρ S).bind fun iv S1 =>
  (dcGo iv.src tg tst ek ev S1.next (wipeE ρ ws) iv.items (S1.alloc (.dk false [] []))).bind fun _ S2 => .ok (.loc S1.next) S2
section
variable {T : Tbl} {X : Cx} {Ew : XW} {kx vx tgE iter c : Expr} {ifs : List Expr} {scope : Scope} {own : List (Str × Nat)} {pos : Pos} {it : IM} {tg : Tgt} {tst : BM} {fk fe : EM}
theorem rd_dc (hsl : ∀ i ∈ tg.slots, i ∈ own.map (·.2)) {σ : L2.St} {H : Hp} {Q : VK} (h : rdE X.K T Ew (eDc it tg tst fk fe (own.map (·.2))) σ H Q) :
    tDc (rdI X.K T Ew it) (tg.g X.K) (rdT X.K T XW0 tst) (rdE X.K T XW0 fk) (rdE X.K T XW0 fe) (own.map (·.2)) σ H Q := by
  obtain ⟨W, ρ, S, sr, er, h⟩ := h
  refine ⟨W, ρ, S, sr, er, RP.bind h fun W1 S1 H1 iv l1 s1 h1 J hJ D hD => ?_⟩
  have sB : SR X.K T (W1.box D) (S1.alloc (.dk false [] [])) (upd H1 D (.dK [])) := s1.box (b := .dk false [] []) hD ⟨[], rfl, by rw [if_neg Bool.false_ne_true, upd_same]; rfl, .nil⟩
  have eD : (W1.box D).m S1.next = D := by rw [← s1.nx]; exact Wd.box_at
  have lD : S1.next < (W1.box D).n := by rw [← s1.nx]; exact Nat.lt_succ_self _
  refine ⟨fun i m H => ∃ W S rest, iv.items.drop i = rest ∧ m = rest.length ∧ WLe (W1.box D) W ∧ SR X.K T W S H ∧
      RP X.K T W ((dcGo iv.src tg tst fk fe S1.next (wipeE ρ (own.map (·.2))) rest S).bind fun _ S2 => .ok (.loc S1.next) S2) (VP X.K T Q) (fun H' c o => Ew c o σ H'),
    ⟨_, W1.box D, _, iv.items, rfl, rfl, .refl _, sB, h1.wle .box⟩, fun i m H hW => ?_⟩
  obtain ⟨W, S, rest, hd, rfl, lw, sr, h⟩ := hW
  have wD : W.m S1.next = D := (lw.eq _ lD).trans eD
  cases rest with
  | nil =>
    unfold dcGo at h
    by_cases hsrc : iv.src S
    · rw [if_pos hsrc] at h
      have hn : iv.items[i]? = none := List.getElem?_eq_none (by simpa using hd)
      refine .inl ⟨(hJ W S H (.trans .box lw) sr hsrc i).2 hn, ?_⟩
      have h' : RP X.K T W (.ok (.loc S1.next) S) (VP X.K T Q) (fun H' c o => Ew c o σ H') := h
      have z : VR X.K T W (.loc S1.next) (.ref (W.m S1.next)) := .loc (Nat.lt_of_lt_of_le lD lw.le)
      rw [wD] at z
      exact h'.now sr _ z
    · rw [if_neg hsrc] at h; exact False.elim h
  | cons v vs =>
    unfold dcGo at h
    by_cases hsrc : iv.src S
    · rw [if_pos hsrc] at h
      have hv : iv.items[i]? = some v := by
        have := congrArg (·[0]?) hd
        simpa using this
      have hd' : iv.items.drop (i + 1) = vs := by
        have := congrArg List.tail hd
        simpa using this
      obtain ⟨go, yl⟩ := (hJ W S H (.trans .box lw) sr hsrc i).1 v hv
      refine .inr ⟨go, _, fun H' z => ⟨vs.length, Nat.lt_succ_self _, z⟩, fun x H' y => ?_⟩
      obtain ⟨W2, l2, s2, vx⟩ := yl x H' y
      cases q : tg.set v (wipeE ρ (own.map (·.2))) with
      | none => rw [q] at h; exact False.elim h
      | some ρ1 =>
        rw [q] at h
        have er2 : ER X.K T W2 (wipeE ρ (own.map (·.2))) (L2.wipe σ (own.map (·.2))) := ((er.mono l1).mono (.trans .box (lw.trans l2))).wipe _
        refine Tgt.ok (ws := own.map (·.2)) s2.sub tg vx er2 q fun σ' e' w' => ⟨?_, ?_⟩
        · rw [w' hsl]
          apply List.ext_getElem?
          intro j
          rw [wipe_get, wipe_get]
          rw [wipe_length]
          by_cases hj : j ∈ own.map (·.2) ∧ j < σ.length
          · rw [if_pos hj, if_pos hj]
          · rw [if_neg hj, if_neg hj]
        have hh := h.wle l2
        have bindE : ∀ {α β γ : Type} (r : Res α) (g : α → Sto → Res β) (g2 : β → Sto → Res γ), (r.bind g).bind g2 = r.bind fun a S => (g a S).bind g2 := fun r g g2 => by cases r <;> rfl
        dsimp only at hh
        rw [bindE] at hh
        refine ⟨W2, ρ1, S, s2, e', (RP.bind hh fun W3 S3 H3 k l3 s3 h3 => ?_ : RP X.K T W2 (noEx (tst ρ1 S)) _ (fun H' c o => Ew c o σ H')).noEx⟩
        have lw3 : WLe (W1.box D) W3 := lw.trans (l2.trans l3)
        cases k with
        | false =>
          dsimp only at h3 ⊢
          rw [if_neg Bool.false_ne_true] at h3 ⊢
          exact ⟨W3, S3, vs, hd', rfl, lw3, s3, h3⟩
        | true =>
          dsimp only at h3 ⊢
          rw [if_pos rfl] at h3 ⊢
          rw [bindE] at h3
          refine ⟨W3, ρ1, S3, s3, e'.mono l3, (RP.bind h3 fun W4 S4 H4 a l4 s4 h4 ya va => ?_ : RP X.K T W3 (noEx (fk ρ1 S3)) _ (fun H' c o => Ew c o σ H')).noEx⟩
          dsimp only at h4 ⊢
          rw [bindE] at h4
          refine ⟨W4, ρ1, S4, s4, (e'.mono l3).mono l4, (RP.bind h4 fun W5 S5 H5 u l5 s5 h5 yv vu => ?_ : RP X.K T W4 (noEx (fe ρ1 S4)) _ (fun H' c o => Ew c o σ H')).noEx⟩
          have lw5 : WLe (W1.box D) W5 := lw3.trans (l4.trans l5)
          have wD5 : W5.m S1.next = D := (lw5.eq _ lD).trans eD
          cases q5 : S5.objs S1.next with
          | none => simp only [q5] at h5; exact False.elim h5
          | some b =>
            cases b with
            | dk lk ks us =>
              cases lk with
              | true => simp only [q5] at h5; exact False.elim h5
              | false =>
                cases q6 : keyOf a with
                | none => simp only [q5, q6] at h5; exact False.elim h5
                | some ky =>
                  simp only [q5, q6] at h5
                  by_cases hz : ks.length < sizeLine
                  · rw [if_pos hz] at h5
                    obtain ⟨xs, hl, hx, r⟩ := s5.at_ _ _ q5
                    rw [if_neg Bool.false_ne_true, wD5] at hx
                    obtain ⟨pk, pl⟩ := putK_S (k := ky) (y := yv) hl
                    obtain ⟨e1, r2⟩ := putS_vr (k := ky) (ks := ks) vu r
                    refine ⟨ks.zip xs, ky, keyOf_ok va q6, hx, by rw [List.length_zip]; omega, W5, _, vs, hd', rfl, lw5, ?_, h5⟩
                    have sp := s5.put (o := .dK (putK (ks.zip xs) ky yv)) (b' := .dk false (putS ky u ks us).1 (putS ky u ks us).2) q5 ⟨(putS ky yv ks xs).2, by rw [e1]; exact pl, by rw [if_neg Bool.false_ne_true, upd_same, pk, e1], r2⟩
                    rw [wD5] at sp
                    exact sp
                  · rw [if_neg hz] at h5; exact False.elim h5
            | _ => simp only [q5] at h5; exact False.elim h5
    · rw [if_neg hsrc] at h; exact False.elim h
theorem m_dc (hc : X.calm = true) (hN : X.N.Nodup) (hi : PIm T X Ew tgE iter it) (ok : BlkOk X.N X.env.scope scope own) (hsl : ∀ i ∈ tg.slots, i ∈ own.map (·.2))
    (hg : ∀ (s : Shared) (H : Hp) (C : Addr) (cl : List (Str × Addr)) (fp : List Addr), PG (X.blk s H scope (compEnvC scope cl C X.env) fp) tgE (tg.g X.K)) (ht : ∀ (s : Shared) (H : Hp) (C : Addr) (cl : List (Str × Addr)) (fp : List Addr), PTs (X.blk s H scope (compEnvC scope cl C X.env) fp) ifs (rdT X.K T XW0 tst))
    (hk : ∀ (s : Shared) (H : Hp) (C : Addr) (cl : List (Str × Addr)) (fp : List Addr), PEm T (X.blk s H scope (compEnvC scope cl C X.env) fp) XW0 kx fk)
    (he : ∀ (s : Shared) (H : Hp) (C : Addr) (cl : List (Str × Addr)) (fp : List Addr), PEm T (X.blk s H scope (compEnvC scope cl C X.env) fp) XW0 vx fe) (hs : ∀ x, foldedSetIterable iter X.env x = pure x := by intro _; rfl) :
    PEm T X Ew (.DictComp kx vx [⟨tgE, iter, ifs, 0⟩] scope pos) (eDc it tg tst fk fe (own.map (·.2))) :=
  PE.to (pe_dc hc hN hi ok hg ht hk he hs) fun _ _ _ h => rd_dc hsl h
end
/-- len of a dict -/
def vLenD (vs : List Val) (S : Sto) : Res Val := match vs with
  | [.loc k] => match S.objs k with
    | some (.dk false ks _) => .ok (.int (ks.length : Nat)) S
    | _ => .st
  | [.dk ks _] => .ok (.int (ks.length : Nat)) S
  | _ => .st
theorem l_lenD {K : PySem.W.Frag} {T : Tbl} : OpL K T (fun xs H Q => ∃ a kvs, xs = [V.ref a] ∧ H a = some (.dK kvs) ∧ Q (.int kvs.length) H) vLenD := by
  intro W S H vs xs Q PX s r q
  unfold vLenD at q
  split at q
  · rename_i k
    cases r with
    | cons r1 r2 =>
      cases r2
      cases r1 with
      | loc hk =>
        cases e : S.objs k with
        | none => simp only [e] at q; exact False.elim q
        | some b =>
          cases b with
          | dk lk ks us =>
            cases lk with
            | true => simp only [e] at q; exact False.elim q
            | false =>
              simp only [e] at q
              obtain ⟨ys, hl, hy, _⟩ := s.at_ _ _ e
              rw [if_neg Bool.false_ne_true] at hy
              have el : ((ks.zip ys).length : Int) = (ks.length : Nat) := by rw [List.length_zip, ← hl, Nat.min_self]
              exact ⟨_, _, rfl, hy, by rw [el]; exact q.now s _ (.int _)⟩
          | _ => simp only [e] at q; exact False.elim q
  · cases r with
    | cons r1 r2 =>
      cases r2
      cases r1 with
      | @dk a ks us ys hl hy r =>
        refine ⟨_, _, rfl, s.sub _ _ hy, ?_⟩
        rw [List.length_zip, ← hl, Nat.min_self]
        exact q.now s _ (.int _)
  · exact False.elim q
end PM

/-! PM, part i: small rest -/
namespace PM
open PySem PySem.Spec L2
theorem b_len : bootBuiltins "len" = some (.builtin "len") := by decide +kernel
theorem b_isinstance : bootBuiltins "isinstance" = some (.builtin "isinstance") := by decide +kernel
theorem b_abs : bootBuiltins "abs" = some (.builtin "abs") := by decide +kernel
theorem b_all : bootBuiltins "all" = some (.builtin "all") := by decide +kernel
theorem b_any : bootBuiltins "any" = some (.builtin "any") := by decide +kernel
theorem b_min : bootBuiltins "min" = some (.builtin "min") := by decide +kernel
theorem b_max : bootBuiltins "max" = some (.builtin "max") := by decide +kernel
theorem b_sum : bootBuiltins "sum" = some (.builtin "sum") := by decide +kernel
theorem b_sorted : bootBuiltins "sorted" = some (.builtin "sorted") := by decide +kernel
theorem b_divmod : bootBuiltins "divmod" = some (.builtin "divmod") := by decide +kernel
theorem b_int : bootBuiltins "int" = some (.type "int") := by decide +kernel
theorem b_bool : bootBuiltins "bool" = some (.type "bool") := by decide +kernel
theorem b_str : bootBuiltins "str" = some (.type "str") := by decide +kernel
theorem b_list : bootBuiltins "list" = some (.type "list") := by decide +kernel
theorem b_tuple : bootBuiltins "tuple" = some (.type "tuple") := by decide +kernel
theorem b_dict : bootBuiltins "dict" = some (.type "dict") := by decide +kernel
theorem b_range : bootBuiltins "range" = some (.type "range") := by decide +kernel
theorem b_ValueError : bootBuiltins "ValueError" = some (.type "ValueError") := by decide +kernel

theorem m_ix {T : Tbl} {X : Cx} {Ew : XW} {a b : Expr} {fa fb : EM} {pos : Pos} (ha : PEm T X Ew a fa) (hb : PEm T X Ew b fb) (hs : PlainIx b := by exact fun _ _ => rfl) : PEm T X Ew (.Subscript a b pos) (eBin vIx fa fb) :=
  PE.to (pe_ix (IxR.or ix_list ix_tup) ha hb hs) fun _ _ _ h => rd_bin o_ix h
def vAddI (v w : Val) (S : Sto) : Res Val := match v, w with
  | .int i, .int j => .ok (.int (i + j)) S
  | _, _ => .st
theorem o_ipadd {K : PySem.W.Frag} {T : Tbl} : Op2 K T (ipI fun i j => i + j) vAddI := by
  intro W S H v w x y Q PX s vx vy q
  cases vx <;> first | (cases vy <;> exact False.elim q) | skip
  cases vy with
  | int j => exact ⟨_, j, rfl, rfl, q.now s _ (.int _)⟩
  | _ => exact False.elim q
theorem o_ipsub {K : PySem.W.Frag} {T : Tbl} : Op2 K T (ipI fun i j => i - j) vSub := by
  intro W S H v w x y Q PX s vx vy q
  cases vx <;> first | (cases vy <;> exact False.elim q) | skip
  cases vy with
  | int j => exact ⟨_, j, rfl, rfl, q.now s _ (.int _)⟩
  | _ => exact False.elim q
end PM

/-! PM, part j: try .. except -/
namespace PM
open PySem PySem.Spec L2

def Tbl.wx (T : Tbl) (e : Addr × Option Addr × Addr) : Tbl := { T with ex := some e }
mutual
def noErr : Val → Bool
  | .tup xs => noErrs xs
  | .lst xs => noErrs xs
  | .fz xs => noErrs xs
  | .kt xs => noErrs xs
  | .dk _ vs => noErrs vs
  | .dt _ vs => noErrs vs
  | .ins _ vs => noErrs vs
  | .err _ _ => false
  | _ => true
def noErrs : List Val → Bool
  | [] => true
  | v :: vs => noErr v && noErrs vs
end
section
variable {K : PySem.W.Frag} {T : Tbl} {e : Addr × Option Addr × Addr} {W : Wd}
mutual
theorem VR.wx (h0 : T.ex = none) : ∀ {v : Val} {x : V}, VR K T W v x → VR K (T.wx e) W v x
  | _, _, .non => .non
  | _, _, .bl b => .bl b
  | _, _, .int b => .int b
  | _, _, .str b => .str b
  | _, _, .ty b => .ty b
  | _, _, .tup h r => .tup h (VRs.wx h0 r)
  | _, _, .lst h r => .lst h (VRs.wx h0 r)
  | _, _, .fz h r => .fz h (VRs.wx h0 r)
  | _, _, .kt h r => .kt h (VRs.wx h0 r)
  | _, _, .dk z h r => .dk z h (VRs.wx h0 r)
  | _, _, .dt z h r => .dt z h (VRs.wx h0 r)
  | _, _, .ins c z h r => .ins (T := T.wx e) c z h (VRs.wx h0 r)
  | _, _, .loc h => .loc h
  | _, _, .cls h => .cls (T := T.wx e) h
  | _, _, .err0 a b c => by rw [h0] at a; cases a
  | _, _, .errd a b c d r => by rw [h0] at a; cases a
theorem VRs.wx (h0 : T.ex = none) : ∀ {vs : List Val} {xs : List V}, VRs K T W vs xs → VRs K (T.wx e) W vs xs
  | _, _, .nil => .nil
  | _, _, .cons a r => .cons (VR.wx h0 a) (VRs.wx h0 r)
end
mutual
theorem VR.unwx : ∀ {v : Val} {x : V}, VR K (T.wx e) W v x → noErr v = true → VR K T W v x
  | _, _, .non, _ => .non
  | _, _, .bl b, _ => .bl b
  | _, _, .int b, _ => .int b
  | _, _, .str b, _ => .str b
  | _, _, .ty b, _ => .ty b
  | _, _, .tup h r, q => .tup h (VRs.unwx r (by unfold noErr at q; exact q))
  | _, _, .lst h r, q => .lst h (VRs.unwx r (by unfold noErr at q; exact q))
  | _, _, .fz h r, q => .fz h (VRs.unwx r (by unfold noErr at q; exact q))
  | _, _, .kt h r, q => .kt h (VRs.unwx r (by unfold noErr at q; exact q))
  | _, _, .dk z h r, q => .dk z h (VRs.unwx r (by unfold noErr at q; exact q))
  | _, _, .dt z h r, q => .dt z h (VRs.unwx r (by unfold noErr at q; exact q))
  | _, _, .ins c z h r, q => .ins (T := T) c z h (VRs.unwx r (by unfold noErr at q; exact q))
  | _, _, .loc h, _ => .loc h
  | _, _, .cls h, _ => .cls (T := T) h
  | _, _, .err0 a b c, q => by unfold noErr at q; cases q
  | _, _, .errd a b c d r, q => by unfold noErr at q; cases q
theorem VRs.unwx : ∀ {vs : List Val} {xs : List V}, VRs K (T.wx e) W vs xs → noErrs vs = true → VRs K T W vs xs
  | _, _, .nil, _ => .nil
  | _, _, .cons a r, q => by
    unfold noErrs at q
    rw [Bool.and_eq_true] at q
    exact .cons (VR.unwx a q.1) (VRs.unwx r q.2)
end
mutual
theorem VR.noErr (h0 : T.ex = none) : ∀ {v : Val} {x : V}, VR K T W v x → PM.noErr v = true
  | _, _, .non => rfl
  | _, _, .bl b => rfl
  | _, _, .int b => rfl
  | _, _, .str b => rfl
  | _, _, .ty b => rfl
  | _, _, .tup h r => by unfold PM.noErr; exact VRs.noErr h0 r
  | _, _, .lst h r => by unfold PM.noErr; exact VRs.noErr h0 r
  | _, _, .fz h r => by unfold PM.noErr; exact VRs.noErr h0 r
  | _, _, .kt h r => by unfold PM.noErr; exact VRs.noErr h0 r
  | _, _, .dk z h r => by unfold PM.noErr; exact VRs.noErr h0 r
  | _, _, .dt z h r => by unfold PM.noErr; exact VRs.noErr h0 r
  | _, _, .ins c z h r => by unfold PM.noErr; exact VRs.noErr h0 r
  | _, _, .loc h => rfl
  | _, _, .cls h => rfl
  | _, _, .err0 a b c => by rw [h0] at a; cases a
  | _, _, .errd a b c d r => by rw [h0] at a; cases a
theorem VRs.noErr (h0 : T.ex = none) : ∀ {vs : List Val} {xs : List V}, VRs K T W vs xs → noErrs vs = true
  | _, _, .nil => rfl
  | _, _, .cons a r => by unfold noErrs; rw [VR.noErr h0 a, VRs.noErr h0 r]; rfl
end
def obErr : Ob → Bool
  | .lst xs => noErrs xs
  | .dk _ _ vs => noErrs vs
  | .dt _ _ vs => noErrs vs
  | .ins _ vs => noErrs vs
theorem OR.wx (h0 : T.ex = none) {H : Hp} {a : Addr} : ∀ {o : Ob}, OR K T W H a o → OR K (T.wx e) W H a o
  | .lst _, ⟨xs, h, r⟩ => ⟨xs, h, r.wx h0⟩
  | .dk _ _ _, ⟨xs, z, h, r⟩ => ⟨xs, z, h, r.wx h0⟩
  | .dt _ _ _, ⟨xs, z, h, r⟩ => ⟨xs, z, h, r.wx h0⟩
  | .ins _ _, ⟨C, dx, xs, c, z, h, r⟩ => ⟨C, dx, xs, c, z, h, r.wx h0⟩
theorem OR.unwx {H : Hp} {a : Addr} : ∀ {o : Ob}, OR K (T.wx e) W H a o → obErr o = true → OR K T W H a o
  | .lst _, ⟨xs, h, r⟩, q => ⟨xs, h, r.unwx q⟩
  | .dk _ _ _, ⟨xs, z, h, r⟩, q => ⟨xs, z, h, r.unwx q⟩
  | .dt _ _ _, ⟨xs, z, h, r⟩, q => ⟨xs, z, h, r.unwx q⟩
  | .ins _ _, ⟨C, dx, xs, c, z, h, r⟩, q => ⟨C, dx, xs, c, z, h, r.unwx q⟩
theorem OR.noErr (h0 : T.ex = none) {H : Hp} {a : Addr} : ∀ {o : Ob}, OR K T W H a o → obErr o = true
  | .lst _, ⟨xs, h, r⟩ => r.noErr h0
  | .dk _ _ _, ⟨xs, z, h, r⟩ => r.noErr h0
  | .dt _ _ _, ⟨xs, z, h, r⟩ => r.noErr h0
  | .ins _ _, ⟨C, dx, xs, c, z, h, r⟩ => r.noErr h0
theorem SR.wx (h0 : T.ex = none) {S : Sto} {H : Hp} (s : SR K T W S H) : SR K (T.wx e) W S H := ⟨s.nx, s.sub, s.lt, s.out, fun k o q => (s.at_ k o q).wx h0, s.inj⟩
theorem SR.unwx (h0 : T.ex = none) {W0 : Wd} {S0 S : Sto} {H0 H : Hp} (s0 : SR K T W0 S0 H0) (eq : S.objs = S0.objs) (s : SR K (T.wx e) W S H) : SR K T W S H :=
  ⟨s.nx, s.sub, s.lt, s.out, fun k o q => (s.at_ k o q).unwx ((s0.at_ k o (by rw [← eq]; exact q)).noErr h0), s.inj⟩
theorem ER.wx (h0 : T.ex = none) {ρ : Ev} {σ : L2.St} (r : ER K T W ρ σ) : ER K (T.wx e) W ρ σ := ⟨r.len, fun i v h => let ⟨x, a, b⟩ := r.get i v h; ⟨x, a, b.wx h0⟩⟩
theorem ER.unwx {ρ : Ev} {σ : L2.St} (r : ER K (T.wx e) W ρ σ) (q : ∀ (i : Nat) (v : Val), ρ[i]? = some (some v) → noErr v = true) : ER K T W ρ σ := ⟨r.len, fun i v h => let ⟨x, a, b⟩ := r.get i v h; ⟨x, a, b.unwx (q i v h)⟩⟩
end

open Classical in
/-- behind a suite: the error's name is gone, the store's objects as they were, no error handed out -/
noncomputable def suiteEnd (i : Nat) (S0 : Sto) : SRes → SRes
  | .rt v S => if noErr v = true ∧ S.objs = S0.objs then .rt v S else .st
  | .nx ρ S => if (∀ (j : Nat) (v : Val), (ρ.set i none)[j]? = some (some v) → noErr v = true) ∧ S.objs = S0.objs then .nx (ρ.set i none) S else .st
  | _ => .st
noncomputable def sTry (bd : SM) (i : Nat) (off : List Nat) (hs : List (Nat × SM)) : SM := fun ρ S => match bd ρ S with
  | .ex c vs ρ' S' => match hs.lookup c with
    | some s => suiteEnd i S' (s (ρ'.set i (some (.err c vs))) S')
    | none => if off.contains c then .ex c vs ρ' S' else .st
  | r => r
theorem lookup_mem {α : Type} {c : Nat} {s : α} : ∀ {l : List (Nat × α)}, l.lookup c = some s → (c, s) ∈ l
  | [], h => by simp at h
  | (k, x) :: l, h => by
    simp only [List.lookup] at h
    split at h
    · rename_i hb
      have e : c = k := by simpa using hb
      cases h
      rw [e]; exact List.mem_cons_self
    · exact List.mem_cons_of_mem _ (lookup_mem h)
section
variable {T : Tbl} {X : Cx} {Ew : XW} {x n : Str} {cv : Value} {i : Nat} {body suite : List Stmt} {b₀ : Stmt} {np pos pos' : Pos} {bd : SM} {off : List Nat} {hs : List (Nat × SM)}
theorem ms_try (h0 : T.ex = none) (hst : X.stack = X.env :: X.outer) (hf : X.env.frame = some X.env.locals) (hN : X.N.Nodup) (hi : X.N[i]? = some n) (hln : X.env.kindOf n = some .local) (hc : Names X x cv) (tk : Takes X Ew)
    (hon : ∀ p ∈ hs, ∀ C, T.cl p.1 = some C → PySem.W.exmOne X.K (.ref C) cv = some true) (hoff : ∀ c ∈ off, ∀ C, T.cl c = some C → PySem.W.exmOne X.K (.ref C) cv = some false)
    (hb : ∀ (W : XW) (pn : List (Addr × Obj)) (xe : Value → Shared → Prop), Takes (X.tr pn xe) W → PassesOwn (model X.prog X.w) X.A X.env xe → PBm T (X.tr pn xe) W body bd)
    (hsu : ∀ p ∈ hs, ∀ (C a : Addr) (oe : Obj) (d : Option Addr) (pn : List (Addr × Obj)), T.cl p.1 = some C → Zc (.ref C) d oe → (∃ vs, oe.data = .fields vs) → (T.fl p.1 = [] → d = none) → PBm (T.wx (a, d, C)) (X.suite a ((a, oe) :: pn)) XW0 (b₀ :: suite) p.2) :
    PSm T X Ew (.Try body [.ExceptHandler (some (.Name x np)) (some n) (b₀ :: suite) pos'] [] [] pos) (sTry bd i off hs) := by
  refine PS.to (ps_try_as (i := i) (tb := fun W => rdS X.K T W bd) (Wout := Ew) (ts := fun a cls d D σ H => ∃ p ∈ hs, ∃ C, T.cl p.1 = some C ∧ cls = .ref C ∧ (T.fl p.1 = [] → d = none) ∧ rdS X.K (T.wx (a, d, C)) XW0 p.2 D σ H)
    hst hf hN hi hln hc tk hb (fun a oe cls d pn hz hfd => ?_)) fun D σ H ⟨W, ρ, S, sr, er, h⟩ => ⟨W, ρ, S, sr, er, ?_⟩
  · refine ⟨fun pins s σ H D I ⟨p, hp, C, hC, ec, hd, h⟩ => ?_⟩
    subst ec
    exact (hsu p hp C a oe d pn hC hz hfd hd).run pins s σ H D I h
  · unfold sTry at h
    cases q : bd ρ S with
    | nx ρ' S' => simp only [q] at h; exact h
    | rt v S' => simp only [q] at h; exact h
    | bk ρ' S' => simp only [q] at h; exact h
    | ct ρ' S' => simp only [q] at h; exact h
    | st => simp only [q] at h; exact h
    | ex c vs ρ' S' =>
      simp only [q] at h
      intro W1 H1 σ1 cls od l1 s1 e1 xr
      obtain ⟨C, hC, rfl, hx⟩ := xr
      cases q2 : hs.lookup c with
      | none =>
        simp only [q2] at h
        by_cases ho : off.contains c = true
        · rw [if_pos ho] at h
          refine ⟨false, hoff c (by simpa using ho) C hC, (fun z => nomatch z), fun _ => ?_⟩
          exact h W1 H1 σ1 (.ref C) od l1 s1 e1 ⟨C, hC, rfl, hx⟩
        · rw [if_neg ho] at h; exact False.elim h
      | some s =>
        simp only [q2] at h
        have hm := lookup_mem q2
        refine ⟨true, hon _ hm C hC, fun _ a ha => ?_, fun z => nomatch z⟩
        refine ⟨(c, s), hm, C, hC, rfl, fun z => ?_, W1, ρ'.set i (some (.err c vs)), S', s1.wx h0, (e1.wx h0).set ?_, ?_⟩
        · rcases hx with ⟨_, _, z'⟩ | ⟨z', _⟩
          · exact z'
          · exact absurd z z'
        · rcases hx with ⟨z1, z2, z3⟩ | ⟨z1, d, xs, z2, z3, z4, z5⟩
          · subst z2 z3
            exact .err0 (T := T.wx (a, none, C)) rfl hC z1
          · subst z2
            exact .errd (T := T.wx (a, some d, C)) rfl hC z3 z4 (z5.wx h0)
        · have h' := SPo.wle l1 h
          dsimp only
          cases q3 : s (ρ'.set i (some (.err c vs))) S' with
          | rt v S2 =>
            rw [q3] at h'
            unfold suiteEnd at h'
            by_cases hcnd : noErr v = true ∧ S2.objs = S'.objs
            · simp only [if_pos hcnd] at h'
              exact fun W2 H2 y l2 s2 vy => h' W2 H2 y l2 (s1.unwx h0 hcnd.2 s2) (vy.unwx hcnd.1)
            · simp only [if_neg hcnd] at h'; exact False.elim h'
          | nx ρ2 S2 =>
            rw [q3] at h'
            unfold suiteEnd at h'
            by_cases hcnd : (∀ (j : Nat) (v : Val), (ρ2.set i none)[j]? = some (some v) → noErr v = true) ∧ S2.objs = S'.objs
            · simp only [if_pos hcnd] at h'
              exact fun W2 H2 σ2 l2 s2 e2 => h' W2 H2 (σ2.set i none) l2 (s1.unwx h0 hcnd.2 s2) (ER.unwx e2.forget hcnd.1)
            · simp only [if_neg hcnd] at h'; exact False.elim h'
          | bk ρ2 S2 => rw [q3] at h'; exact False.elim h'
          | ct ρ2 S2 => rw [q3] at h'; exact False.elim h'
          | ex c2 vs2 ρ2 S2 => rw [q3] at h'; exact False.elim h'
          | st => rw [q3] at h'; exact False.elim h'
end

/-! ### isinstance of the error, its class known -/
def eIsErr (i : Nat) (ft : EM) (b : Bool) : EM := fun ρ S => match ρ[i]? with
  | some (some (.err _ [])) => (ft ρ S).bind fun _ S1 => .ok (.bl b) S1
  | _ => .st
section
variable {T : Tbl} {X : Cx} {Ew : XW} {C a : Addr} {oe : Obj} {pn : List (Addr × Obj)} {n : Str} {p p2 p3 pos : Pos} {t : Expr} {ft : EM} {i : Nat} {b : Bool} {cv : Value} {z : V} {zv : Val}
theorem m_cls {x : Str} {c : Nat} {pos : Pos} (hg : Gl X x) (hm : X.mg x = some (.ref C)) (hc : T.cl c = some C) (hd : (x == ("__debug__" : Str)) = false := by decide) : PEm T X Ew (.Name x pos) (eC (.cls c)) :=
  m_glob (z := .ref C) hg hm rfl (fun _ => .cls hc) hd
theorem m_isErr (E : ExcC X.K C) (hz : Zc (.ref C) none oe) (hf : ∃ vs, oe.data = .fields vs) (hmi : X.mg "isinstance" = none) (hgi : Gl (X.suite a ((a, oe) :: pn)) "isinstance")
    (he : PE (X.suite a ((a, oe) :: pn)) (.Name n p) (tVar i)) (ht : PE (X.suite a ((a, oe) :: pn)) t (tC z)) (hz2 : ∀ u, RelV z u → u = cv) (hk : PySem.W.kitOne X.K (.ref C) cv = some b)
    (hs1 : starEach [.Name n p, t] (X.suite a ((a, oe) :: pn)).env = (false, eval (.Name n p) (X.suite a ((a, oe) :: pn)).env) :: starEach [t] (X.suite a ((a, oe) :: pn)).env := by rfl)
    (hs2 : starEach [t] (X.suite a ((a, oe) :: pn)).env = (false, eval t (X.suite a ((a, oe) :: pn)).env) :: starEach [] (X.suite a ((a, oe) :: pn)).env := by rfl)
    (hpl : (backTo pos (starEach [t] (X.suite a ((a, oe) :: pn)).env)).any (·.1) = false := by rfl) :
    PEm (T.wx (a, none, C)) (X.suite a ((a, oe) :: pn)) Ew (.Call (.Name "isinstance" p2) [.Name n p, t] [] pos) (eIsErr i (eC zv) b) := by
  refine PE.to (pe_callB (call_isE E hz hf) hgi hmi b_isinstance (pa_cons he (pa_cons ht pa_nil hs2) hs1) (by decide) (by decide) hs1 hpl) fun σ H Q h => ?_
  obtain ⟨W, ρ, S, s, er, h⟩ := h
  unfold eIsErr at h
  split at h
  · rename_i c hρ
    obtain ⟨y, hy, vy⟩ := er.get i _ hρ
    cases vy with
    | err0 h1 h2 h3 =>
      cases h1
      have h' : RP X.K (T.wx (a, none, C)) W (.ok (Val.bl b) S) (VP X.K (T.wx (a, none, C)) Q) (fun H' c o => Ew c o σ H') := h
      exact ⟨_, hy, z, cv, b, rfl, hz2, hk, h'.now s _ (.bl b)⟩
    | errd h1 _ _ _ _ => cases h1
  · exact False.elim h
end
theorem all_n {α : Type} {p : α → Prop} : ∀ x ∈ ([] : List α), p x := fun _ h => nomatch h
theorem all_c {α : Type} {p : α → Prop} {a : α} {l : List α} (h : p a) (t : ∀ x ∈ l, p x) : ∀ x ∈ a :: l, p x := fun x hx => by
  rcases List.mem_cons.mp hx with e | q
  · rw [e]; exact h
  · exact t x q
theorem Bd.tr {X : Cx} {Ew : XW} {k : Nat} (h : Bd X Ew k) {W : XW} (pn : List (Addr × Obj)) (xe : Value → Shared → Prop) (tk : Takes (X.tr pn xe) W) (hp : PassesOwn (model X.prog X.w) X.A X.env xe) : Bd (X.tr pn xe) W k := ⟨hp, h.calm, h.room, tk, h.nd⟩
end PM

/-! PM, part k: the end -/
namespace PM
open PySem PySem.Spec L2
def S0 : Sto := ⟨0, fun _ => none⟩
def spLaw (K : PySem.W.Frag) : Sp := fun vs H Q _ => ∃ (a : Addr) (ns : List Int), vs = [.ref a] ∧ SqL K H a (ns.map V.int) ∧ ns.length ≤ 63 ∧ ∀ H', Q (.bl true) H'
theorem law_end {P : Program} {w : World} {K : PySem.W.Frag} {mg : Str → Option Value} {base : Heap} {CX : CXT} {k : Nat} {f : Addr} {fd : FuncData} {ps : List Str} {T : Tbl} {F : FM} (L : FnOk P w K mg base CX k f fd ps (spD K T 1 F))
    (hF : ∀ ns : List Int, ns.length ≤ 63 → ∃ S', F [.fz (ns.map Val.int)] S0 = .ok (.bl true) S') : FnOk P w K mg base CX k f fd ps (spLaw K) := by
  refine L.imp fun vs H Q E h => ?_
  obtain ⟨a, ns, rfl, hS, hl, q⟩ := h
  obtain ⟨S', e⟩ := hF ns hl
  refine ⟨⟨H, fun _ => 0, 0⟩, [.fz (ns.map Val.int)], S0, rfl, ⟨rfl, fun _ _ h => h, fun _ _ h => (by cases h), fun _ _ h => (by cases h), fun _ _ h => (by cases h), fun _ _ _ _ h => (by cases h)⟩, .cons (.fz hS (VRs.ofInts ns)) .nil, ?_⟩
  rw [e]
  intro W' H' l s x vx
  cases vx
  exact q H'
theorem cx_false {P : Program} {w : World} {H : Hp} {s : Shared} {e : Value} {s' : Shared} (h : L2.CX P w [] H s (fun _ _ _ => False) e s') : False := by
  obtain ⟨_, _, _, _, _, _, _, _, _, _, _, _, z⟩ := h
  exact z
end PM

/-! PM, part l: bit operations, tuple * int, max and min of whole numbers -/
namespace PM
open PySem PySem.Spec L2 PyProof.Rows

/-! ### bits -/
def vAnd (v w : Val) (S : Sto) : Res Val := match v, w with
  | .int i, .int j => .ok (.int (Builtin.bitAnd i j)) S
  | _, _ => .st
def vShr (v w : Val) (S : Sto) : Res Val := match v, w with
  | .int i, .int j => if 0 ≤ j then .ok (.int (i / 2 ^ j.toNat)) S else .st
  | _, _ => .st
def vShl (v w : Val) (S : Sto) : Res Val := match v, w with
  | .int i, .int j => if 0 ≤ j ∧ j ≤ 1000 ∧ i.natAbs < 2 ^ 64 then .ok (.int (i * 2 ^ j.toNat)) S else .st
  | _, _ => .st
section
variable {K : PySem.W.Frag} {T : Tbl}
theorem o_and : Op2 K T (rI0 fun i j => .int (Builtin.bitAnd i j)) vAnd := o_int (f := fun i j => .int (Builtin.bitAnd i j)) (fun _ _ _ => .int _) fun v w S => by
  cases v <;> cases w <;> first | exact .inl ⟨_, _, rfl, rfl, rfl⟩ | exact .inr rfl
theorem o_shr : Op2 K T (rI (fun _ j => 0 ≤ j) fun i j => .int (i / 2 ^ j.toNat)) vShr := o_intC (f := fun i j => .int (i / 2 ^ j.toNat)) (fun _ _ _ => .int _) fun v w S => by
  cases v <;> cases w <;> first | exact .inr rfl | skip
  rename_i i j
  by_cases c : 0 ≤ j
  · exact .inl ⟨_, _, rfl, rfl, c, if_pos c⟩
  · exact .inr (if_neg c)
theorem o_shl : Op2 K T (rI CShl fun i j => .int (i * 2 ^ j.toNat)) vShl := o_intC (f := fun i j => .int (i * 2 ^ j.toNat)) (fun _ _ _ => .int _) fun v w S => by
  cases v <;> cases w <;> first | exact .inr rfl | skip
  rename_i i j
  by_cases c : 0 ≤ j ∧ j ≤ 1000 ∧ i.natAbs < 2 ^ 64
  · refine .inl ⟨_, _, rfl, rfl, ?_, if_pos c⟩
    obtain ⟨c1, c2, c3⟩ := c
    have := shl_ok (i := i) (j := j.toNat) (n := 64) c3 (by omega)
    rw [Int.toNat_of_nonneg c1] at this
    exact this
  · exact .inr (if_neg c)
end

/-! ### tuple * int, any count -/
section
variable {X : Cx}
theorem mul_one_tup (l : Addr) (items : Array Value) (n : Nat) (dd : Option Addr) (sl : Array (Option Value)) (x : Int) (u : Tok) (c0 : (decide (x < -(2 ^ 63)) || decide (x ≥ 2 ^ 63)) = false) (c1 : (items.isEmpty || x == 1) = true) :
    Meets (Builtin.«tuple.__mul__» ⟨[.ref l, .int x u], []⟩) (fun _ R s => s.heap.get? l = some { cls := .type "tuple", dict := dd, data := .seq items n, slots := sl } ∧ R (.ok (.ret (Value.ref l))) s) :=
  .of_wp fun prog w A R s h => by
    obtain ⟨hp, g, d, tk, os⟩ := s
    obtain ⟨hl, h⟩ := h
    have f1 := AutoSeq1.idx_int
    wp_walk using wpAny_loadPart' hl
    refine wpAny_ite_false (decide_eq_false (show ¬ ((decide (x < -(2 ^ 63)) || decide (x ≥ 2 ^ 63)) = true) by rw [c0]; exact Bool.false_ne_true)) ?_
    wp_walk using wpAny_loadPart' hl
    exact ⟨_, rfl, h⟩
theorem mul_no_tup (l : Addr) (items : Array Value) (n : Nat) (dd : Option Addr) (sl : Array (Option Value)) (x : Int) (u : Tok) (c0 : (decide (x < -(2 ^ 63)) || decide (x ≥ 2 ^ 63)) = false) (c1 : (items.isEmpty || x == 1) = false) (c2 : (decide (x ≤ 0) || items.isEmpty) = true) :
    Meets (Builtin.«tuple.__mul__» ⟨[.ref l, .int x u], []⟩) (fun _ R s => s.heap.get? l = some { cls := .type "tuple", dict := dd, data := .seq items n, slots := sl } ∧
      R (.ok (.ret (Value.ref s.heap.objs.size))) { s with heap := s.heap.push { cls := Value.type "tuple", data := Data.seq #[] }, toks := s.toks }) :=
  .of_wp fun prog w A R s h => by
    obtain ⟨hp, g, d, tk, os⟩ := s
    obtain ⟨hl, h⟩ := h
    have f1 := AutoSeq1.idx_int
    wp_walk using wpAny_loadPart' hl
    refine wpAny_ite_false (decide_eq_false (show ¬ ((decide (x < -(2 ^ 63)) || decide (x ≥ 2 ^ 63)) = true) by rw [c0]; exact Bool.false_ne_true)) ?_
    wp_walk using wpAny_loadPart' hl
    exact ⟨_, rfl, h⟩
/-- t * k, k any small number -/
def rRepA (K : PySem.W.Frag) : R2 := fun x y H Q => ∃ l k xs, x = .ref l ∧ y = .int k ∧ SqT K H l xs ∧ -1000 ≤ k ∧ k ≤ 1000 ∧ xs.length ≤ 1000 ∧
  (if xs = [] ∨ k = 1 then Q (.ref l) H else ∀ p, H p = none → Q (.ref p) (upd H p (.tup (List.replicate k.toNat xs).flatten)))
theorem op_repA : OpR X (binaryOp .Mult) (rRepA X.K) := by
  intro pins s σ H x y v u Q I rx ry h
  obtain ⟨l, k, xs, rfl, rfl, hT, h0, h2, hz, q⟩ := h
  by_cases big : xs ≠ [] ∧ 2 ≤ k
  · rw [if_neg (by intro z; rcases z with z | z; exact big.1 z; omega)] at q
    exact op_repT pins s σ H _ _ v u Q I rx ry ⟨l, k, xs, rfl, rfl, hT, big.1, big.2, h2, hz, q⟩
  cases rx
  obtain ⟨t, rfl⟩ := ry
  obtain ⟨its, r, ⟨⟨cls, dd, data, sl⟩, ho, hc, n, hd⟩, hs⟩ := I.tuple hT
  simp only at hc hd
  subst hc hd
  have c0 : (decide (k < -(2 ^ 63)) || decide (k ≥ 2 ^ 63)) = false := by rw [decide_eq_false (by omega), decide_eq_false (by omega)] <;> rfl
  have he : its = [] ↔ xs = [] := by
    have := r.length
    constructor
    · intro e; rw [e] at this; exact List.eq_nil_of_length_eq_zero this
    · intro e; rw [e] at this; exact List.eq_nil_of_length_eq_zero this.symm
  by_cases same : xs = [] ∨ k = 1
  · rw [if_pos same] at q
    have c1 : (its.toArray.isEmpty || k == 1) = true := by
      rcases same with z | z
      · rw [he.mpr z]; rfl
      · rw [z]; simp
    exact wpAny_binaryOp_repeat_ref (T := "tuple") (U := "int") (by decide) ⟨_, ho, rfl⟩ (fun s' => typeIs_int s' k t) noFill_tuple_mul F.fills_int_mul F.slot_int_rmul repeat_tuple F.slot_int_index.lookup
      (call_meets F.slot_int_rmul (typeIs_int s k t) F.entry_int_rmul (F.args_int_rmul_2 _ _) (int_rmul_tuple k t l its.toArray n dd sl)
        ⟨ho, rfl, ⟨_, ho, rfl⟩, call_meets F.slot_tuple_mul ⟨_, ho, rfl⟩ F.entry_tuple_mul (F.args_tuple_mul_2 _ _) (mul_one_tup l its.toArray n dd sl k t c0 c1) ⟨ho, ⟨.ref l, H, I, rfl, q⟩⟩⟩)
  · rw [if_neg same] at q
    have hn : its ≠ [] := fun e => same (.inl (he.mp e))
    have hk : k ≤ 0 := by
      have h1 : xs ≠ [] := fun e => same (.inl e)
      have h3 : ¬ 2 ≤ k := fun z => big ⟨h1, z⟩
      have h4 : k ≠ 1 := fun z => same (.inr z)
      omega
    have hi : its.toArray.isEmpty = false := by cases its with | nil => exact absurd rfl hn | cons a b => rfl
    have c1 : (its.toArray.isEmpty || k == 1) = false := by rw [hi, Bool.false_or]; exact beq_eq_false_iff_ne.mpr (by omega)
    have c2 : (decide (k ≤ 0) || its.toArray.isEmpty) = true := by rw [decide_eq_true hk]; rfl
    have e0 : k.toNat = 0 := by omega
    rw [e0] at q
    refine wpAny_binaryOp_repeat_ref (T := "tuple") (U := "int") (by decide) ⟨_, ho, rfl⟩ (fun s' => typeIs_int s' k t) noFill_tuple_mul F.fills_int_mul F.slot_int_rmul repeat_tuple F.slot_int_index.lookup
      (call_meets F.slot_int_rmul (typeIs_int s k t) F.entry_int_rmul (F.args_int_rmul_2 _ _) (int_rmul_tuple k t l its.toArray n dd sl)
        ⟨ho, rfl, ⟨_, ho, rfl⟩, call_meets F.slot_tuple_mul ⟨_, ho, rfl⟩ F.entry_tuple_mul (F.args_tuple_mul_2 _ _) (mul_no_tup l its.toArray n dd sl k t c0 c1 c2) ⟨ho, ?_⟩⟩)
    exact ⟨.ref s.heap.objs.size, _, I.laid (t' := s.toks) (o := .tup []) (fun b ob q => Heap.get?_push_of_some _ q) (Nat.le_refl _) ⟨Nat.zero_le _, [], .nil, IsTup.new _ _⟩, rfl, q _ (I.hok.fresh (Nat.le_refl _))⟩
def vRepT (v w : Val) (S : Sto) : Res Val := match v, w with
  | .tup xs, .int k => if -1000 ≤ k ∧ k ≤ 1000 ∧ xs.length ≤ 1000 then .ok (.tup (List.replicate k.toNat xs).flatten) S else .st
  | _, _ => .st
theorem VRs.rep {K : PySem.W.Frag} {T : Tbl} {W : Wd} {vs : List Val} {xs : List V} (r : VRs K T W vs xs) : ∀ n, VRs K T W (List.replicate n vs).flatten (List.replicate n xs).flatten
  | 0 => .nil
  | n + 1 => by
    rw [List.replicate_succ, List.replicate_succ, List.flatten_cons, List.flatten_cons]
    exact r.append (VRs.rep r n)
theorem o_repT {K : PySem.W.Frag} {T : Tbl} : Op2 K T (rRepA K) vRepT := by
  intro W S H v w x y Q PX s vx vy q
  cases v with
  | tup vs =>
    cases w with
    | int k =>
      unfold vRepT at q
      simp only at q
      by_cases c : -1000 ≤ k ∧ k ≤ 1000 ∧ vs.length ≤ 1000
      · rw [if_pos c] at q
        have vx' := vx
        obtain ⟨a, xs, rfl, hT, r⟩ := tup_ok s vx
        cases vy
        refine ⟨a, k, xs, rfl, rfl, hT, c.1, c.2.1, by rw [← r.length]; exact c.2.2, ?_⟩
        by_cases same : xs = [] ∨ k = 1
        · rw [if_pos same]
          have e : (List.replicate k.toNat vs).flatten = vs := by
            rcases same with z | z
            · have hv : vs = [] := List.eq_nil_of_length_eq_zero (by rw [r.length, z]; rfl)
              rw [hv]; simp
            · rw [z]; simp
          rw [e] at q
          exact q.now s _ vx'
        · rw [if_neg same]
          intro p hp
          have l : WLe W (W.add p (.tup (List.replicate k.toNat xs).flatten)) := .add (s.free hp)
          exact q _ _ l (s.add hp) _ (.tup (.inl upd_same) ((VRs.rep r k.toNat).mono l))
      · rw [if_neg c] at q; exact False.elim q
    | _ => exact False.elim q
  | _ => exact False.elim q

/-! ### max, min of whole numbers -/
def rBest (K : PySem.W.Frag) (f : Int → Int → Int) : List V → Hp → VK → Prop := fun vs H Q => ∃ (a : Addr) (n : Int) (ns : List Int), vs = [V.ref a] ∧ (SqL K H a ((n :: ns).map V.int) ∨ SqT K H a ((n :: ns).map V.int)) ∧ Q (.int (ns.foldl f n)) H
theorem reads_ints {h : Heap} {vs : List Value} {ns : List Int} (e : IntsAre vs ns) : ReadsAll h vs (ns.map .int) [] := by
  induction e with
  | nil => exact .nil
  | cons n t _ ih => exact .cons (.int n t) ih
theorem alike_all_ints (ns : List Int) : PySem.W.AlikeAll (ns.map .int) := by
  refine ⟨fun x hx y hy => ?_, fun x hx => ?_⟩
  · obtain ⟨i, _, rfl⟩ := List.mem_map.mp hx
    obtain ⟨j, _, rfl⟩ := List.mem_map.mp hy
    unfold PySem.W.alike; rfl
  · obtain ⟨i, _, rfl⟩ := List.mem_map.mp hx
    exact fun z => nomatch z
theorem dep_ints : ∀ ns : List Int, PyData.depthAll (ns.map .int) = 0
  | [] => by unfold PyData.depthAll; rfl
  | n :: ns => by
    rw [List.map_cons]
    unfold PyData.depthAll PyData.depth
    rw [dep_ints ns]; rfl
theorem tup_isTuple {h : Heap} {a : Addr} {its : Array Value} (t : IsTup h a its) : h.IsTuple a its := by
  obtain ⟨o, h1, h2, n, h3⟩ := t
  exact ⟨o, h1, h2, n, h3⟩
variable (hc : X.calm = true) (hu : X.A.units + 64 < cLine)
include hc hu
theorem cr_max : CallR X (.builtin "max") (rBest X.K max) := by
  intro pins s σ H vs us Q I r h
  obtain ⟨a, n, ns, rfl, hs, q⟩ := h
  rw [Vals.ref1 r]
  have dep : X.A.units + 1 + PyData.depthAll (.int n :: ns.map .int) < cLine := by
    have := dep_ints (n :: ns)
    rw [List.map_cons] at this
    rw [this]; omega
  have fin : ∀ (v : Value) (h' : Heap) (tk : Nat) (bs : List Addr), Reads h' v (PySem.W.maxD (.int n) (ns.map .int)) bs → (∀ b o, s.heap.get? b = some o → h'.get? b = some o) → ∃ y H', Inv X pins σ H' { s with heap := h', toks := tk } ∧ RelV y v ∧ Q y H' := fun v h' tk bs rd k => by
    rw [PySem.W.maxD_ints] at rd
    cases rd with
    | int i t => exact ⟨.int _, H, I.kept k, ⟨t, rfl⟩, q⟩
  rcases hs with hs | hs
  · obtain ⟨its, rv, hl, _⟩ := I.list hs
    exact PySem.W.max_list_data (I.ok.hd hc) hl.isList (reads_ints rv.ints) (alike_all_ints (n :: ns)) dep fun i v h' tk bs _ rd k => fin v h' tk bs rd k
  · obtain ⟨its, rv, hl, _⟩ := I.tuple hs
    exact PySem.W.max_tuple_data (I.ok.hd hc) (tup_isTuple hl) (reads_ints rv.ints) (alike_all_ints (n :: ns)) dep fun i v h' tk bs _ rd k => fin v h' tk bs rd k
theorem cr_min : CallR X (.builtin "min") (rBest X.K min) := by
  intro pins s σ H vs us Q I r h
  obtain ⟨a, n, ns, rfl, hs, q⟩ := h
  rw [Vals.ref1 r]
  have dep : X.A.units + 1 + PyData.depthAll (.int n :: ns.map .int) < cLine := by
    have := dep_ints (n :: ns)
    rw [List.map_cons] at this
    rw [this]; omega
  have fin : ∀ (v : Value) (h' : Heap) (tk : Nat) (bs : List Addr), Reads h' v (PySem.W.minD (.int n) (ns.map .int)) bs → (∀ b o, s.heap.get? b = some o → h'.get? b = some o) → ∃ y H', Inv X pins σ H' { s with heap := h', toks := tk } ∧ RelV y v ∧ Q y H' := fun v h' tk bs rd k => by
    rw [PySem.W.minD_ints] at rd
    cases rd with
    | int i t => exact ⟨.int _, H, I.kept k, ⟨t, rfl⟩, q⟩
  rcases hs with hs | hs
  · obtain ⟨its, rv, hl, _⟩ := I.list hs
    exact PySem.W.min_list_data (I.ok.hd hc) hl.isList (reads_ints rv.ints) (alike_all_ints (n :: ns)) dep fun i v h' tk bs _ rd k => fin v h' tk bs rd k
  · obtain ⟨its, rv, hl, _⟩ := I.tuple hs
    exact PySem.W.min_tuple_data (I.ok.hd hc) (tup_isTuple hl) (reads_ints rv.ints) (alike_all_ints (n :: ns)) dep fun i v h' tk bs _ rd k => fin v h' tk bs rd k
end
/-- max, min of a list or a tuple of whole numbers -/
def vBest (f : Int → Int → Int) (vs : List Val) (S : Sto) : Res Val := match vs with
  | [.tup xs] => match intsOf xs with
    | some (n :: ns) => .ok (.int (ns.foldl f n)) S
    | _ => .st
  | [v] => match (lstOf S v).bind intsOf with
    | some (n :: ns) => .ok (.int (ns.foldl f n)) S
    | _ => .st
  | _ => .st
theorem l_best {K : PySem.W.Frag} {T : Tbl} (f : Int → Int → Int) : OpL K T (rBest K f) (vBest f) := by
  intro W S H vs xs Q PX s r q
  have lists : ∀ {v : Val} {x : V}, VR K T W v x → RP K T W (match (lstOf S v).bind intsOf with
    | some (n :: ns) => Res.ok (Val.int (ns.foldl f n)) S
    | _ => .st) (VP K T Q) PX → rBest K f [x] H Q := fun {v x} r1 q => by
    cases e : lstOf S v with
    | none => rw [e] at q; exact False.elim q
    | some ys =>
      rw [e] at q
      simp only [Option.bind] at q
      cases e2 : intsOf ys with
      | none => rw [e2] at q; exact False.elim q
      | some ms =>
        rw [e2] at q
        cases ms with
        | nil => exact False.elim q
        | cons n ns =>
          obtain ⟨a, zs, rfl, hz, rz⟩ := lstOf_ok s r1 e
          rw [intsOf_eq e2] at rz
          have ez := rz.ints
          subst ez
          exact ⟨a, n, ns, rfl, .inl hz, q.now s _ (.int _)⟩
  unfold vBest at q
  split at q
  · rename_i ys
    cases r with
    | cons r1 r2 =>
      cases r2
      cases e2 : intsOf ys with
      | none => rw [e2] at q; exact False.elim q
      | some ms =>
        rw [e2] at q
        cases ms with
        | nil => exact False.elim q
        | cons n ns =>
          obtain ⟨a, zs, rfl, hz, rz⟩ := tup_ok s r1
          rw [intsOf_eq e2] at rz
          have ez := rz.ints
          subst ez
          exact ⟨a, n, ns, rfl, .inr hz, q.now s _ (.int _)⟩
  · cases r with
    | cons r1 r2 => cases r2; exact lists r1 q
  · exact False.elim q

/-! ### any of a tuple of whole numbers -/
theorem truth_nums {prog : Program} {w : World} {A : Around} {ns : List Int} {its : List Value} (e : IntsAre its ns) : TruthOf prog w A (fun i v => its.toArray[i]? = some v) (fun i => ns.getD i 0 != 0) := fun i v s Q E hv hq => by
  have hv' : its[i]? = some v := by simpa using hv
  have : ∀ {its : List Value} {ns : List Int}, IntsAre its ns → ∀ (i : Nat) (v : Value), its[i]? = some v → ∃ t, v = .int (ns.getD i 0) t := fun {its ns} e => by
    induction e with
    | nil => intro i v h; cases h
    | cons n t _ ih =>
      intro i v h
      cases i with
      | zero => cases h; exact ⟨t, rfl⟩
      | succ i => exact ih i v h
  obtain ⟨t, rfl⟩ := this e i v hv'
  exact PyProof.Rows.truthy_int hq
theorem any_nums : ∀ ns : List Int, (List.range ns.length).any (fun i => ns.getD i 0 != 0) = ns.any (· != 0)
  | [] => rfl
  | n :: ns => by
    have e := any_nums ns
    rw [List.length_cons, List.range_succ_eq_map, List.any_cons, List.any_map, List.any_cons, ← e]; rfl
def rAnyI (K : PySem.W.Frag) : List V → Hp → VK → Prop := fun vs H Q => ∃ (a : Addr) (ns : List Int), vs = [V.ref a] ∧ SqT K H a (ns.map V.int) ∧ Q (.bl (ns.any (· != 0))) H
theorem cr_anyI {X : Cx} (hc : X.calm = true) : CallR X (.builtin "any") (rAnyI X.K) := by
  intro pins s σ H vs us Q I r h
  obtain ⟨a, ns, rfl, hs, q⟩ := h
  obtain ⟨its, rv, hl, _⟩ := I.tuple hs
  rw [Vals.ref1 r]
  have hb := rv.ints
  have ht := tup_isTuple hl
  have hne : a ≠ s.heap.objs.size := by obtain ⟨_, e, _⟩ := ht; exact Nat.ne_of_lt (Heap.lt_size e)
  have hlen : ns.length = its.toArray.size := by rw [List.size_toArray, ← rv.length, List.length_map]
  refine call_any_walk (wpAny_pyIter_tuple ht ?_)
  refine ⟨_, _, _, _, _, _, _, rfl, Walks.tuple (A := X.A.in1) (I.ok.hd hc) _ a hne its.toArray, ⟨⟨_, Heap.get?_push_size _ rfl, rfl, rfl⟩, ?_⟩, truth_nums hb, fun h' tk hk => ?_⟩
  · obtain ⟨o, h1, h2, n, h3⟩ := ht
    exact ⟨o, Heap.get?_push_of_some _ h1, h2, n, h3⟩
  · rw [← hlen, any_nums]
    refine ⟨.bl _, H, I.kept fun b o eo => hk b o (fun hmem => ?_) (Heap.get?_push_of_some _ eo), rfl, q⟩
    rcases List.mem_cons.mp hmem with e1 | hmem
    · exact absurd (e1 ▸ Heap.lt_size eo) (Nat.lt_irrefl _)
    · cases hmem
def vAnyI (vs : List Val) (S : Sto) : Res Val := match vs with
  | [.tup xs] => match intsOf xs with
    | some ns => .ok (.bl (ns.any (· != 0))) S
    | none => .st
  | _ => .st
theorem l_anyI {K : PySem.W.Frag} {T : Tbl} : OpL K T (rAnyI K) vAnyI := by
  intro W S H vs xs Q PX s r q
  unfold vAnyI at q
  split at q
  · rename_i ys
    cases r with
    | cons r1 r2 =>
      cases r2
      cases e2 : intsOf ys with
      | none => rw [e2] at q; exact False.elim q
      | some ms =>
        rw [e2] at q
        obtain ⟨a, zs, rfl, hz, rz⟩ := tup_ok s r1
        rw [intsOf_eq e2] at rz
        have ez := rz.ints
        subst ez
        exact ⟨a, ms, rfl, hz, q.now s _ (.bl _)⟩
  · exact False.elim q
end PM

/-! PM, part m: texts -/
namespace PM
open PySem PySem.Spec L2
def strsOf : List Val → Option (List Str)
  | [] => some []
  | .str i :: vs => (strsOf vs).map (i :: ·)
  | _ :: _ => none
theorem strsOf_eq : ∀ {vs : List Val} {ns : List Str}, strsOf vs = some ns → vs = ns.map Val.str
  | [], _, h => by cases h; rfl
  | v :: vs, ns, h => by
    cases v with
    | str i =>
      unfold strsOf at h
      cases e : strsOf vs with
      | none => rw [e] at h; cases h
      | some ms => rw [e] at h; cases h; rw [strsOf_eq e]; rfl
    | _ => cases h
theorem VRs.strs {K : PySem.W.Frag} {T : Tbl} {W : Wd} : ∀ {ns : List Str} {xs : List V}, VRs K T W (ns.map Val.str) xs → xs = ns.map V.str
  | [], _, r => by cases r; rfl
  | n :: ns, _, r => by
    cases r with
    | cons r1 r2 => cases r1; rw [VRs.strs r2]; rfl
def isStr (v : Val) (S : Sto) : Bool := match v with
  | .str _ => true
  | _ => false
theorem isStr_ok {K : PySem.W.Frag} {T : Tbl} (W : Wd) (S : Sto) (H : Hp) (v : Val) (y : V) (s : SR K T W S H) (r : VR K T W v y) (h : isStr v S = true) : tyV K "str" y H := by
  cases r <;> first | rfl | (cases h; done)
def vJoin (v : Val) (vs : List Val) (S : Sto) : Res Val := match v, vs with
  | .str a, [.tup ys] => match strsOf ys with
    | some zs => if (zs.map (·.length)).sum + zs.length * a.length ≤ 16777216 then .ok (.str (Txt.join a zs)) S else .st
    | none => .st
  | .str a, [w] => match (lstOf S w).bind strsOf with
    | some zs => if (zs.map (·.length)).sum + zs.length * a.length ≤ 16777216 then .ok (.str (Txt.join a zs)) S else .st
    | none => .st
  | _, _ => .st
def rJoin (K : PySem.W.Frag) : V → List V → Hp → VK → Prop := fun x xs H Q => ∃ a p, ∃ ys : List Str, x = .str a ∧ xs = [.ref p] ∧ (SqL K H p (ys.map V.str) ∨ SqT K H p (ys.map V.str)) ∧ (ys.map (·.length)).sum + ys.length * a.length ≤ 16777216 ∧ Q (.str (Txt.join a ys)) H
theorem w_join {K : PySem.W.Frag} {T : Tbl} : OpM K T (rJoin K) vJoin := by
  intro W S H v y vs xs Q PX s rv r q
  unfold vJoin at q
  split at q
  · rename_i a ys
    cases rv
    cases r with
    | cons r1 r2 =>
      cases r2
      cases e2 : strsOf ys with
      | none => rw [e2] at q; exact False.elim q
      | some ms =>
        rw [e2] at q
        dsimp only at q
        by_cases hz : (ms.map (·.length)).sum + ms.length * a.length ≤ 16777216
        · rw [if_pos hz] at q
          obtain ⟨p, zs, rfl, hp, rz⟩ := tup_ok s r1
          rw [strsOf_eq e2] at rz
          have ez := rz.strs
          subst ez
          exact ⟨a, p, ms, rfl, rfl, .inr hp, hz, q.now s _ (.str _)⟩
        · rw [if_neg hz] at q; exact False.elim q
  · rename_i a w _
    cases rv
    cases r with
    | cons r1 r2 =>
      cases r2
      cases e : lstOf S w with
      | none => rw [e] at q; exact False.elim q
      | some ys =>
        rw [e] at q
        simp only [Option.bind] at q
        cases e2 : strsOf ys with
        | none => rw [e2] at q; exact False.elim q
        | some ms =>
          rw [e2] at q
          dsimp only at q
          by_cases hz : (ms.map (·.length)).sum + ms.length * a.length ≤ 16777216
          · rw [if_pos hz] at q
            obtain ⟨p, zs, rfl, hp, rz⟩ := lstOf_ok s r1 e
            rw [strsOf_eq e2] at rz
            have ez := rz.strs
            subst ez
            exact ⟨a, p, ms, rfl, rfl, .inl hp, hz, q.now s _ (.str _)⟩
          · rw [if_neg hz] at q; exact False.elim q
  · exact False.elim q
/-! ### scopes of comprehensions that hold others -/
def bodyAt (s : Stmt) (i : Nat) : Stmt := (defBody s).getD i (.Pass ⟨0, 0, 0, 0⟩)
def lcScope : Expr → Scope
  | .ListComp _ _ sc _ => sc
  | _ => defScope (.Pass ⟨0, 0, 0, 0⟩)
def retScope : Stmt → Scope
  | .Return (some e) _ => lcScope e
  | .Assign _ e _ => lcScope e
  | _ => defScope (.Pass ⟨0, 0, 0, 0⟩)
theorem look_kinds {f : Str × NameKind → Str × NameKind} (hk : ∀ p, (f p).1 = p.1) (hc : ∀ p, p.2 = .cell → (f p).2 = .cell) (hf : ∀ p, p.2 = .free → (f p).2 = .cell ∨ (f p).2 = .free) : ∀ {l : List (Str × NameKind)} {x : Str},
    (l.lookup x = some .cell ∨ l.lookup x = some .free) → ((l.map f).lookup x = some .cell ∨ (l.map f).lookup x = some .free)
  | [], x, h => by rcases h with h | h <;> cases h
  | p :: l, x, h => by
    obtain ⟨n, k⟩ := p
    rw [List.map_cons]
    have e := hk (n, k)
    rw [show f (n, k) = ((f (n, k)).1, (f (n, k)).2) from rfl, e]
    simp only [List.lookup] at h ⊢
    cases q : x == n with
    | true =>
      rw [q] at h
      rcases h with h | h
      · exact .inl (congrArg some (hc (n, k) (Option.some.inj h)))
      · rcases hf (n, k) (Option.some.inj h) with z | z
        · exact .inl (congrArg some z)
        · exact .inr (congrArg some z)
    | false => rw [q] at h; exact look_kinds hk hc hf h
theorem blkOk_nest {N : List Str} {sc scope : Scope} {own : List (Str × Nat)} {cl : List (Str × Addr)} {C : Addr} {env : Env} (h : BlkOk N sc scope own) : BlkOk N (compEnvC sc cl C env).scope scope own := by
  refine ⟨h.kind, h.uniq, h.ix, fun y hy hfr => ?_, h.own⟩
  have := h.free y hy hfr
  unfold compEnvC relabel
  refine look_kinds (fun p => ?_) (fun p hp => ?_) (fun p hp => ?_) this
  · obtain ⟨n, k⟩ := p; dsimp only; split <;> rfl
  · obtain ⟨n, k⟩ := p; cases hp; dsimp only; split <;> rfl
  · obtain ⟨n, k⟩ := p; cases hp; dsimp only; split <;> first | exact .inl rfl | exact .inr rfl
end PM

/-! PM, part n: sorted of a tuple of whole numbers -/
namespace PM
open PySem PySem.Spec L2 PyProof.Rows
section
variable {prog : Program} {w : World} {A : Around} {E : Value → Shared → Prop} {s : Shared}
theorem gather_tup {t : Addr} {vs : List Value} {Q : List Value → Shared → Prop} (ht : s.heap.IsTuple t vs.toArray) (hz : vs.length ≤ sizeLine)
    (h : Q vs { s with heap := (s.heap.push (seqObj "list" #[] 0)).update s.heap.objs.size (Obj.mapSeq (· ++ vs.toArray)) }) : wpAny (model prog w) A (collect (.ref t)) Q E s := by
  obtain ⟨o, eo, ec, n, ed⟩ := ht
  have eo2 : (s.heap.push (seqObj "list" #[] 0)).get? t = some o := Heap.get?_push_of_some _ eo
  unfold collect; refine wpAny_bind (wpAny_runValue (codeAny_builtin entry_proto_collect' ?_))
  show wpAny _ _ (do again (.builtin "list.__iadd__" ⟨[← newList [], .ref t], []⟩)) _ _ s
  refine wpAny_bind (wpAny_newList (wpAny_pure ⟨Code.quiet_builtin _ (by decide +kernel), codeAny_builtin entry_list_iadd' (?_ : wpAny _ _ (Builtin.List.listExtendWith (.ref s.heap.objs.size) (.ref t) (.ref s.heap.objs.size)) _ _ { s with heap := s.heap.push (seqObj "list" #[] 0) })⟩))
  unfold Builtin.List.listExtendWith; refine wpAny_bind (wpAny_typeOf (T := "tuple") ⟨o, eo2, ec⟩ ?_)
  have tt : (Value.type "tuple" == Value.type "tuple") = true := rfl
  rw [if_pos (by simp [tt])]
  refine wpAny_bind (listItems_at eo2 ed (wpAny_bind (listItems_at (xs := #[]) (n := 0) (Heap.get?_push_size _ rfl) rfl ?_)))
  rw [if_neg (by simp)]
  refine wpAny_bind (listUpdate_at (xs := #[]) (n := 0) (Heap.get?_push_size _ rfl) rfl (wpAny_pure ?_) (Nat.zero_le _) (by simp; omega))
  show wpAny (model prog w) A (do
    let ob ← load s.heap.objs.size
    match ob.data with
    | .seq xs _ => pure xs.toList
    | _ => unsupported "internal:collect") Q E { s with heap := (s.heap.push (seqObj "list" #[] 0)).update s.heap.objs.size (Obj.mapSeq (· ++ vs.toArray)) }
  refine wpAny_bind (wpAny_load (get?_update_seq (Heap.get?_push_size _ rfl) _) (?_ : wpAny _ _ (pure ((#[] : Array Value) ++ vs.toArray).toList) Q E _))
  rw [show ((#[] : Array Value) ++ vs.toArray).toList = vs by simp]; exact wpAny_pure h
theorem sorted_tup {t : Addr} {vs : List Value} {ltv : Value → Value → Bool} {Q : Value → Shared → Prop} (O : SrtO.Swo ltv) (ht : s.heap.IsTuple t vs.toArray) (hz : vs.length ≤ sizeLine)
    (hS : 2 ≤ vs.length → ∀ (h₁ : Heap) (a : Addr), h₁.get? a = some (seqObj "list" vs.toArray 0) → (∀ b o, s.heap.get? b = some o → b ≠ a ∧ h₁.get? b = some o) → SrtO.SortableO prog w A.in1.in1 { s with heap := h₁ } a vs ltv)
    (h : ∀ out : List Value, SrtO.Srtd ltv out → SrtO.Stb ltv out vs → Q (.ref (s.heap.objs.size + 1)) { s with heap := sortedAll s.heap vs out.toArray }) : wpAny (model prog w) A (call (.builtin "sorted") [.ref t]) Q E s := by
  have sz : ((s.heap.push (seqObj "list" #[] 0)).update s.heap.objs.size (Obj.mapSeq (· ++ vs.toArray))).objs.size = s.heap.objs.size + 1 := by rw [Heap.size_update, size_push']
  generalize hg : ((s.heap.push (seqObj "list" #[] 0)).update s.heap.objs.size (Obj.mapSeq (· ++ vs.toArray))) = g at sz
  have old : ∀ b o, s.heap.get? b = some o → g.get? b = some o := fun b o e => by
    have lt := Heap.lt_size e
    rw [← hg, Heap.get?_update_ne _ _ _ _ (Nat.ne_of_lt lt)]; exact Heap.get?_push_of_some _ e
  have new : (g.push (seqObj "list" vs.toArray 0)).get? (s.heap.objs.size + 1) = some (seqObj "list" vs.toArray 0) := by rw [← sz]; exact Heap.get?_push_size _ rfl
  refine Calls.call_function_entry kind_sorted plain_sorted entry_sorted (args_sorted1 _) ?_
  unfold Builtin.«sorted»; refine wpAny_bind (m := checkCount "sorted" 1 1 _) (wpAny_pure (wpAny_bind (gather_tup ht hz (wpAny_bind (wpAny_newList ?_ hz)))))
  show wpAny _ _ _ _ _ { s with heap := ((s.heap.push (seqObj "list" #[] 0)).update s.heap.objs.size (Obj.mapSeq (· ++ vs.toArray))).push (seqObj "list" vs.toArray 0) }
  rw [hg, sz]
  refine wpAny_bind (wpAny_holding (wpAny_call_entry slot_list_sort ⟨_, new, rfl⟩ entry_list_sort (SrtO.list_sort_ord O new hz (fun h2 => hS h2 _ _ new fun b o e => ⟨Nat.ne_of_lt (Nat.lt_succ_of_lt (Heap.lt_size e)), Heap.get?_push_of_some _ (old b o e)⟩) fun out hs hb => ⟨_, rfl, ?_⟩) (args_list_sort _)))
  refine wpAny_pure ⟨_, rfl, ?_⟩
  have := h out hs hb
  unfold sortedAll at this; rw [hg] at this; exact this
end
/-- sorted(a list or a tuple of whole numbers) -/
def rSortB (K : PySem.W.Frag) : List V → Hp → VK → Prop := fun vs H Q => ∃ (a : Addr) (ns : List Int), vs = [V.ref a] ∧ (SqL K H a (ns.map V.int) ∨ SqT K H a (ns.map V.int)) ∧
  ∀ (ns' : List Int) (p : Addr), ns'.Perm ns → ns'.Pairwise (· ≤ ·) → H p = none → Q (.ref p) (upd H p (.lst (ns'.map V.int)))
theorem cr_sortB {X : Cx} : CallR X (.builtin "sorted") (rSortB X.K) := by
  intro pins s σ H vs us Q I r h
  obtain ⟨a, ns, rfl, hs | hs, q⟩ := h
  · exact cr_sortedI pins s σ H _ us Q I r ⟨a, ns, rfl, hs, q⟩
  · obtain ⟨its, rv, hl, hz⟩ := I.tuple hs
    rw [Vals.ref1 r]
    have hi := rv.ints
    refine sorted_tup SrtO.swo_int (tup_isTuple hl) (by rw [← rv.length]; exact hz) (fun h2 h₁ a' _ _ => SrtO.ints_sortable hi h2) fun out h1 h2 => ?_
    obtain ⟨k1, k2, k3⟩ := SrtO.ints_out hi h1 h2
    obtain ⟨ep, he'⟩ := sortedAll_at s.heap its out.toArray
    have hlen : ((out.map SrtO.iv).map V.int).length ≤ sizeLine := by rw [List.length_map, k2.length_eq]; rw [List.length_map] at hz; exact hz
    exact ⟨.ref _, upd H (s.heap.objs.size + 1) (.lst ((out.map SrtO.iv).map V.int)), I.laid (o := .lst ((out.map SrtO.iv).map V.int)) (t' := s.toks) (fun _ _ => sortedAll_old) (Nat.le_succ _) ⟨hlen, out, ep, vals_of_ints k1, he'⟩, rfl, q _ _ k2 k3 (I.hok.fresh (Nat.le_succ _))⟩
def vSortB (bx : Bool) (vs : List Val) (S : Sto) : Res Val := match vs with
  | [.tup ys] => match intsOf ys with
    | some ns => mkL bx ((sortI ns).map Val.int) S
    | none => .st
  | vs => vSortI bx vs S
theorem l_sortB {K : PySem.W.Frag} {T : Tbl} (bx : Bool) : OpL K T (rSortB K) (vSortB bx) := by
  intro W S H vs xs Q PX s r q
  unfold vSortB at q
  split at q
  · rename_i ys
    cases r with
    | cons r1 r2 =>
      cases r2
      cases e2 : intsOf ys with
      | none => rw [e2] at q; exact False.elim q
      | some ns =>
        rw [e2] at q
        obtain ⟨a, zs, rfl, hz, rz⟩ := tup_ok s r1
        rw [intsOf_eq e2] at rz
        have ez := rz.ints
        subst ez
        refine ⟨a, ns, rfl, .inr hz, fun ns' p hp hs hf => ?_⟩
        have en : ns' = sortI ns := sorted_unique (hp.trans (sortI_perm ns).symm) hs (sortI_sorted ns)
        subst en
        exact mkL_ok s (VRs.ofInts _) hf q
  · obtain ⟨a, ns, e, hs, k⟩ := l_sortI bx W S H _ xs Q PX s r q
    exact ⟨a, ns, e, .inl hs, k⟩
end PM

/-! PM, part o: a constructor whose error goes on -/
namespace PM
open PySem PySem.Spec L2
section
variable {X : Cx} {CX : CXT} {k : Nat} {f C : Addr} {fd : FuncData} {ps : List Str} {sp : Sp} {E : St → XK} {x : Str} {p pos : Pos} {e : Expr} {es : List Expr} {t : TA}
theorem made_at {pins : List (Addr × Obj)} {σ : St} {H : Hp} {s : Shared} {Q : VK} {us : List Value} {vs : List V} (M : Mk X.K C f) (F : FnOk X.prog X.w X.K X.mg X.base CX k f fd ps sp) (hr : Room (k + 1) X.A) (hb : Binds X.K fd ps []) (hx : PassesAt CX X σ (E σ))
    (I : Inv X pins σ H s) (r : Vals vs us) (h : ∀ q dx, H q = none → H dx = none → dx ≠ q → sp (.ref q :: vs) (upd (upd H dx (.own q)) q (.ins C dx [])) (fun v H2 => v = .non ∧ Q (.ref q) H2) (E σ)) :
    wpAny (model X.prog X.w) X.A (call (.ref C) us) (EP X pins σ Q) X.xe s := by
  have hq := h (s.heap.objs.size + 1) s.heap.objs.size (I.hok.fresh (Nat.le_succ _)) (I.hok.fresh (Nat.le_refl _)) (Nat.ne_of_lt (Nat.lt_succ_self _))
  have J := Inv.made (C := C) I; have r2 : Vals (V.ref (s.heap.objs.size + 1) :: vs) (Value.ref (s.heap.objs.size + 1) :: us) := .cons rfl r
  have hl : (Value.ref (s.heap.objs.size + 1) :: us).length = ps.length := by rw [← r2.length]; exact F.len _ _ _ _ hq
  have b := hb _ (Value.ref (s.heap.objs.size + 1) :: us) J.kIn (by rw [List.append_nil]; exact hl)
  rw [List.append_nil] at b
  refine wpAny_call (make_map (f := f) I.kIn M.makes M.init (beq_iff_eq.mp M.fn) (codeAny_mono (F.run _ X.stack _ _ ⟨Value.ref (s.heap.objs.size + 1) :: us, []⟩ (Value.ref (s.heap.objs.size + 1) :: us) _ _ (E σ) (hr.make C us []) (J.env0.make C us []) b r2 hq) fun r s' hq' => ?_))
  cases r with
  | error e => exact hx pins _ _ e s' J hq'
  | ok fl =>
    cases fl with
    | ret u => obtain ⟨v, H', I3, rv, ev, q3⟩ := J.after hq'; subst ev; exact ⟨rv, ⟨V.ref (s.heap.objs.size + 1), H', I3, rfl, q3⟩⟩
    | next => exact hq'.elim
    | brk => exact hq'.elim
    | cont => exact hq'.elim
def tMakeS (C : Addr) (sp : Sp) (E : St → XK) (t : TA) : TE := fun σ H Q => t σ H fun vs H1 => ∀ q dx, H1 q = none → H1 dx = none → dx ≠ q → sp (.ref q :: vs) (upd (upd H1 dx (.own q)) q (.ins C dx [])) (fun v H2 => v = .non ∧ Q (.ref q) H2) (E σ)
theorem pe_makeS (M : Mk X.K C f) (F : FnOk X.prog X.w X.K X.mg X.base CX k f fd ps sp) (hr : Room (k + 1) X.A) (hg : Gl X x) (hm : X.mg x = some (.ref C)) (hb : Binds X.K fd ps []) (hx : ∀ σ, PassesAt CX X σ (E σ))
    (ha : PA X (e :: es) t) (hdb : (x == ("__debug__" : Str)) = false := by decide) (he : starEach (e :: es) X.env = (false, eval e X.env) :: starEach es X.env := by rfl) (hpl : (backTo pos (starEach es X.env)).any (·.1) = false := by rfl) :
    PE X (.Call (.Name x p) (e :: es) [] pos) (tMakeS C sp E t) := by
  refine ⟨fun pins s σ H Q I h => wpAny_Call_Name_kw (ld_glob I hg hm ?_ hdb)⟩
  exact PySem.W.callWith_K (h₀ := X.base) I.ok.mod.kin M.kp (thn (ha.run pos pins s σ H _ I h) fun us s1 ⟨vs, H1, I1, r, q⟩ => ⟨I1.kIn, made_at M F hr hb (hx σ) I1 r q⟩) he hpl
end
section
variable {T : Tbl} {X : Cx} {Ew : XW} {k : Nat} {f C : Addr} {fd : FuncData} {ps : List Str} {n c : Nat} {F : FM} {x : Str} {p pos : Pos} {e : Expr} {es : List Expr} {fs : AM}
def eMakeXN (n c : Nat) (F : FM) (a : AM) : EM := fun ρ S => (a ρ S).bind fun vs S1 => if (Val.loc S1.next :: vs).length = n then (F (.loc S1.next :: vs) (S1.alloc (.ins c []))).bind fun r S2 => (match r with
    | .non => .ok (.loc S1.next) S2
    | _ => .st) else .st
theorem m_makeX (tk : Takes X Ew) (O : CO X.K T c C) (M : Mk X.K C f) (G : FnOk X.prog X.w X.K X.mg X.base (L2.CX X.prog X.w) k f fd ps (spD X.K T n F)) (hr : Room (k + 1) X.A) (hg : Gl X x) (hm : X.mg x = some (.ref C)) (hb : Binds X.K fd ps [])
    (ha : PAm T X Ew (e :: es) fs) (hdb : (x == ("__debug__" : Str)) = false := by decide) (he : starEach (e :: es) X.env = (false, eval e X.env) :: starEach es X.env := by rfl) (hpl : (backTo pos (starEach es X.env)).any (·.1) = false := by rfl) :
    PEm T X Ew (.Call (.Name x p) (e :: es) [] pos) (eMakeXN n c F fs) := by
  refine PE.to (pe_makeS (E := WE Ew) M G hr hg hm hb (fun σ => passAt tk σ) ha hdb he hpl) fun σ H Q h => ?_
  obtain ⟨W, ρ, S, s, er, h⟩ := h
  refine ⟨W, ρ, S, s, er, RP.bind h fun W1 S1 H1 vs l1 s1 h1 xs vx => fun q dx hq hdx hne => ?_⟩
  by_cases hl : (Val.loc S1.next :: vs).length = n
  · rw [if_pos hl] at h1
    have s2 := s1.beside (o := .own q) hdx
    have hq' : (upd H1 dx (.own q)) q = none := by rw [upd_ne hne.symm]; exact hq
    have s3 : SR X.K T (W1.box q) (S1.alloc (.ins c [])) (upd (upd H1 dx (.own q)) q (.ins C dx [])) :=
      s2.box (b := .ins c []) hq' ⟨C, dx, [], O.at_, Nat.zero_le _, by rw [upd_same]; simp, .nil⟩
    have vl : VR X.K T (W1.box q) (.loc S1.next) (.ref q) := by
      have z : VR X.K T (W1.box q) (.loc W1.n) (.ref ((W1.box q).m W1.n)) := .loc (Nat.lt_succ_self _)
      rw [Wd.box_at] at z
      rw [← s1.nx]; exact z
    refine spD_of (PX := fun H' c o => Ew c o σ H') s3 (.cons vl (vx.mono .box)) hl ?_ fun _ _ _ q => q
    refine RP.bind (h1.wle .box) fun W2 S2 H2 r l2 s4 h2 y vy => ?_
    cases vy with
    | non => exact ⟨rfl, h2.now s4 _ (vl.mono l2)⟩
    | _ => exact False.elim h2
  · rw [if_neg hl] at h1; exact False.elim h1
end
end PM

/-! PM, part p: plain reasoning about the combinators -/
namespace PM
open PySem PySem.Spec L2

theorem nr {α : Sort u} {a : α} : a = a := Eq.trans rfl rfl
abbrev XP := Nat → List Val → Sto → Prop
def X0 : XP := fun _ _ _ => False
/-- keeps a rewriter out of what comes later -/
structure Kp {α : Type} (a : α) : Type where
def Rn {α : Type} (r : Res α) (P : α → Sto → Prop) (X : XP) (t : Kp (P, X) := ⟨⟩) : Prop := match r with
  | .ok a S => P a S
  | .ex c vs S => X c vs S
  | .st => False
structure En where
  nx : Ev → Sto → Prop
  rt : Val → Sto → Prop
  bk : Ev → Sto → Prop
  ct : Ev → Sto → Prop
  ex : Nat → List Val → Ev → Sto → Prop
def Sn (r : SRes) (D : En) (t : Kp D := ⟨⟩) : Prop := match r with
  | .nx ρ S => D.nx ρ S
  | .rt v S => D.rt v S
  | .bk ρ S => D.bk ρ S
  | .ct ρ S => D.ct ρ S
  | .ex c vs ρ S => D.ex c vs ρ S
  | .st => False
theorem Rn_ext {α : Type} {r : Res α} {P P' : α → Sto → Prop} {X : XP} (h : ∀ a S, P a S = P' a S) : Rn r P X = Rn r P' X := by
  cases r <;> first | exact h _ _ | rfl
section
variable {α β : Type} {P : α → Sto → Prop} {X : XP} {ρ : Ev} {S : Sto} {D : En}
@[simp ↓] theorem rn_ok (a : α) {kk : Kp (P, X)} : Rn (.ok a S) P X kk = P a S := nr
@[simp ↓] theorem rn_ex (c : Nat) (vs : List Val) {kk : Kp (P, X)} : Rn (.ex c vs S : Res α) P X kk = X c vs S := nr
@[simp ↓] theorem rn_st {kk : Kp (P, X)} : Rn (.st : Res α) P X kk = False := nr
@[simp ↓] theorem rn_bind {r : Res α} {g : α → Sto → Res β} {P : β → Sto → Prop} {kk : Kp (P, X)} : Rn (r.bind g) P X kk = Rn r (fun a S => Rn (g a S) P X) X := by cases r <;> rfl
@[simp ↓] theorem rn_noEx {r : Res α} {kk : Kp (P, X)} : Rn (noEx r) P X kk = Rn r P X0 := by cases r <;> rfl
@[simp ↓ high] theorem rn_guard {c : Prop} [Decidable c] {r : Res α} {kk : Kp (P, X)} : Rn (if c then r else .st) P X kk = (c ∧ Rn r P X) := by
  by_cases h : c <;> simp [h, Rn]
@[simp ↓] theorem rn_ite {c : Prop} [Decidable c] {r q : Res α} {kk : Kp (P, X)} : Rn (if c then r else q) P X kk = ((c → Rn r P X) ∧ (¬c → Rn q P X)) := by
  by_cases h : c <;> simp [h]
@[simp ↓] theorem sn_ite {c : Prop} [Decidable c] {r q : SRes} {kk : Kp D} : Sn (if c then r else q) D kk = ((c → Sn r D) ∧ (¬c → Sn q D)) := by
  by_cases h : c <;> simp [h]
@[simp ↓] theorem sn_nx {kk : Kp D} : Sn (.nx ρ S) D kk = D.nx ρ S := nr
@[simp ↓] theorem sn_rt {v : Val} {kk : Kp D} : Sn (.rt v S) D kk = D.rt v S := nr
@[simp ↓] theorem sn_bk {kk : Kp D} : Sn (.bk ρ S) D kk = D.bk ρ S := nr
@[simp ↓] theorem sn_ct {kk : Kp D} : Sn (.ct ρ S) D kk = D.ct ρ S := nr
@[simp ↓] theorem sn_ex {c : Nat} {vs : List Val} {kk : Kp D} : Sn (.ex c vs ρ S) D kk = D.ex c vs ρ S := nr
@[simp ↓] theorem sn_st {kk : Kp D} : Sn .st D kk = False := nr
@[simp ↓] theorem sn_toS {r : Res α} {g : α → Sto → SRes} {kk : Kp D} : Sn (r.toS ρ g) D kk = Rn r (fun a S => Sn (g a S) D) (fun c vs S => D.ex c vs ρ S) := by cases r <;> rfl
@[simp ↓] theorem sn_seq {s t : SM} {N : Ev → Sto → Prop} {R : Val → Sto → Prop} {B C : Ev → Sto → Prop} {E : Nat → List Val → Ev → Sto → Prop} {kk : Kp (⟨N, R, B, C, E⟩ : En)} : Sn (sSeq s t ρ S) ⟨N, R, B, C, E⟩ kk = Sn (s ρ S) ⟨fun ρ S => Sn (t ρ S) ⟨N, R, B, C, E⟩, R, B, C, E⟩ := by
  unfold sSeq; cases s ρ S <;> rfl
theorem rn_runB {n : Nat} {b : SM} {vs : List Val} {P : Val → Sto → Prop} {kk : Kp (P, X)} : Rn (runB n b vs S) P X kk = Sn (b (vs.map Option.some ++ List.replicate (n - vs.length) none) S) ⟨fun _ S => P .non S, P, fun _ _ => False, fun _ _ => False, fun c vs _ S => X c vs S⟩ := by
  unfold runB; cases b (vs.map Option.some ++ List.replicate (n - vs.length) none) S <;> rfl
theorem Rn.imp {r : Res α} {P' : α → Sto → Prop} {X' : XP} (h : Rn r P X) (i : ∀ a S, P a S → P' a S) (j : ∀ c vs S, X c vs S → X' c vs S) : Rn r P' X' := by
  cases r with
  | ok a S => exact i a S h
  | ex c vs S => exact j c vs S h
  | st => exact h
theorem Rn.of {r : Res α} {P' : α → Sto → Prop} {X' : XP} (h : Rn r P X0) (i : ∀ a S, P a S → P' a S) : Rn r P' X' := h.imp i fun _ _ _ z => False.elim z
theorem Sn.imp {r : SRes} {D D' : En} (h : Sn r D) (a : ∀ ρ S, D.nx ρ S → D'.nx ρ S) (b : ∀ v S, D.rt v S → D'.rt v S) (c : ∀ ρ S, D.bk ρ S → D'.bk ρ S) (d : ∀ ρ S, D.ct ρ S → D'.ct ρ S) (e : ∀ c vs ρ S, D.ex c vs ρ S → D'.ex c vs ρ S) : Sn r D' := by
  cases r with
  | nx ρ S => exact a _ _ h
  | rt v S => exact b _ _ h
  | bk ρ S => exact c _ _ h
  | ct ρ S => exact d _ _ h
  | ex _ _ _ _ => exact e _ _ _ _ h
  | st => exact h
/-- exact answers -/
theorem Rn.get {r : Res α} (h : Rn r P X0) : ∃ a S', r = .ok a S' ∧ P a S' := by
  cases r with
  | ok a S => exact ⟨a, S, rfl, h⟩
  | ex c vs S => exact False.elim h
  | st => exact False.elim h

theorem p64 : (2 : Int) ^ 64 = 18446744073709551616 := by decide +kernel
theorem p62 : (2 : Int) ^ 62 = 4611686018427387904 := by decide +kernel
/-! ### expressions -/
def lk : Ev → Nat → Option Val
  | [], _ => none
  | a :: _, 0 => a
  | _ :: l, i + 1 => lk l i
@[simp ↓] theorem lk_0 {a : Option Val} {l : Ev} : lk (a :: l) 0 = a := nr
@[simp ↓] theorem lk_s {a : Option Val} {l : Ev} {i : Nat} : lk (a :: l) (i + 1) = lk l i := nr
def vr (o : Option Val) (S : Sto) : Res Val := match o with
  | some v => .ok v S
  | none => .st
@[simp ↓] theorem vr_some {v : Val} : vr (some v) S = .ok v S := nr
theorem lk_get : ∀ {ρ : Ev} {i : Nat}, lk ρ i = (ρ[i]?).join
  | [], _ => rfl
  | a :: _, 0 => by cases a <;> rfl
  | _ :: l, i + 1 => by unfold lk; rw [lk_get, List.getElem?_cons_succ]
@[simp ↓] theorem e_var (i : Nat) {P : Val → Sto → Prop} {kk : Kp (P, X)} : Rn (eVar i ρ S) P X kk = Rn (vr (lk ρ i) S) P X := by
  unfold eVar
  rw [lk_get]
  cases ρ[i]? with
  | none => rfl
  | some o => cases o <;> rfl
@[simp ↓] theorem e_c {v : Val} {P : Val → Sto → Prop} {kk : Kp (P, X)} : Rn (eC v ρ S) P X kk = Rn (.ok v S) P X := nr
@[simp ↓] theorem e_bin {op : Val → Val → Sto → Res Val} {a b : EM} {P : Val → Sto → Prop} {kk : Kp (P, X)} : Rn (eBin op a b ρ S) P X kk = Rn ((a ρ S).bind fun v S1 => (b ρ S1).bind fun w S2 => op v w S2) P X := nr
@[simp ↓] theorem e_un {op : Val → Sto → Res Val} {a : EM} {P : Val → Sto → Prop} {kk : Kp (P, X)} : Rn (eUn op a ρ S) P X kk = Rn ((a ρ S).bind fun v S1 => op v S1) P X := nr
@[simp ↓] theorem e_anil {P : List Val → Sto → Prop} {kk : Kp (P, X)} : Rn (aNil ρ S) P X kk = Rn (.ok [] S) P X := nr
@[simp ↓] theorem e_acons {a : EM} {r : AM} {P : List Val → Sto → Prop} {kk : Kp (P, X)} : Rn (aCons a r ρ S) P X kk = Rn ((a ρ S).bind fun v S1 => (r ρ S1).bind fun vs S2 => .ok (v :: vs) S2) P X := nr
@[simp ↓] theorem e_bi {op : List Val → Sto → Res Val} {a : AM} {P : Val → Sto → Prop} {kk : Kp (P, X)} : Rn (eBI op a ρ S) P X kk = Rn ((a ρ S).bind fun vs S1 => op vs S1) P X := nr
@[simp ↓] theorem e_tup {a : AM} {P : Val → Sto → Prop} {kk : Kp (P, X)} : Rn (eTup a ρ S) P X kk = Rn ((a ρ S).bind fun vs S1 => if vs.length ≤ sizeLine then .ok (.tup vs) S1 else .st) P X := nr
@[simp ↓] theorem e_lst {bx : Bool} {a : AM} {P : Val → Sto → Prop} {kk : Kp (P, X)} : Rn (eLst bx a ρ S) P X kk = Rn ((a ρ S).bind fun vs S1 => if vs.length ≤ sizeLine then mkL bx vs S1 else .st) P X := nr
@[simp ↓] theorem e_mkt {vs : List Val} {P : Val → Sto → Prop} {kk : Kp (P, X)} : Rn (mkL true vs S) P X kk = Rn (.ok (.loc S.next) (S.alloc (.lst vs))) P X := nr
@[simp ↓] theorem e_mkf {vs : List Val} {P : Val → Sto → Prop} {kk : Kp (P, X)} : Rn (mkL false vs S) P X kk = Rn (.ok (.lst vs) S) P X := nr
@[simp ↓] theorem e_if {t : BM} {a b : EM} {P : Val → Sto → Prop} {kk : Kp (P, X)} : Rn (eIf t a b ρ S) P X kk = Rn ((t ρ S).bind fun c S1 => if c then a ρ S1 else b ρ S1) P X := nr
@[simp ↓] theorem e_and {a b : EM} {P : Val → Sto → Prop} {kk : Kp (P, X)} : Rn (eAnd a b ρ S) P X kk = Rn (a ρ S) (fun v S1 => match v with | .bl true => Rn (b ρ S1) P X | .bl false => P (.bl false) S1 | _ => False) X := by
  unfold eAnd; rw [rn_bind]; refine Rn_ext fun v S1 => ?_; cases v <;> first | rfl | (rename_i b; cases b <;> rfl)
@[simp ↓] theorem e_or {a b : EM} {P : Val → Sto → Prop} {kk : Kp (P, X)} : Rn (eOr a b ρ S) P X kk = Rn (a ρ S) (fun v S1 => match v with | .bl true => P (.bl true) S1 | .bl false => Rn (b ρ S1) P X | _ => False) X := by
  unfold eOr; rw [rn_bind]; refine Rn_ext fun v S1 => ?_; cases v <;> first | rfl | (rename_i b; cases b <;> rfl)
@[simp ↓] theorem e_not {a : EM} {P : Val → Sto → Prop} {kk : Kp (P, X)} : Rn (eNot a ρ S) P X kk = Rn (a ρ S) (fun v S1 => match v with | .bl b => P (.bl !b) S1 | _ => False) X := by
  unfold eNot; rw [rn_bind]; refine Rn_ext fun v S1 => ?_; cases v <;> rfl
@[simp ↓] theorem e_tB {a : EM} {P : Bool → Sto → Prop} {kk : Kp (P, X)} : Rn (tB a ρ S) P X kk = Rn (a ρ S) (fun v S1 => match v with | .bl b => P b S1 | _ => False) X := by
  unfold tB; rw [rn_bind]; refine Rn_ext fun v S1 => ?_; cases v <;> rfl
@[simp ↓] theorem e_tand {a b : BM} {P : Bool → Sto → Prop} {kk : Kp (P, X)} : Rn (tAndM a b ρ S) P X kk = Rn ((a ρ S).bind fun c S1 => if c then b ρ S1 else .ok false S1) P X := nr
@[simp ↓] theorem e_tor {a b : BM} {P : Bool → Sto → Prop} {kk : Kp (P, X)} : Rn (tOrM a b ρ S) P X kk = Rn ((a ρ S).bind fun c S1 => if c then .ok true S1 else b ρ S1) P X := nr
@[simp ↓] theorem e_tnot {a : BM} {P : Bool → Sto → Prop} {kk : Kp (P, X)} : Rn (tNotM a ρ S) P X kk = Rn ((a ρ S).bind fun c S1 => .ok (!c) S1) P X := nr
@[simp ↓] theorem e_ttru {f : EM} {P : Bool → Sto → Prop} {kk : Kp (P, X)} : Rn (tTru f ρ S) P X kk = Rn ((f ρ S).bind fun v S1 => match truOf S1 v with | some c => .ok c S1 | none => .st) P X := nr
@[simp ↓] theorem e_callN {n : Nat} {F : FM} {a : AM} {P : Val → Sto → Prop} {kk : Kp (P, X)} : Rn (eCallN n F a ρ S) P X kk = Rn ((a ρ S).bind fun vs S1 => if vs.length = n then noEx (F vs S1) else .st) P X := nr
@[simp ↓] theorem e_callXN {n : Nat} {F : FM} {a : AM} {P : Val → Sto → Prop} {kk : Kp (P, X)} : Rn (eCallXN n F a ρ S) P X kk = Rn ((a ρ S).bind fun vs S1 => if vs.length = n then F vs S1 else .st) P X := nr
@[simp ↓] theorem e_methN {n c : Nat} {F : FM} {o : EM} {a : AM} {P : Val → Sto → Prop} {kk : Kp (P, X)} : Rn (eMethN n c F o a ρ S) P X kk = Rn ((o ρ S).bind fun v S1 => if isInst c S1 v then (a ρ S1).bind fun vs S2 => if (v :: vs).length = n then noEx (F (v :: vs) S2) else .st else .st) P X := nr
@[simp ↓] theorem e_methXN {n c : Nat} {F : FM} {o : EM} {a : AM} {P : Val → Sto → Prop} {kk : Kp (P, X)} : Rn (eMethXN n c F o a ρ S) P X kk = Rn ((o ρ S).bind fun v S1 => if isInst c S1 v then (a ρ S1).bind fun vs S2 => if (v :: vs).length = n then F (v :: vs) S2 else .st else .st) P X := nr
@[simp ↓] theorem e_makeN {n c : Nat} {F : FM} {a : AM} {P : Val → Sto → Prop} {kk : Kp (P, X)} : Rn (eMakeN n c F a ρ S) P X kk = Rn (a ρ S) (fun vs S1 => (Val.loc S1.next :: vs).length = n ∧ Rn (F (.loc S1.next :: vs) (S1.alloc (.ins c []))) (fun r S2 => r = .non ∧ P (.loc S1.next) S2) X0) X := by
  unfold eMakeN; rw [rn_bind]; refine Rn_ext fun vs S1 => ?_; rw [rn_guard, rn_bind, rn_noEx]
  refine congrArg (And _) ?_
  cases F (.loc S1.next :: vs) (S1.alloc (.ins c [])) with
  | ok r S2 => cases r <;> simp [Rn]
  | ex c vs S => rfl
  | st => rfl
@[simp ↓] theorem e_frz {f : EM} {P : Val → Sto → Prop} {kk : Kp (P, X)} : Rn (eFrz f ρ S) P X kk = Rn ((f ρ S).bind giveUp) P X := nr
@[simp ↓] theorem e_attr {c i : Nat} {o : EM} {P : Val → Sto → Prop} {kk : Kp (P, X)} : Rn (eAttr c i o ρ S) P X kk = Rn ((o ρ S).bind fun v S1 => match insOf S1 v with
  | some (c', vs) => if c' = c then (match vs[i]? with
    | some u => .ok u S1
    | none => .st) else .st
  | none => .st) P X := nr
@[simp ↓] theorem e_bm {chk : Val → Sto → Bool} {op : Val → List Val → Sto → Res Val} {o : EM} {a : AM} {P : Val → Sto → Prop} {kk : Kp (P, X)} : Rn (eBM chk op o a ρ S) P X kk = Rn ((o ρ S).bind fun v S1 => if chk v S1 then (a ρ S1).bind fun vs S2 => op v vs S2 else .st) P X := nr
@[simp ↓] theorem e_chain {o o' : Val → Val → Sto → Res Val} {a b c : EM} {P : Val → Sto → Prop} {kk : Kp (P, X)} : Rn (eChain o o' a b c ρ S) P X kk = Rn (a ρ S) (fun v S1 => Rn (b ρ S1) (fun w S2 => Rn (o v w S2) (fun k S3 => match k with
  | .bl true => Rn (c ρ S3) (fun z S4 => Rn (o' w z S4) P X) X | .bl false => P (.bl false) S3 | _ => False) X) X) X := by
  unfold eChain
  rw [rn_bind]; refine Rn_ext fun v S1 => ?_; rw [rn_bind]; refine Rn_ext fun w S2 => ?_; rw [rn_bind]; refine Rn_ext fun k S3 => ?_
  cases k <;> first | rfl | skip
  rename_i b
  cases b
  · rfl
  · show Rn (Res.bind _ _) P X = _
    rw [rn_bind]
@[simp ↓] theorem e_onone {P : Option Int → Sto → Prop} {kk : Kp (P, X)} : Rn (oNone ρ S) P X kk = Rn (.ok none S) P X := nr
@[simp ↓] theorem e_osome {f : EM} {P : Option Int → Sto → Prop} {kk : Kp (P, X)} : Rn (oSome f ρ S) P X kk = Rn ((f ρ S).bind fun v S1 => match v with | .int i => .ok (some i) S1 | _ => .st) P X := nr
@[simp ↓] theorem e_cut {bx : Bool} {f : EM} {lo hi : OM} {P : Val → Sto → Prop} {kk : Kp (P, X)} : Rn (eCut bx f lo hi ρ S) P X kk = Rn ((f ρ S).bind fun v S1 => (lo ρ S1).bind fun l S2 => (hi ρ S2).bind fun u S3 => vCut bx v l u S3) P X := nr
@[simp ↓] theorem e_listR {bx : Bool} {a b : EM} {P : Val → Sto → Prop} {kk : Kp (P, X)} : Rn (eListR bx a b ρ S) P X kk = Rn ((a ρ S).bind fun v S1 => (b ρ S1).bind fun w S2 => match v, w with
  | .int i, .int j => if -4611686018427387904 ≤ i ∧ i < 4611686018427387904 ∧ -4611686018427387904 ≤ j ∧ j < 4611686018427387904 ∧ (j - i).toNat ≤ 2 ^ 24 then mkL bx (rangeL i (j - i).toNat) S2 else .st
  | _, _ => .st) P X := by unfold eListR; simp only [p62] <;> rfl
@[simp ↓] theorem e_iseq {f : EM} {P : ItV → Sto → Prop} {kk : Kp (P, X)} : Rn (iSeq f ρ S) P X kk = Rn ((f ρ S).bind seqIt) P X := nr
@[simp ↓] theorem e_irange1 {a : EM} {P : ItV → Sto → Prop} {kk : Kp (P, X)} : Rn (iRange1 a ρ S) P X kk = Rn ((a ρ S).bind fun v S1 => match v with
  | .int j => if -4611686018427387904 ≤ j ∧ j < 4611686018427387904 then .ok ⟨rangeL 0 j.toNat, fun _ => True⟩ S1 else .st
  | _ => .st) P X := by unfold iRange1; simp only [p62] <;> rfl
@[simp ↓] theorem e_irange2 {a b : EM} {P : ItV → Sto → Prop} {kk : Kp (P, X)} : Rn (iRange2 a b ρ S) P X kk = Rn ((a ρ S).bind fun v S1 => (b ρ S1).bind fun w S2 => match v, w with
  | .int i, .int j => if -4611686018427387904 ≤ i ∧ i < 4611686018427387904 ∧ -4611686018427387904 ≤ j ∧ j < 4611686018427387904 then .ok ⟨rangeL i (j - i).toNat, fun _ => True⟩ S2 else .st
  | _, _ => .st) P X := by unfold iRange2; simp only [p62] <;> rfl
@[simp ↓] theorem e_irev {f : EM} {P : ItV → Sto → Prop} {kk : Kp (P, X)} : Rn (iRev f ρ S) P X kk = Rn ((f ρ S).bind fun v S1 => match v with
  | .lst xs => .ok ⟨xs.reverse, fun _ => True⟩ S1
  | .fz xs => .ok ⟨xs.reverse, fun _ => True⟩ S1
  | .loc k => (match S1.objs k with
    | some (.lst xs) => .ok ⟨xs.reverse, fun S' => S'.objs k = some (.lst xs)⟩ S1
    | _ => .st)
  | _ => .st) P X := nr

/-! ### statements -/
@[simp ↓] theorem s_next {D : En} {kk : Kp D} : Sn (sNext ρ S) D kk = Sn (.nx ρ S) D := nr
@[simp ↓] theorem s_never {D : En} {kk : Kp D} : Sn (sNever ρ S) D kk = Sn (.st) D := nr
@[simp ↓] theorem s_set {i : Nat} {e : EM} {D : En} {kk : Kp D} : Sn (sSet i e ρ S) D kk = Sn ((e ρ S).toS ρ fun v S1 => .nx (ρ.set i (some v)) S1) D := nr
@[simp ↓] theorem s_par {i j : Nat} {a : AM} {D : En} {kk : Kp D} : Sn (sPar i j a ρ S) D kk = Sn ((a ρ S).toS ρ fun vs S1 => match vs with
  | [v, w] => .nx ((ρ.set i (some v)).set j (some w)) S1
  | _ => .st) D := nr
@[simp ↓] theorem s_drop {e : EM} {D : En} {kk : Kp D} : Sn (sDrop e ρ S) D kk = Sn ((e ρ S).toS ρ fun _ S1 => .nx ρ S1) D := nr
@[simp ↓] theorem s_ret {e : EM} {D : En} {kk : Kp D} : Sn (sRet e ρ S) D kk = Sn ((e ρ S).toS ρ fun v S1 => .rt v S1) D := nr
@[simp ↓] theorem s_retn {D : En} {kk : Kp D} : Sn (sRetN ρ S) D kk = Sn (.rt .non S) D := nr
@[simp ↓] theorem s_break {D : En} {kk : Kp D} : Sn (sBreak ρ S) D kk = Sn (.bk ρ S) D := nr
@[simp ↓] theorem s_cont {D : En} {kk : Kp D} : Sn (sCont ρ S) D kk = Sn (.ct ρ S) D := nr
@[simp ↓] theorem s_raise {c : Nat} {D : En} {kk : Kp D} : Sn (sRaise c ρ S) D kk = Sn (.ex c [] ρ S) D := nr
@[simp ↓] theorem s_if {t : BM} {a b : SM} {D : En} {kk : Kp D} : Sn (sIf t a b ρ S) D kk = Sn ((t ρ S).toS ρ fun c S1 => if c then a ρ S1 else b ρ S1) D := nr
@[simp ↓] theorem s_asg {t : Tgt} {e : EM} {D : En} {kk : Kp D} : Sn (sAsg t e ρ S) D kk = Sn ((e ρ S).toS ρ fun v S1 => match t.set v ρ with
  | some ρ' => .nx ρ' S1
  | none => .st) D := nr
@[simp ↓] theorem s_aug {i : Nat} {op : Val → Val → Sto → Res Val} {e : EM} {D : En} {kk : Kp D} : Sn (sAug i op e ρ S) D kk = Rn (vr (lk ρ i) S) (fun v _ => Sn ((e ρ S).toS ρ fun w S1 => (op v w S1).toS ρ fun z S2 => .nx (ρ.set i (some z)) S2) D) X0 := by
  unfold sAug; rw [lk_get]
  cases ρ[i]? with
  | none => rfl
  | some o => cases o <;> rfl
@[simp ↓] theorem s_setIx {o i e : EM} {D : En} {kk : Kp D} : Sn (sSetIx o i e ρ S) D kk = Sn ((e ρ S).toS ρ fun u S1 => (o ρ S1).toS ρ fun v S2 => (i ρ S2).toS ρ fun j S3 => match setIx v j u S3 with
  | some S4 => .nx ρ S4
  | none => .st) D := nr
@[simp ↓] theorem s_setIx2 {o i o2 i2 e : EM} {D : En} {kk : Kp D} : Sn (sSetIx2 o i o2 i2 e ρ S) D kk = Rn (e ρ S) (fun t S1 => match t with
  | .tup [u, u2] => Rn (o ρ S1) (fun v S2 => Rn (i ρ S2) (fun j S3 => match setIx v j u S3 with
    | some S4 => Rn (o2 ρ S4) (fun v S5 => Rn (i2 ρ S5) (fun j S6 => match setIx v j u2 S6 with
      | some S7 => D.nx ρ S7
      | none => False) (fun c vs S => D.ex c vs ρ S)) (fun c vs S => D.ex c vs ρ S)
    | none => False) (fun c vs S => D.ex c vs ρ S)) (fun c vs S => D.ex c vs ρ S)
  | _ => False) (fun c vs S => D.ex c vs ρ S) := by
  unfold sSetIx2
  rw [sn_toS]
  refine Rn_ext fun t S1 => ?_
  split
  · rw [sn_toS]; refine Rn_ext fun v S2 => ?_
    rw [sn_toS]; refine Rn_ext fun j S3 => ?_
    cases setIx v j _ S3 with
    | none => rfl
    | some S4 =>
      dsimp only
      rw [sn_toS]; refine Rn_ext fun v S5 => ?_
      rw [sn_toS]; refine Rn_ext fun j S6 => ?_
      cases setIx v j _ S6 <;> rfl
  · rename_i hn
    first
      | rfl
      | (split
         · exact absurd rfl (hn _ _)
         · rfl)
@[simp ↓] theorem s_attr {c i : Nat} {o e : EM} {D : En} {kk : Kp D} : Sn (sAttr c i o e ρ S) D kk = Sn ((e ρ S).toS ρ fun u S1 => (o ρ S1).toS ρ fun v S2 => match v with
  | .loc k => (match S2.objs k with
    | some (.ins c' vs) => if c' = c then (if i < vs.length then .nx ρ (S2.put k (.ins c (vs.set i u))) else if i = vs.length then .nx ρ (S2.put k (.ins c (vs ++ [u]))) else .st) else .st
    | _ => .st)
  | _ => .st) D := nr
@[simp ↓] theorem s_for {it : IM} {tg : Tgt} {b : SM} {D : En} {kk : Kp D} : Sn (sFor it tg b ρ S) D kk = Sn ((it ρ S).toS ρ fun iv S1 => forGo iv.src tg b iv.items ρ S1) D := nr
@[simp] theorem tgt_name {i : Nat} {v : Val} : Tgt.set (.name i) v ρ = some (ρ.set i (some v)) := by unfold Tgt.set; rfl
end

/-! ### the store -/
section
variable {S S' S2 : Sto} {j k : Nat} {o o' : Ob}
@[simp] theorem put_at : (S.put k o).objs k = some o := if_pos rfl
theorem put_ne (h : j ≠ k) : (S.put k o).objs j = S.objs j := if_neg h
@[simp] theorem put_next : (S.put k o).next = S.next := nr
@[simp] theorem drop_next : (S.drop k).next = S.next := nr
@[simp] theorem alloc_at : (S.alloc o).objs S.next = some o := if_pos rfl
theorem alloc_ne (h : j ≠ S.next) : (S.alloc o).objs j = S.objs j := if_neg h
@[simp] theorem alloc_next : (S.alloc o).next = S.next + 1 := nr
theorem drop_ne (h : j ≠ k) : (S.drop k).objs j = S.objs j := if_neg h
@[simp] theorem put_put : (S.put k o).put k o' = S.put k o' := by
  unfold Sto.put; congr 1; funext i; dsimp only; split <;> simp_all
@[simp] theorem alloc_put : (S.alloc o).put S.next o' = S.alloc o' := by
  unfold Sto.put Sto.alloc; congr 1; funext i; dsimp only; split <;> simp_all
/-- the old objects are as they were -/
structure Ext (S S' : Sto) : Prop where
  le : S.next ≤ S'.next
  eq : ∀ k, k < S.next → S'.objs k = S.objs k
theorem Ext.refl (S : Sto) : Ext S S := ⟨Nat.le_refl _, fun _ _ => rfl⟩
theorem Ext.trans (a : Ext S S') (b : Ext S' S2) : Ext S S2 := ⟨Nat.le_trans a.le b.le, fun k h => (b.eq k (Nat.lt_of_lt_of_le h a.le)).trans (a.eq k h)⟩
theorem Ext.alloc (a : Ext S S') : Ext S (S'.alloc o) := ⟨Nat.le_succ_of_le a.le, fun k h => by rw [alloc_ne (by have := a.le; omega)]; exact a.eq k h⟩
theorem Ext.put (a : Ext S S') (h : S.next ≤ k) : Ext S (S'.put k o) := ⟨a.le, fun j hj => by rw [put_ne (by omega)]; exact a.eq j hj⟩
theorem Ext.drop (a : Ext S S') (h : S.next ≤ k) : Ext S (S'.drop k) := ⟨a.le, fun j hj => by rw [drop_ne (by omega)]; exact a.eq j hj⟩
theorem Ext.at_ (a : Ext S S') (h : k < S.next) (q : S.objs k = some o) : S'.objs k = some o := (a.eq k h).trans q
/-- the objects but one are as they were -/
structure ExtB (k : Nat) (S S' : Sto) : Prop where
  le : S.next ≤ S'.next
  eq : ∀ j, j < S.next → j ≠ k → S'.objs j = S.objs j
theorem Ext.b (a : Ext S S') : ExtB k S S' := ⟨a.le, fun j h _ => a.eq j h⟩
theorem ExtB.refl : ExtB k S S := (Ext.refl S).b
theorem ExtB.trans (a : ExtB k S S') (b : ExtB k S' S2) : ExtB k S S2 := ⟨Nat.le_trans a.le b.le, fun j h n => (b.eq j (Nat.lt_of_lt_of_le h a.le) n).trans (a.eq j h n)⟩
theorem ExtB.put (a : ExtB k S S') : ExtB k S (S'.put k o) := ⟨a.le, fun j hj n => by rw [put_ne n]; exact a.eq j hj n⟩
/-- a box of this piece only -/
theorem ExtB.in {S0 : Sto} (x : Ext S0 S) (h : S0.next ≤ k) (a : ExtB k S S') : Ext S0 S' := ⟨Nat.le_trans x.le a.le, fun j hj => (a.eq j (Nat.lt_of_lt_of_le hj x.le) (by omega)).trans (x.eq j hj)⟩
end

/-! ### loops -/
section
variable {src : Sto → Prop} {tg : Tgt} {b : SM} {N : Ev → Sto → Prop} {R : Val → Sto → Prop} {B C : Ev → Sto → Prop} {E : Nat → List Val → Ev → Sto → Prop}
theorem sn_forGo (I : List Val → Ev → Sto → Prop) (hsrc : ∀ r ρ S, I r ρ S → src S)
    (step : ∀ v r ρ S, I (v :: r) ρ S → ∃ ρ1, tg.set v ρ = some ρ1 ∧ Sn (b ρ1 S) ⟨I r, R, N, I r, E⟩) (fin : ∀ ρ S, I [] ρ S → N ρ S) :
    ∀ {vs : List Val} {ρ : Ev} {S : Sto}, I vs ρ S → Sn (forGo src tg b vs ρ S) ⟨N, R, B, C, E⟩
  | [], ρ, S, h => by
    unfold forGo
    rw [if_pos (hsrc _ _ _ h)]
    exact fin ρ S h
  | v :: vs, ρ, S, h => by
    unfold forGo
    rw [if_pos (hsrc _ _ _ h)]
    obtain ⟨ρ1, e, q⟩ := step v vs ρ S h
    rw [e]
    dsimp only
    cases eb : b ρ1 S with
    | nx ρ' S' => rw [eb] at q; exact sn_forGo I hsrc step fin q
    | rt v S' => rw [eb] at q; exact q
    | bk ρ' S' => rw [eb] at q; exact q
    | ct ρ' S' => rw [eb] at q; exact sn_forGo I hsrc step fin q
    | ex c vs ρ' S' => rw [eb] at q; exact q
    | st => rw [eb] at q; exact q
/-- a loop over numbers from 0 -/
theorem rangeL_drop (lo : Int) (n i : Nat) (h : i < n) : (rangeL lo n).drop i = .int (lo + (i : Int)) :: (rangeL lo n).drop (i + 1) := by
  have hl : (rangeL lo n).length = n := by simp [rangeL]
  rw [List.drop_eq_getElem_cons (by omega)]
  congr 1
  have := rangeL_get lo n i
  rw [if_pos h] at this
  exact (List.getElem?_eq_some_iff.mp this).2
theorem sn_forR {lo : Int} {n : Nat} {ρ : Ev} {S : Sto} (I : Nat → Ev → Sto → Prop) (init : I 0 ρ S) (hsrc : ∀ i ρ S, I i ρ S → src S)
    (step : ∀ i ρ S, i < n → I i ρ S → ∃ ρ1, tg.set (.int (lo + (i : Int))) ρ = some ρ1 ∧ Sn (b ρ1 S) ⟨I (i + 1), R, N, I (i + 1), E⟩) (fin : ∀ ρ S, I n ρ S → N ρ S) :
    Sn (forGo src tg b (rangeL lo n) ρ S) ⟨N, R, B, C, E⟩ := by
  have hl : (rangeL lo n).length = n := by simp [rangeL]
  refine sn_forGo (N := N) (R := R) (B := B) (C := C) (E := E) (fun r ρ S => ∃ i, i ≤ n ∧ r = (rangeL lo n).drop i ∧ I i ρ S) (fun r ρ S ⟨i, _, _, h⟩ => hsrc i ρ S h) (fun v r ρ S ⟨i, hi, e, h⟩ => ?_) (fun ρ S ⟨i, hi, e, h⟩ => ?_) ⟨0, Nat.zero_le _, rfl, init⟩
  · have hi' : i < n := by
      rcases Nat.lt_or_ge i n with q | q
      · exact q
      · rw [List.drop_eq_nil_of_le (by omega)] at e; cases e
    rw [rangeL_drop lo n i hi'] at e
    obtain ⟨rfl, rfl⟩ := List.cons.inj e
    obtain ⟨ρ1, q1, q2⟩ := step i ρ S hi' h
    refine ⟨ρ1, q1, q2.imp ?_ ?_ ?_ ?_ ?_⟩
    · exact fun ρ S z => ⟨i + 1, hi', rfl, z⟩
    · exact fun _ _ z => z
    · exact fun _ _ z => z
    · exact fun ρ S z => ⟨i + 1, hi', rfl, z⟩
    · exact fun _ _ _ _ z => z
  · have : n ≤ i := by
      have := congrArg List.length e
      simp only [List.length_nil, List.length_drop, hl] at this
      omega
    obtain rfl : i = n := by omega
    exact fin ρ S h
theorem sn_forM {α : Type} {f : α → Val} {xs : List α} {ρ : Ev} {S : Sto} (I : List α → Ev → Sto → Prop) (init : I xs ρ S) (hsrc : ∀ r ρ S, I r ρ S → src S)
    (step : ∀ v r ρ S, v ∈ xs → I (v :: r) ρ S → ∃ ρ1, tg.set (f v) ρ = some ρ1 ∧ Sn (b ρ1 S) ⟨I r, R, N, I r, E⟩) (fin : ∀ ρ S, I [] ρ S → N ρ S) : Sn (forGo src tg b (xs.map f) ρ S) ⟨N, R, B, C, E⟩ := by
  refine sn_forGo (N := N) (R := R) (B := B) (C := C) (E := E) (fun r ρ S => ∃ ys, (∀ y ∈ ys, y ∈ xs) ∧ r = ys.map f ∧ I ys ρ S) (fun r ρ S ⟨i, _, _, h⟩ => hsrc i ρ S h) (fun v r ρ S ⟨ys, hy, e, h⟩ => ?_) (fun ρ S ⟨ys, hy, e, h⟩ => ?_) ⟨xs, fun _ h => h, rfl, init⟩
  · cases ys with
    | nil => cases e
    | cons y ys =>
      obtain ⟨rfl, rfl⟩ := List.cons.inj e
      obtain ⟨ρ1, q1, q2⟩ := step y ys ρ S (hy y List.mem_cons_self) h
      refine ⟨ρ1, q1, q2.imp ?_ ?_ ?_ ?_ ?_⟩
      · exact fun ρ S z => ⟨ys, fun z hz => hy z (List.mem_cons_of_mem _ hz), rfl, z⟩
      · exact fun _ _ z => z
      · exact fun _ _ z => z
      · exact fun ρ S z => ⟨ys, fun z hz => hy z (List.mem_cons_of_mem _ hz), rfl, z⟩
      · exact fun _ _ _ _ z => z
  · cases ys with
    | nil => exact fin ρ S h
    | cons y ys => cases e
end

/-! ### list comprehensions: each item one value, no test -/
section
variable {src : Sto → Prop} {tg : Tgt} {elt : EM} {S0 S : Sto} {ρ0 : Ev} {n0 : Nat}
theorem lcGo_map {α : Type} {f g : α → Val} (hn : S0.next ≤ n0) : ∀ {xs : List α} {acc : List Val} {S : Sto}, Ext S0 S → n0 < S.next → S.objs n0 = some (.lst acc) → acc.length + xs.length ≤ sizeLine →
    (∀ S', Ext S0 S' → src S') → (∀ x ∈ xs, ∀ S', Ext S0 S' → ∃ ρ1, tg.set (f x) ρ0 = some ρ1 ∧ Rn (elt ρ1 S') (fun u S2 => u = g x ∧ Ext S' S2) X0) →
    Rn (lcGo src tg tYesM elt n0 ρ0 (xs.map f) S) (fun _ S2 => Ext S0 S2 ∧ n0 < S2.next ∧ S2.objs n0 = some (.lst (acc ++ xs.map g))) X0
  | [], acc, S, x, l, h, _, hs, _ => by
    rw [List.map_nil]
    unfold lcGo
    rw [if_pos (hs S x)]
    exact ⟨x, l, by rw [List.map_nil, List.append_nil]; exact h⟩
  | a :: xs, acc, S, x, l, h, hl, hs, he => by
    rw [List.map_cons]
    unfold lcGo
    rw [if_pos (hs S x)]
    obtain ⟨ρ1, e, q⟩ := he a List.mem_cons_self S x
    rw [e]
    dsimp only
    unfold tYesM
    rw [rn_bind, rn_noEx, rn_ok, if_pos rfl, rn_bind, rn_noEx]
    refine q.of fun u S2 ⟨hu, x2⟩ => ?_
    have h2 := x2.at_ l h
    rw [h2]
    dsimp only
    simp only [List.length_cons] at hl
    rw [if_pos (by omega)]
    subst hu
    have := lcGo_map (f := f) (g := g) hn (xs := xs) (acc := acc ++ [g a]) (S := S2.put n0 (.lst (acc ++ [g a]))) ((x.trans x2).put hn) (Nat.lt_of_lt_of_le l x2.le) put_at (by rw [List.length_append]; simp only [List.length_cons, List.length_nil]; omega) hs (fun z hz => he z (List.mem_cons_of_mem _ hz))
    refine this.of fun _ S3 ⟨a1, a2, a3⟩ => ⟨a1, a2, ?_⟩
    rw [a3, List.append_assoc]; rfl
/-- the comprehension as a value -/
theorem eLc_map {α : Type} {f g : α → Val} {it : IM} {ρ : Ev} {ws : List Nat} {X : XP} {P : Val → Sto → Prop} {xs : List α} {S1 : Sto} (hit : it ρ S = .ok ⟨xs.map f, src⟩ S1) (hx : Ext S S1) (hl : xs.length ≤ sizeLine)
    (hs : ∀ S', Ext S1 S' → src S') (he : ∀ x ∈ xs, ∀ S', Ext S1 S' → ∃ ρ1, tg.set (f x) (wipeE ρ ws) = some ρ1 ∧ Rn (elt ρ1 S') (fun u S2 => u = g x ∧ Ext S' S2) X0)
    (h : ∀ S2, Ext S1 S2 → P (.lst (xs.map g)) S2) : Rn (eLc false it tg tYesM elt ws ρ S) P X := by
  unfold eLc
  rw [rn_bind, hit, rn_ok, rn_bind]
  refine (lcGo_map (f := f) (g := g) (src := src) (S0 := S1) (n0 := S1.next) (Nat.le_refl _) (acc := []) ((Ext.refl S1).alloc) (Nat.lt_succ_self _) alloc_at (by simpa using hl) hs he).of fun _ S2 ⟨x, l, q⟩ => ?_
  unfold lcEnd
  rw [q]
  exact h _ (x.drop (Nat.le_refl _))
end

/-! ### data -/
/-- a value that compares -/
def Dv (S : Sto) (v : Val) (d : PyData) : Prop := datS S v = some d ∧ SeqAt.shaped d = true
theorem eqv_self {d : PyData} (h : SeqAt.shaped d = true) : PyData.eqv d d = true := SeqAt.eqv_refl d (SeqAt.canLay_of_shaped h)
theorem vEq_same {S : Sto} {v w : Val} {d : PyData} (h1 : Dv S v d) (h2 : datS S w = some d) : vEq v w S = .ok (.bl true) S := by
  unfold vEq
  rw [h1.1, h2]
  dsimp only
  rw [if_pos ⟨h1.2, h1.2⟩, eqv_self h1.2]
theorem vNe_same {S : Sto} {v w : Val} {d : PyData} (h1 : Dv S v d) (h2 : datS S w = some d) : vNe v w S = .ok (.bl false) S := by
  unfold vNe
  rw [h1.1, h2]
  dsimp only
  rw [if_pos ⟨h1.2, h1.2⟩, eqv_self h1.2]; rfl
theorem dats_map {α : Type} {f : α → Val} {g : α → PyData} : ∀ {xs : List α}, (∀ x ∈ xs, (f x).dat = some (g x)) → Val.dats (xs.map f) = some (xs.map g)
  | [], _ => by unfold Val.dats; rfl
  | x :: xs, h => by
    rw [List.map_cons]
    unfold Val.dats
    rw [h x List.mem_cons_self, dats_map fun y hy => h y (List.mem_cons_of_mem _ hy)]; rfl
theorem dat_ints (xs : List Int) : Val.dats (xs.map .int) = some (xs.map .int) := dats_map fun x _ => by unfold Val.dat; rfl
/-- canLay0 and depth of rows -/
def lay (k : Nat) (d : PyData) : Bool := d.canLay0 && decide (d.depth ≤ k)
theorem lay_all {k : Nat} : ∀ {ds : List PyData}, (∀ d ∈ ds, lay k d = true) → PyData.canLayAll0 ds = true ∧ PyData.depthAll ds ≤ k
  | [], _ => ⟨by unfold PyData.canLayAll0; rfl, by unfold PyData.depthAll; exact Nat.zero_le _⟩
  | d :: ds, h => by
    have h1 := h d List.mem_cons_self
    have h2 := lay_all fun z hz => h z (List.mem_cons_of_mem _ hz)
    unfold lay at h1
    simp only [Bool.and_eq_true, decide_eq_true_eq] at h1
    unfold PyData.canLayAll0 PyData.depthAll
    exact ⟨by rw [h1.1, h2.1]; rfl, Nat.max_le.mpr ⟨h1.2, h2.2⟩⟩
theorem lay_list {k : Nat} {ds : List PyData} (h : ∀ d ∈ ds, lay k d = true) : lay (k + 1) (.list ds) = true := by
  have := lay_all h
  unfold lay PyData.canLay0 PyData.depth
  rw [this.1, Bool.true_and, decide_eq_true_eq]; omega
theorem lay_tuple {k : Nat} {ds : List PyData} (h : ∀ d ∈ ds, lay k d = true) : lay (k + 1) (.tuple ds) = true := by
  have := lay_all h
  unfold lay PyData.canLay0 PyData.depth
  rw [this.1, Bool.true_and, decide_eq_true_eq]; omega
theorem lay_int {k : Nat} (i : Int) : lay k (.int i) = true := by unfold lay PyData.canLay0 PyData.depth; simp
theorem lay_bool {k : Nat} (b : Bool) : lay k (.bool b) = true := by unfold lay PyData.canLay0 PyData.depth; simp
theorem lay_none {k : Nat} : lay k .none = true := by unfold lay PyData.canLay0 PyData.depth; simp
theorem lay_str {k : Nat} {x : Str} (h : PyData.strOk x = true) : lay k (.str x) = true := by unfold lay PyData.canLay0 PyData.depth; simp [h]
theorem shaped_of {k : Nat} {d : PyData} (h : lay k d = true) (hk : k ≤ 64) : SeqAt.shaped d = true := by
  unfold lay at h
  simp only [Bool.and_eq_true, decide_eq_true_eq] at h
  unfold SeqAt.shaped
  rw [h.1, Bool.true_and, decide_eq_true_eq]; omega

/-! ### operations at known values -/
section
variable {S : Sto} {i j : Int} {xs ys : List Val}
@[simp ↓] theorem v_add {bx : Bool} : vAdd bx (.int i) (.int j) S = .ok (.int (i + j)) S := nr
@[simp ↓] theorem v_addT {bx : Bool} : vAdd bx (.tup xs) (.tup ys) S = if xs.length + ys.length ≤ sizeLine then .ok (.tup (xs ++ ys)) S else .st := nr
@[simp ↓] theorem v_sub : vSub (.int i) (.int j) S = .ok (.int (i - j)) S := nr
@[simp ↓] theorem v_mul : vMul (.int i) (.int j) S = if (-18446744073709551616 < i ∧ i < 18446744073709551616) ∨ (-18446744073709551616 < j ∧ j < 18446744073709551616) then .ok (.int (i * j)) S else .st := by
  unfold vMul; simp only [p64]
@[simp ↓] theorem v_pow18 : vPow (.int 10) (.int 18) S = .ok (.int 1000000000000000000) S := by
  unfold vPow; dsimp only; rw [if_pos (by decide +kernel)]; congr 1
@[simp ↓] theorem v_fdiv : vFdiv (.int i) (.int j) S = if 0 < j ∧ j < 1073741824 then .ok (.int (i / j)) S else .st := nr
@[simp ↓] theorem v_mod : vMod (.int i) (.int j) S = if 0 < j then .ok (.int (i % j)) S else .st := nr
@[simp ↓] theorem v_neg : vNeg (.int i) S = .ok (.int (-i)) S := nr
@[simp ↓] theorem v_lt : vLt (.int i) (.int j) S = .ok (.bl (decide (i < j))) S := nr
@[simp ↓] theorem v_le : vLe (.int i) (.int j) S = .ok (.bl (decide (i ≤ j))) S := nr
@[simp ↓] theorem v_gt : vGt (.int i) (.int j) S = .ok (.bl (decide (j < i))) S := nr
@[simp ↓] theorem v_ge : vGe (.int i) (.int j) S = .ok (.bl (decide (j ≤ i))) S := nr
@[simp ↓] theorem v_eqI : vEq (.int i) (.int j) S = .ok (.bl (decide (i = j))) S := by
  unfold vEq datS Val.dat
  dsimp only
  rw [if_pos ⟨shaped_of (lay_int (k := 0) i) (by decide), shaped_of (lay_int (k := 0) j) (by decide)⟩]
  unfold PyData.eqv; rfl
@[simp ↓] theorem v_neI : vNe (.int i) (.int j) S = .ok (.bl (!decide (i = j))) S := by
  unfold vNe datS Val.dat
  dsimp only
  rw [if_pos ⟨shaped_of (lay_int (k := 0) i) (by decide), shaped_of (lay_int (k := 0) j) (by decide)⟩]
  unfold PyData.eqv; rfl
theorem v_eqS {x y : Str} (hx : PyData.strOk x = true) (hy : PyData.strOk y = true) : vEq (.str x) (.str y) S = .ok (.bl (x == y)) S := by
  unfold vEq datS Val.dat
  dsimp only
  rw [if_pos ⟨shaped_of (lay_str (k := 0) hx) (by decide), shaped_of (lay_str (k := 0) hy) (by decide)⟩]
  unfold PyData.eqv; rfl
@[simp ↓] theorem v_ixT : vIx (.tup xs) (.int i) S = vr (atI xs i) S := by show (match atI xs i with | some u => Res.ok u S | none => .st) = _; cases atI xs i <;> rfl
@[simp ↓] theorem v_ixL : vIx (.lst xs) (.int i) S = vr (atI xs i) S := by show (match atI xs i with | some u => Res.ok u S | none => .st) = _; cases atI xs i <;> rfl
@[simp ↓] theorem v_ixF : vIx (.fz xs) (.int i) S = vr (atI xs i) S := by show (match atI xs i with | some u => Res.ok u S | none => .st) = _; cases atI xs i <;> rfl
theorem lstOf_loc {k : Nat} (h : S.objs k = some (.lst xs)) : lstOf S (.loc k) = some xs := by unfold lstOf; dsimp only; rw [h]
@[simp] theorem lstOf_lst : lstOf S (.lst xs) = some xs := nr
@[simp] theorem lstOf_fz : lstOf S (.fz xs) = some xs := nr
theorem mlstOf_loc {k : Nat} (h : S.objs k = some (.lst xs)) : mlstOf S (.loc k) = some xs := by unfold mlstOf; dsimp only; rw [h]
theorem isLst_loc {k : Nat} (h : S.objs k = some (.lst xs)) : isLst (.loc k) S = true := by unfold isLst; rw [lstOf_loc h]; rfl
theorem vAppend_at {k : Nat} {u : Val} (h : S.objs k = some (.lst xs)) (hl : xs.length < sizeLine) : vAppend (.loc k) [u] S = .ok .non (S.put k (.lst (xs ++ [u]))) := by
  unfold vAppend; dsimp only; rw [h]; dsimp only; rw [if_pos hl]
theorem atI_n {α : Type} {l : List α} {n : Nat} : atI l (n : Int) = l[n]? := by
  unfold atI ixN
  by_cases h : n < l.length
  · rw [if_pos (by omega), if_pos (by omega)]; simp
  · rw [if_pos (by omega), if_neg (by omega), List.getElem?_eq_none (by omega)]; rfl
@[simp] theorem atI_map {α β : Type} {l : List α} {f : α → β} {i : Int} : atI (l.map f) i = (atI l i).map f := by
  unfold atI
  rw [List.length_map]
  cases ixN l.length i with
  | none => rfl
  | some j => simp
end

section
variable {S : Sto} {i j : Int} {xs ys : List Val} {k : Nat} {b : Bool} {x : Str}
@[simp] theorem isA_eq {t n : Tg} : isA t n = (decide (t = n) || (decide (t = .bl) && decide (n = .int))) := nr
@[simp ↓] theorem v_isiN {n : Tg} : vIsi [.non, .ty n] S = .ok (.bl (isA .non n)) S := nr
@[simp ↓] theorem v_isiI {n : Tg} : vIsi [.int i, .ty n] S = .ok (.bl (isA .int n)) S := nr
@[simp ↓] theorem v_isiB {n : Tg} : vIsi [.bl b, .ty n] S = .ok (.bl (isA .bl n)) S := nr
@[simp ↓] theorem v_isiS {n : Tg} : vIsi [.str x, .ty n] S = .ok (.bl (isA .str n)) S := nr
@[simp ↓] theorem v_isiT {n : Tg} : vIsi [.tup xs, .ty n] S = .ok (.bl (isA .tup n)) S := nr
@[simp ↓] theorem v_isiL {n : Tg} : vIsi [.lst xs, .ty n] S = .ok (.bl (isA .lst n)) S := nr
theorem v_isi_loc {n : Tg} (h : S.objs k = some (.lst xs)) : vIsi [.loc k, .ty n] S = .ok (.bl (isA .lst n)) S := by unfold vIsi tagOf; simp only [h]
@[simp ↓] theorem v_lenT : vLen [.tup xs] S = .ok (.int (xs.length : Nat)) S := nr
@[simp ↓] theorem v_lenL : vLen [.lst xs] S = .ok (.int (xs.length : Nat)) S := nr
@[simp ↓] theorem v_lenF : vLen [.fz xs] S = .ok (.int (xs.length : Nat)) S := nr
theorem v_len_loc (h : S.objs k = some (.lst xs)) : vLen [.loc k] S = .ok (.int (xs.length : Nat)) S := by unfold vLen; simp only [lstOf_loc h]
@[simp ↓] theorem v_abs : vAbs [.int i] S = .ok (.int (if i < 0 then -i else i)) S := nr
@[simp ↓] theorem v_min2 : vMin2 [.int i, .int j] S = .ok (.int (if j < i then j else i)) S := nr
@[simp ↓] theorem v_max2 : vMax2 [.int i, .int j] S = .ok (.int (if j > i then j else i)) S := nr
@[simp ↓] theorem v_int : vInt [.int i] S = .ok (.int i) S := nr
@[simp ↓] theorem v_intB : vInt [.bl b] S = .ok (.int (if b then 1 else 0)) S := nr
@[simp ↓] theorem v_listT {bx : Bool} : vList bx [.tup xs] S = mkL bx xs S := nr
@[simp ↓] theorem v_listL {bx : Bool} : vList bx [.lst xs] S = mkL bx xs S := nr
@[simp ↓] theorem v_listF {bx : Bool} : vList bx [.fz xs] S = mkL bx xs S := nr
theorem v_list_loc {bx : Bool} (h : S.objs k = some (.lst xs)) : vList bx [.loc k] S = mkL bx xs S := by unfold vList; simp only [lstOf_loc h]
@[simp ↓] theorem v_tupT : vTuple [.tup xs] S = .ok (.tup xs) S := nr
@[simp ↓] theorem v_tupL : vTuple [.lst xs] S = .ok (.tup xs) S := nr
@[simp ↓] theorem v_tupF : vTuple [.fz xs] S = .ok (.tup xs) S := nr
theorem v_tup_loc (h : S.objs k = some (.lst xs)) : vTuple [.loc k] S = .ok (.tup xs) S := by unfold vTuple; simp only [lstOf_loc h]
@[simp] theorem bls_map {α : Type} {f : α → Bool} : ∀ {l : List α}, blsOf (l.map fun a => Val.bl (f a)) = some (l.map f)
  | [] => rfl
  | a :: l => by
    have := bls_map (f := f) (l := l)
    simp only [List.map_cons, blsOf, this, Option.map]
theorem v_all {α : Type} {f : α → Bool} {l : List α} : vAll [.lst (l.map fun a => Val.bl (f a))] S = .ok (.bl (l.all f)) S := by
  unfold vAll; simp only [lstOf_lst, Option.bind, bls_map]; rw [List.all_map]; rfl
theorem v_any {α : Type} {f : α → Bool} {l : List α} : vAny [.lst (l.map fun a => Val.bl (f a))] S = .ok (.bl (l.any f)) S := by
  unfold vAny; simp only [lstOf_lst, Option.bind, bls_map]; rw [List.any_map]; rfl
@[simp ↓] theorem v_revL {bx : Bool} : vRevL bx (.lst xs) S = mkL bx xs.reverse S := nr
@[simp ↓] theorem v_cutT {bx : Bool} {lo hi : Option Int} : vCut bx (.tup xs) lo hi S = .ok (.tup (cutG xs lo hi)) S := nr
@[simp ↓] theorem v_cutL {bx : Bool} {lo hi : Option Int} : vCut bx (.lst xs) lo hi S = mkL bx (cutG xs lo hi) S := nr
@[simp ↓] theorem v_cutF {bx : Bool} {lo hi : Option Int} : vCut bx (.fz xs) lo hi S = mkL bx (cutG xs lo hi) S := nr
theorem v_cut_loc {bx : Bool} {lo hi : Option Int} (h : S.objs k = some (.lst xs)) : vCut bx (.loc k) lo hi S = mkL bx (cutG xs lo hi) S := by unfold vCut; simp only [lstOf_loc h]
@[simp ↓] theorem seqT : seqIt (.tup xs) S = .ok ⟨xs, fun _ => True⟩ S := nr
@[simp ↓] theorem seqL : seqIt (.lst xs) S = .ok ⟨xs, fun _ => True⟩ S := nr
@[simp ↓] theorem seqF : seqIt (.fz xs) S = .ok ⟨xs, fun _ => True⟩ S := nr
theorem seq_loc (h : S.objs k = some (.lst xs)) : seqIt (.loc k) S = .ok ⟨xs, fun S' => S'.objs k = some (.lst xs)⟩ S := by unfold seqIt; simp only [h]
@[simp] theorem truB : truOf S (.bl b) = some b := nr
@[simp] theorem truI : truOf S (.int i) = some (i != 0) := nr
@[simp] theorem truT : truOf S (.tup xs) = some (!xs.isEmpty) := nr
@[simp] theorem truL : truOf S (.lst xs) = some (!xs.isEmpty) := nr
@[simp] theorem truN : truOf S .non = some false := nr
theorem setIx_at {u : Val} {n : Nat} (h : S.objs k = some (.lst xs)) (hi : ixN xs.length i = some n) : setIx (.loc k) (.int i) u S = some (S.put k (.lst (xs.set n u))) := by unfold setIx; simp only [h, hi, Option.map]
theorem setIx_nat {u : Val} {n : Nat} (h : S.objs k = some (.lst xs)) (hi : n < xs.length) : setIx (.loc k) (.int (n : Int)) u S = some (S.put k (.lst (xs.set n u))) :=
  setIx_at h (by unfold ixN; rw [if_pos (by omega), if_pos (by omega)]; simp)
@[simp] theorem insOf_ins {c : Nat} {vs : List Val} : insOf S (.ins c vs) = some (c, vs) := nr
theorem insOf_loc {c : Nat} {vs : List Val} (h : S.objs k = some (.ins c vs)) : insOf S (.loc k) = some (c, vs) := by unfold insOf; simp only [h]
@[simp] theorem isInst_ins {c d : Nat} {vs : List Val} : isInst c S (.ins d vs) = (d == c) := nr
theorem isInst_loc {c d : Nat} {vs : List Val} (h : S.objs k = some (.ins d vs)) : isInst c S (.loc k) = (d == c) := by unfold isInst; rw [insOf_loc h]
@[simp] theorem dat_int : (Val.int i).dat = some (.int i) := by unfold Val.dat; rfl
@[simp] theorem dat_bl : (Val.bl b).dat = some (.bool b) := by unfold Val.dat; rfl
@[simp] theorem dat_str : (Val.str x).dat = some (.str x) := by unfold Val.dat; rfl
@[simp] theorem dat_non : Val.non.dat = some .none := by unfold Val.dat; rfl
@[simp] theorem dat_tup : (Val.tup xs).dat = (Val.dats xs).map .tuple := by rw [Val.dat]
@[simp] theorem dat_lst : (Val.lst xs).dat = (Val.dats xs).map .list := by rw [Val.dat]
@[simp] theorem dat_fz : (Val.fz xs).dat = (Val.dats xs).map .list := by rw [Val.dat]
@[simp] theorem dats_nil : Val.dats [] = some [] := by unfold Val.dats; rfl
theorem dats_cons {v : Val} {vs : List Val} {d : PyData} {ds : List PyData} (h : v.dat = some d) (h2 : Val.dats vs = some ds) : Val.dats (v :: vs) = some (d :: ds) := by rw [Val.dats, h, h2]
theorem datS_loc (h : S.objs k = some (.lst xs)) : datS S (.loc k) = (Val.dats xs).map .list := by unfold datS; simp only [h]
@[simp] theorem datS_tup : datS S (.tup xs) = (Val.dats xs).map .tuple := by unfold datS; exact dat_tup
@[simp] theorem datS_lst : datS S (.lst xs) = (Val.dats xs).map .list := by unfold datS; exact dat_lst
@[simp] theorem datS_str : datS S (.str x) = some (.str x) := by unfold datS; exact dat_str
@[simp] theorem datS_int : datS S (.int i) = some (.int i) := by unfold datS; exact dat_int
theorem v_ix_loc (h : S.objs k = some (.lst xs)) : vIx (.loc k) (.int i) S = vr (atI xs i) S := by
  unfold vIx; simp only [lstOf_loc h]; cases atI xs i <;> rfl
section
variable {α : Type} {a b c d e f g : α} {l : List α}
@[simp ↓] theorem at0 : atI (a :: l) 0 = some a := atI_n (n := 0)
@[simp ↓] theorem at1 : atI (a :: b :: l) 1 = some b := atI_n (n := 1)
@[simp ↓] theorem at2 : atI (a :: b :: c :: l) 2 = some c := atI_n (n := 2)
@[simp ↓] theorem at3 : atI (a :: b :: c :: d :: l) 3 = some d := atI_n (n := 3)
@[simp ↓] theorem at4 : atI (a :: b :: c :: d :: e :: l) 4 = some e := atI_n (n := 4)
@[simp ↓] theorem at5 : atI (a :: b :: c :: d :: e :: f :: l) 5 = some f := atI_n (n := 5)
@[simp ↓] theorem at6 : atI (a :: b :: c :: d :: e :: f :: g :: l) 6 = some g := atI_n (n := 6)
end
end

/-! ### slices -/
theorem cut_take {α : Type} {xs : List α} {m : Nat} : cutG xs none (some (m : Int)) = xs.take m := by
  unfold cutG
  rw [HT.sIx_none, HT.sIx_nat, List.drop_zero, Nat.sub_zero]
  rcases Nat.le_total m xs.length with h | h
  · rw [Nat.min_eq_left h]
  · rw [Nat.min_eq_right h, List.take_of_length_le h, List.take_of_length_le (Nat.le_refl _)]
theorem cut_drop {α : Type} {xs : List α} {m : Nat} : cutG xs (some (m : Int)) none = xs.drop m := by
  unfold cutG
  rw [HT.sIx_none, HT.sIx_nat]
  rcases Nat.le_total m xs.length with h | h
  · rw [Nat.min_eq_left h, List.take_of_length_le (by simp)]
  · rw [Nat.min_eq_right h, List.drop_eq_nil_of_le h, List.drop_eq_nil_of_le (Nat.le_refl _)]; simp
theorem cut_seg {α : Type} {xs : List α} {m n : Nat} (h : n ≤ xs.length) : cutG xs (some (m : Int)) (some (n : Int)) = (xs.drop m).take (n - m) := by
  unfold cutG
  rw [HT.sIx_nat, HT.sIx_nat, Nat.min_eq_left h]
  rcases Nat.le_total m xs.length with h' | h'
  · rw [Nat.min_eq_left h']
  · rw [Nat.min_eq_right h', List.drop_eq_nil_of_le h', List.drop_eq_nil_of_le (Nat.le_refl _)]; simp
/-- xs[:-1] -/
theorem cut_but {α : Type} {xs : List α} : cutG xs none (some (-1)) = xs.dropLast := by
  unfold cutG
  rw [HT.sIx_none, List.drop_zero, Nat.sub_zero, List.dropLast_eq_take]
  congr 1
  unfold HT.sIx
  dsimp only
  rw [if_pos (by decide)]
  omega
@[simp] theorem cut2 {α : Type} {a b : α} {l : List α} : cutG (a :: b :: l) (some 2) none = l := cut_drop (m := 2)
@[simp] theorem cut1 {α : Type} {a : α} {l : List α} : cutG (a :: l) (some 1) none = l := cut_drop (m := 1)
theorem rn_is {α : Type} {r : Res α} {a : α} {S : Sto} {P : α → Sto → Prop} {X : XP} (h : r = .ok a S) (q : P a S) : Rn r P X := by rw [h]; exact q
@[simp ↓] theorem v_allR {n : Nat} {S : Sto} : vAll [.lst (List.replicate n (.bl true))] S = .ok (.bl true) S := by
  have : (List.replicate n (Val.bl true)) = (List.replicate n ()).map fun _ => Val.bl true := by simp
  rw [this, v_all]; simp
theorem map_const {α β : Type} {b : β} : ∀ {l : List α}, (l.map fun _ => b) = List.replicate l.length b
  | [] => rfl
  | a :: l => by rw [List.map_cons, map_const, List.length_cons, List.replicate_succ]

/-! ### lists by what they hold -/
section
variable {S : Sto} {v : Val} {xs : List Val}
theorem vLen_of (h : lstOf S v = some xs) : vLen [v] S = .ok (.int (xs.length : Nat)) S := by
  cases v <;> first | (cases h; rfl; done) | (cases h; done) | skip
  unfold vLen; simp only [h]
theorem vList_of {bx : Bool} (h : lstOf S v = some xs) : vList bx [v] S = mkL bx xs S := by
  cases v <;> first | (cases h; rfl; done) | (cases h; done) | skip
  unfold vList; simp only [h]
theorem vTuple_of (h : lstOf S v = some xs) : vTuple [v] S = .ok (.tup xs) S := by
  cases v <;> first | (cases h; rfl; done) | (cases h; done) | skip
  unfold vTuple; simp only [h]
theorem seq_of (h : lstOf S v = some xs) : ∃ src, seqIt v S = .ok ⟨xs, src⟩ S ∧ ∀ S', lstOf S' v = some xs → src S' := by
  cases v <;> first | (cases h; exact ⟨_, rfl, fun _ _ => trivial⟩) | (cases h; done) | skip
  rename_i k
  refine ⟨fun S' => S'.objs k = some (.lst xs), ?_, fun S' h' => ?_⟩
  · unfold lstOf at h
    dsimp only at h
    split at h
    · cases h; rename_i e; exact seq_loc e
    · cases h
  · unfold lstOf at h'
    dsimp only at h'
    split at h'
    · cases h'; rename_i e; exact e
    · cases h'
end
theorem lstOf_ext {S S' : Sto} {k : Nat} {xs : List Val} (x : Ext S S') (hk : k < S.next) (h : S.objs k = some (.lst xs)) : lstOf S' (.loc k) = some xs := lstOf_loc (x.at_ hk h)

/-! ### try -/
theorem sn_try {bd : SM} {i : Nat} {off : List Nat} {hs : List (Nat × SM)} {ρ : Ev} {S : Sto} {N : Ev → Sto → Prop} {R : Val → Sto → Prop} {B C : Ev → Sto → Prop} {E : Nat → List Val → Ev → Sto → Prop} {kk : Kp (⟨N, R, B, C, E⟩ : En)} :
    Sn (sTry bd i off hs ρ S) ⟨N, R, B, C, E⟩ kk = Sn (bd ρ S) ⟨N, R, B, C, fun c vs ρ' S' => match hs.lookup c with
      | some s => Sn (suiteEnd i S' (s (ρ'.set i (some (.err c vs))) S')) ⟨N, R, B, C, E⟩
      | none => off.contains c = true ∧ E c vs ρ' S'⟩ := by
  unfold sTry
  cases bd ρ S with
  | ex c vs ρ' S' =>
    rw [sn_ex]
    dsimp only
    cases hs.lookup c with
    | some s => rfl
    | none =>
      dsimp only
      by_cases h : off.contains c = true
      · rw [if_pos h]; simp only [h, true_and]; rfl
      · rw [if_neg h, sn_st]; simp only [h, Bool.false_eq_true, false_and]
  | _ => rfl
@[simp] theorem cut_1 {α : Type} {l : List α} : cutG l (some 1) none = l.drop 1 := cut_drop (m := 1)
theorem atI_mem {α : Type} {l : List α} {i : Int} (h0 : 0 ≤ i) (h1 : i < l.length) : ∃ b, atI l i = some b ∧ b ∈ l := by
  obtain ⟨j, rfl⟩ := Int.eq_ofNat_of_zero_le h0
  have hj : j < l.length := by omega
  exact ⟨l[j], by rw [atI_n, List.getElem?_eq_getElem hj], List.getElem_mem hj⟩
end PM

/-! PM, part q: plain reasoning about parts l to o -/
namespace PM
open PySem PySem.Spec L2
section
variable {X : XP} {ρ : Ev} {S : Sto} {i j : Int} {xs ys : List Val} {P : Val → Sto → Prop}
@[simp ↓] theorem e_makeXN {n c : Nat} {F : FM} {a : AM} {kk : Kp (P, X)} : Rn (eMakeXN n c F a ρ S) P X kk = Rn (a ρ S) (fun vs S1 => (Val.loc S1.next :: vs).length = n ∧ Rn (F (.loc S1.next :: vs) (S1.alloc (.ins c []))) (fun r S2 => r = .non ∧ P (.loc S1.next) S2) X) X := by
  unfold eMakeXN; rw [rn_bind]; refine Rn_ext fun vs S1 => ?_; rw [rn_guard, rn_bind]
  refine congrArg (And _) ?_
  cases F (.loc S1.next :: vs) (S1.alloc (.ins c [])) with
  | ok r S2 => cases r <;> simp [Rn]
  | ex c vs S => rfl
  | st => rfl
@[simp ↓] theorem v_repT : vRepT (.tup xs) (.int i) S = if -1000 ≤ i ∧ i ≤ 1000 ∧ xs.length ≤ 1000 then .ok (.tup (List.replicate i.toNat xs).flatten) S else .st := nr
@[simp ↓] theorem v_and : vAnd (.int i) (.int j) S = .ok (.int (Builtin.bitAnd i j)) S := nr
@[simp ↓] theorem v_shr : vShr (.int i) (.int j) S = if 0 ≤ j then .ok (.int (i / 2 ^ j.toNat)) S else .st := nr
@[simp ↓] theorem v_shl : vShl (.int i) (.int j) S = if 0 ≤ j ∧ j ≤ 1000 ∧ i.natAbs < 2 ^ 64 then .ok (.int (i * 2 ^ j.toNat)) S else .st := nr
theorem ints_of : ∀ {l : List Int}, intsOf (l.map .int) = some l
  | [] => rfl
  | a :: l => by rw [List.map_cons]; unfold intsOf; rw [ints_of]; rfl
theorem v_anyI {l : List Int} : vAnyI [.tup (l.map .int)] S = .ok (.bl (l.any (· != 0))) S := by unfold vAnyI; simp only [ints_of]
theorem v_bestT {f : Int → Int → Int} {n : Int} {l : List Int} : vBest f [.tup ((n :: l).map .int)] S = .ok (.int (l.foldl f n)) S := by unfold vBest; simp only [ints_of]
theorem v_bestL {f : Int → Int → Int} {n : Int} {l : List Int} : vBest f [.lst ((n :: l).map .int)] S = .ok (.int (l.foldl f n)) S := by unfold vBest; simp only [lstOf_lst, Option.bind, ints_of]
theorem v_sortT {bx : Bool} {l : List Int} : vSortB bx [.tup (l.map .int)] S = mkL bx ((sortI l).map .int) S := by unfold vSortB; simp only [ints_of]
end
end PM

/-! PP, part a: programs without a store; the relation to the programs over the store -/
namespace PM
open PySem PySem.Spec L2

/-- slots: the same value; a list, dict or instance of the store or the same value; one that this def owns; one that the caller lends to be changed; a cell -/
inductive Kd where
  | s | f | o | p | c
  deriving DecidableEq
def Kd.own : Kd → Bool
  | .o => true | .p => true | _ => false
abbrev Cs := List (Nat × Nat)
def obV : Ob → Option Val
  | .lst xs => some (.lst xs)
  | .dk false ks vs => some (.dk ks vs)
  | .dt false ks vs => some (.dt ks vs)
  | .ins c vs => some (.ins c vs)
  | _ => none
def isO : Val → Bool
  | .lst _ => true | .dk _ _ => true | .dt _ _ => true | .ins _ _ => true | _ => false
theorem isO_of {o : Ob} {u : Val} (h : obV o = some u) : isO u = true := by
  cases o with
  | lst xs => cases h; rfl
  | dk lk ks vs => cases lk <;> cases h; rfl
  | dt lk ks vs => cases lk <;> cases h; rfl
  | ins c vs => cases h; rfl
def Free (c : Cs) (k : Nat) : Prop := ∀ p ∈ c, p.2 ≠ k
/-- k holds what u tells -/
def VL (c : Cs) (S : Sto) (k : Nat) (u : Val) : Prop := Free c k ∧ ∃ o, S.objs k = some o ∧ obV o = some u
def VQ (c : Cs) (S : Sto) (v v' : Val) : Prop := v = v' ∨ ∃ k, v = .loc k ∧ VL c S k v'
structure St (c : Cs) (Z S : Sto) : Prop where
  cr : ∀ p ∈ c, ∃ o, Z.objs p.1 = some o ∧ S.objs p.2 = some o
  inj : ∀ p ∈ c, ∀ q ∈ c, p.1 = q.1 ↔ p.2 = q.2
  wf : ∀ k o, S.objs k = some o → k < S.next
  wz : ∀ k o, Z.objs k = some o → k < Z.next
/-- an expression's frame -/
structure XF (c : Cs) (S S1 : Sto) : Prop where
  le : S.next ≤ S1.next
  eq : ∀ k, k < S.next → Free c k → S1.objs k = S.objs k
theorem XF.refl {c : Cs} {S : Sto} : XF c S S := ⟨Nat.le_refl _, fun _ _ _ => rfl⟩
theorem XF.trans {c : Cs} {S S1 S2 : Sto} (a : XF c S S1) (b : XF c S1 S2) : XF c S S2 :=
  ⟨Nat.le_trans a.le b.le, fun k h f => (b.eq k (Nat.lt_of_lt_of_le h a.le) f).trans (a.eq k h f)⟩
theorem VL.lt {c : Cs} {Z S : Sto} {k : Nat} {u : Val} (s : St c Z S) (h : VL c S k u) : k < S.next := by
  obtain ⟨_, o, e, _⟩ := h
  exact s.wf _ _ e
theorem VL.mono {c : Cs} {Z S S1 : Sto} {k : Nat} {u : Val} (s : St c Z S) (x : XF c S S1) (h : VL c S k u) : VL c S1 k u := by
  have l := h.lt s
  obtain ⟨f, o, e, q⟩ := h
  exact ⟨f, o, (x.eq k l f).trans e, q⟩
theorem VQ.mono {c : Cs} {Z S S1 : Sto} {v v' : Val} (s : St c Z S) (x : XF c S S1) (h : VQ c S v v') : VQ c S1 v v' := by
  rcases h with h | ⟨k, e, h⟩
  · exact .inl h
  · exact .inr ⟨k, e, h.mono s x⟩
abbrev RelK (α β : Type) := Cs → Nat → Sto → α → β → Prop
def RV {α : Type} : RelK α α := fun _ _ _ v v' => v = v'
def RQ : RelK Val Val := fun c _ S v v' => VQ c S v v'
/-- a new object -/
def RF : RelK Val Val := fun c n S v v' => ∃ k, v = .loc k ∧ n ≤ k ∧ VL c S k v'
def Sim {α β : Type} (c : Cs) (S : Sto) (n : Nat) (R : RelK α β) (r : Res α) (r' : Res β) : Prop := match r' with
  | .ok v' Z1 => ∃ v S1, r = .ok v S1 ∧ XF c S S1 ∧ St c Z1 S1 ∧ R c n S1 v v'
  | .ex i vs Z1 => ∃ S1, r = .ex i vs S1 ∧ XF c S S1 ∧ St c Z1 S1
  | .st => True
section
variable {α β γ δ : Type} {c : Cs} {S Z : Sto} {n : Nat} {R : RelK α β} {R2 : RelK γ δ}
theorem Sim.bind {r : Res α} {r' : Res β} {g : α → Sto → Res γ} {g' : β → Sto → Res δ} (h : Sim c S n R r r')
    (k : ∀ v v' S1 Z1, XF c S S1 → St c Z1 S1 → R c n S1 v v' → Sim c S1 n R2 (g v S1) (g' v' Z1)) : Sim c S n R2 (r.bind g) (r'.bind g') := by
  cases r' with
  | st => trivial
  | ex i vs Z1 =>
    obtain ⟨S1, e, x, s⟩ := h
    rw [e]; exact ⟨S1, rfl, x, s⟩
  | ok v' Z1 =>
    obtain ⟨v, S1, e, x, s, q⟩ := h
    rw [e]
    have := k v v' S1 Z1 x s q
    show Sim c S n R2 (g v S1) (g' v' Z1)
    revert this
    cases g' v' Z1 with
    | st => intro _; trivial
    | ex i vs Z2 => rintro ⟨S2, e2, x2, s2⟩; exact ⟨S2, e2, x.trans x2, s2⟩
    | ok w Z2 => rintro ⟨u, S2, e2, x2, s2, q2⟩; exact ⟨u, S2, e2, x.trans x2, s2, q2⟩
theorem Sim.ok {v : α} {v' : β} (s : St c Z S) (h : R c n S v v') : Sim c S n R (.ok v S) (.ok v' Z) := ⟨v, S, rfl, .refl, s, h⟩
theorem Sim.imp {R' : RelK α β} {r : Res α} {r' : Res β} (h : Sim c S n R r r') (i : ∀ S1 v v', R c n S1 v v' → R' c n S1 v v') : Sim c S n R' r r' := by
  cases r' with
  | st => trivial
  | ex => exact h
  | ok v' Z1 => obtain ⟨v, S1, e, x, s, q⟩ := h; exact ⟨v, S1, e, x, s, i _ _ _ q⟩
theorem Sim.noEx {r : Res α} {r' : Res β} (h : Sim c S n R r r') : Sim c S n R (noEx r) (noEx r') := by
  cases r' with
  | st => trivial
  | ex => trivial
  | ok v' Z1 => obtain ⟨v, S1, e, x, s, q⟩ := h; rw [e]; exact ⟨v, S1, rfl, x, s, q⟩
end
/-! ### slots -/
def nl (a : Option Val) : Prop := a = none ∨ ∃ k, a = some (.loc k)
def SlR (c : Cs) (S : Sto) : Kd → Option Val → Option Val → Prop
  | .s, a, b => a = b
  | .f, a, b => a = b ∨ ∃ k u, a = some (.loc k) ∧ b = some u ∧ VL c S k u
  | .o, a, b => (b = none ∧ nl a) ∨ ∃ k u, a = some (.loc k) ∧ b = some u ∧ VL c S k u
  | .p, a, b => (b = none ∧ nl a) ∨ ∃ k u, a = some (.loc k) ∧ b = some u ∧ VL c S k u
  | .c, a, b => (b = none ∧ nl a) ∨ ∃ j k, a = some (.loc k) ∧ b = some (.loc j) ∧ (j, k) ∈ c
/-- the slot's object -/
def us (a b : Option Val) (k : Nat) : Prop := a = some (.loc k) ∧ ∃ u, b = some u ∧ isO u = true
structure EvR (κ : List Kd) (c : Cs) (S : Sto) (ρ ρ' : Ev) : Prop where
  len : ρ.length = κ.length
  len' : ρ'.length = κ.length
  rel : ∀ i kd, κ[i]? = some kd → SlR c S kd (lk ρ i) (lk ρ' i)
  na : ∀ i j kd k, i ≠ j → κ[i]? = some kd → kd.own = true → us (lk ρ i) (lk ρ' i) k → ¬ us (lk ρ j) (lk ρ' j) k
theorem SlR.mono {c : Cs} {Z S S1 : Sto} (s : St c Z S) (x : ∀ k u, VL c S k u → VL c S1 k u) : ∀ {kd : Kd} {a b : Option Val}, SlR c S kd a b → SlR c S1 kd a b
  | .s, _, _, h => h
  | .f, _, _, h => by
    rcases h with h | ⟨k, u, e1, e2, h⟩
    · exact .inl h
    · exact .inr ⟨k, u, e1, e2, x _ _ h⟩
  | .o, _, _, h => by
    rcases h with h | ⟨k, u, e1, e2, h⟩
    · exact .inl h
    · exact .inr ⟨k, u, e1, e2, x _ _ h⟩
  | .p, _, _, h => by
    rcases h with h | ⟨k, u, e1, e2, h⟩
    · exact .inl h
    · exact .inr ⟨k, u, e1, e2, x _ _ h⟩
  | .c, _, _, h => h
theorem EvR.mono {κ : List Kd} {c : Cs} {Z S S1 : Sto} {ρ ρ' : Ev} (s : St c Z S) (x : XF c S S1) (h : EvR κ c S ρ ρ') : EvR κ c S1 ρ ρ' :=
  ⟨h.len, h.len', fun i kd e => (h.rel i kd e).mono s fun _ _ q => q.mono s x, h.na⟩
/-- lifts of expressions -/
def LE {α β : Type} (R : RelK α β) (κ : List Kd) (e : Ev → Sto → Res α) (p : Ev → Sto → Res β) : Prop := ∀ c Z S ρ ρ' n, EvR κ c S ρ ρ' → St c Z S → n ≤ S.next → Sim c S n R (e ρ S) (p ρ' Z)
/-- an operator asked without a store -/
def Res.onto {α : Type} (r : Res α) (Z : Sto) : Res α := match r with
  | .ok a _ => .ok a Z
  | .ex c vs _ => .ex c vs Z
  | .st => .st
abbrev Z0 : Sto := S0
def eBinP (op : Val → Val → Sto → Res Val) (a b : EM) : EM := fun ρ S => (a ρ S).bind fun v S1 => (b ρ S1).bind fun w S2 => (op v w Z0).onto S2
def eUnP (op : Val → Sto → Res Val) (a : EM) : EM := fun ρ S => (a ρ S).bind fun v S1 => (op v Z0).onto S1
def eBIP (op : List Val → Sto → Res Val) (a : AM) : EM := fun ρ S => (a ρ S).bind fun vs S1 => (op vs Z0).onto S1
/-- an operator that gives the same for a store's object as for its value -/
def Rs2 (op : Val → Val → Sto → Res Val) : Prop := ∀ c S v v' w w' u Z1, VQ c S v v' → VQ c S w w' → op v' w' Z0 = .ok u Z1 → op v w S = .ok u S
def Rs1 (op : Val → Sto → Res Val) : Prop := ∀ c S v v' u Z1, VQ c S v v' → op v' Z0 = .ok u Z1 → op v S = .ok u S
inductive VQs (c : Cs) (S : Sto) : List Val → List Val → Prop
  | nil : VQs c S [] []
  | cons {v v' : Val} {vs vs' : List Val} : VQ c S v v' → VQs c S vs vs' → VQs c S (v :: vs) (v' :: vs')
def RsL (op : List Val → Sto → Res Val) : Prop := ∀ c S vs vs' u Z1, VQs c S vs vs' → op vs' Z0 = .ok u Z1 → op vs S = .ok u S
def RQs : RelK (List Val) (List Val) := fun c _ S vs vs' => VQs c S vs vs'
theorem VQs.mono {c : Cs} {Z S S1 : Sto} (s : St c Z S) (x : XF c S S1) : ∀ {vs vs' : List Val}, VQs c S vs vs' → VQs c S1 vs vs'
  | _, _, .nil => .nil
  | _, _, .cons a b => .cons (a.mono s x) (VQs.mono s x b)
/-- operators that never raise -/
def NX {α : Type} (r : Res α) : Prop := match r with | .ex _ _ _ => False | _ => True
section
variable {κ : List Kd} {a b e : EM} {pa pb pe : EM}
theorem LE.q {e p : EM} (h : LE RV κ e p) : LE RQ κ e p := fun c Z S ρ ρ' n r s hn => (h c Z S ρ ρ' n r s hn).imp fun _ _ _ q => .inl q
theorem LE.fq {e p : EM} (h : LE RF κ e p) : LE RQ κ e p := fun c Z S ρ ρ' n r s hn => (h c Z S ρ ρ' n r s hn).imp fun _ _ _ ⟨k, e, _, q⟩ => .inr ⟨k, e, q⟩
theorem le_c {v : Val} : LE RV κ (eC v) (eC v) := fun c Z S ρ ρ' n r s hn => .ok s rfl
theorem lk_some {ρ : Ev} {i : Nat} {v : Val} : lk ρ i = some v ↔ ρ[i]? = some (some v) := by
  rw [lk_get]
  cases e : ρ[i]? with
  | none => simp
  | some o => cases o <;> simp
theorem eVar_lk (ρ : Ev) (i : Nat) (S : Sto) : eVar i ρ S = vr (lk ρ i) S := by
  unfold eVar
  rw [lk_get]
  cases ρ[i]? with
  | none => rfl
  | some o => cases o <;> rfl
theorem le_var (i : Nat) (h : κ[i]? = some .s) : LE RV κ (eVar i) (eVar i) := fun c Z S ρ ρ' n r s hn => by
  rw [eVar_lk, eVar_lk]
  have := r.rel i _ h
  rw [show lk ρ i = lk ρ' i from this]
  cases lk ρ' i with
  | none => trivial
  | some v => exact .ok s rfl
theorem SlR.q {c : Cs} {S : Sto} {a b : Option Val} {v' : Val} : ∀ {kd : Kd}, kd ≠ .c → SlR c S kd a b → b = some v' → ∃ v, a = some v ∧ VQ c S v v'
  | .s, _, h, e => ⟨v', by rw [show a = b from h, e], .inl rfl⟩
  | .f, _, h, e => by
    rcases h with h | ⟨k, u, e1, e2, h⟩
    · exact ⟨v', by rw [h, e], .inl rfl⟩
    · rw [e2] at e; cases e; exact ⟨_, e1, .inr ⟨k, rfl, h⟩⟩
  | .o, _, h, e => by
    rcases h with ⟨h, _⟩ | ⟨k, u, e1, e2, h⟩
    · rw [h] at e; cases e
    · rw [e2] at e; cases e; exact ⟨_, e1, .inr ⟨k, rfl, h⟩⟩
  | .p, _, h, e => by
    rcases h with ⟨h, _⟩ | ⟨k, u, e1, e2, h⟩
    · rw [h] at e; cases e
    · rw [e2] at e; cases e; exact ⟨_, e1, .inr ⟨k, rfl, h⟩⟩
  | .c, n, _, _ => absurd rfl n
theorem le_varQ (i : Nat) {kd : Kd} (h : κ[i]? = some kd) (hk : kd ≠ .c) : LE RQ κ (eVar i) (eVar i) := fun c Z S ρ ρ' n r s hn => by
  rw [eVar_lk, eVar_lk]
  have := r.rel i _ h
  cases e : lk ρ' i with
  | none => trivial
  | some v' =>
    obtain ⟨v, e1, q⟩ := this.q hk e
    rw [e1]; exact .ok s q
theorem onto_ok {α : Type} {r : Res α} {Z : Sto} {u : α} {Z1 : Sto} (h : r.onto Z = .ok u Z1) : Z1 = Z ∧ ∃ Z2, r = .ok u Z2 := by
  cases r <;> cases h; exact ⟨rfl, _, rfl⟩
theorem sim_op {c : Cs} {S Z : Sto} {n : Nat} {r r' : Res Val} (s : St c Z S) (hx : NX r') (h : ∀ u Z1, r' = .ok u Z1 → r = .ok u S) : Sim c S n RV r (r'.onto Z) := by
  cases r' with
  | st => trivial
  | ex => exact False.elim hx
  | ok u Z1 => exact ⟨u, S, h u Z1 rfl, .refl, s, rfl⟩
theorem le_bin {op : Val → Val → Sto → Res Val} (ok : Rs2 op) (nx : ∀ v w S, NX (op v w S)) (ha : LE RQ κ a pa) (hb : LE RQ κ b pb) : LE RV κ (eBin op a b) (eBinP op pa pb) := fun c Z S ρ ρ' n r s hn =>
  (ha c Z S ρ ρ' n r s hn).bind fun v v' S1 Z1 x1 s1 q1 => (hb c Z1 S1 ρ ρ' n (r.mono s x1) s1 (Nat.le_trans hn x1.le)).bind fun w w' S2 Z2 x2 s2 q2 =>
    sim_op s2 (nx _ _ _) fun u Z3 e => ok c S2 v v' w w' u Z3 (q1.mono s1 x2) q2 e
theorem le_un {op : Val → Sto → Res Val} (ok : Rs1 op) (nx : ∀ v S, NX (op v S)) (ha : LE RQ κ a pa) : LE RV κ (eUn op a) (eUnP op pa) := fun c Z S ρ ρ' n r s hn =>
  (ha c Z S ρ ρ' n r s hn).bind fun v v' S1 Z1 x1 s1 q1 => sim_op s1 (nx _ _) fun u Z3 e => ok c S1 v v' u Z3 q1 e
theorem la_nil : LE RQs κ aNil aNil := fun c Z S ρ ρ' n r s hn => .ok s .nil
theorem la_cons {r r' : AM} (ha : LE RQ κ a pa) (hr : LE RQs κ r r') : LE RQs κ (aCons a r) (aCons pa r') := fun c Z S ρ ρ' n er s hn =>
  (ha c Z S ρ ρ' n er s hn).bind fun v v' S1 Z1 x1 s1 q1 => (hr c Z1 S1 ρ ρ' n (er.mono s x1) s1 (Nat.le_trans hn x1.le)).bind fun w w' S2 Z2 x2 s2 q2 => .ok s2 (.cons (q1.mono s1 x2) q2)
theorem lv_nil : LE RV κ aNil aNil := fun c Z S ρ ρ' n r s hn => .ok s rfl
theorem lv_cons {r r' : AM} (ha : LE RV κ a pa) (hr : LE RV κ r r') : LE RV κ (aCons a r) (aCons pa r') := fun c Z S ρ ρ' n er s hn =>
  (ha c Z S ρ ρ' n er s hn).bind fun v v' S1 Z1 x1 s1 q1 => (hr c Z1 S1 ρ ρ' n (er.mono s x1) s1 (Nat.le_trans hn x1.le)).bind fun w w' S2 Z2 x2 s2 q2 => .ok s2 (by rw [show v = v' from q1, show w = w' from q2]; rfl)
theorem le_bi {op : List Val → Sto → Res Val} {r r' : AM} (ok : RsL op) (nx : ∀ v S, NX (op v S)) (ha : LE RQs κ r r') : LE RV κ (eBI op r) (eBIP op r') := fun c Z S ρ ρ' n er s hn =>
  (ha c Z S ρ ρ' n er s hn).bind fun v v' S1 Z1 x1 s1 q1 => sim_op s1 (nx _ _) fun u Z3 e => ok c S1 v v' u Z3 q1 e
theorem le_tup {r r' : AM} (ha : LE RV κ r r') : LE RV κ (eTup r) (eTup r') := fun c Z S ρ ρ' n er s hn =>
  (ha c Z S ρ ρ' n er s hn).bind fun v v' S1 Z1 x1 s1 q1 => by
    obtain rfl : v = v' := q1
    by_cases h : v.length ≤ sizeLine
    · rw [if_pos h, if_pos h]; exact .ok s1 rfl
    · rw [if_neg h, if_neg h]; trivial
theorem le_lst {r r' : AM} (ha : LE RV κ r r') : LE RV κ (eLst false r) (eLst false r') := fun c Z S ρ ρ' n er s hn =>
  (ha c Z S ρ ρ' n er s hn).bind fun v v' S1 Z1 x1 s1 q1 => by
    obtain rfl : v = v' := q1
    by_cases h : v.length ≤ sizeLine
    · rw [if_pos h, if_pos h]; exact .ok s1 rfl
    · rw [if_neg h, if_neg h]; trivial
/-- a new list, dict .. -/
theorem new_ok {c : Cs} {S Z : Sto} {n : Nat} {o : Ob} {u : Val} (s : St c Z S) (hn : n ≤ S.next) (hu : obV o = some u) : Sim c S n RF (.ok (.loc S.next) (S.alloc o)) (.ok u Z) := by
  have fr : Free c S.next := fun p hp e => by
    obtain ⟨o, _, h⟩ := s.cr p hp
    have := s.wf _ _ h
    omega
  refine ⟨_, _, rfl, ⟨Nat.le_succ _, fun k hk _ => alloc_ne (Nat.ne_of_lt hk)⟩, ⟨fun p hp => ?_, s.inj, fun k o' h => ?_, s.wz⟩, S.next, rfl, hn, fr, o, alloc_at, hu⟩
  · obtain ⟨o', h1, h2⟩ := s.cr p hp
    exact ⟨o', h1, by rw [alloc_ne (Nat.ne_of_lt (s.wf _ _ h2))]; exact h2⟩
  · by_cases hk : k = S.next
    · rw [hk]; exact Nat.lt_succ_self _
    · rw [alloc_ne hk] at h; exact Nat.lt_succ_of_lt (s.wf _ _ h)
theorem mkL_new {c : Cs} {S Z : Sto} {n : Nat} {vs : List Val} (s : St c Z S) (hn : n ≤ S.next) : Sim c S n RF (mkL true vs S) (mkL false vs Z) := new_ok s hn rfl
theorem le_lstN {r r' : AM} (ha : LE RV κ r r') : LE RF κ (eLst true r) (eLst false r') := fun c Z S ρ ρ' n er s hn =>
  (ha c Z S ρ ρ' n er s hn).bind fun v v' S1 Z1 x1 s1 q1 => by
    obtain rfl : v = v' := q1
    by_cases h : v.length ≤ sizeLine
    · rw [if_pos h, if_pos h]; exact mkL_new s1 (Nat.le_trans hn x1.le)
    · rw [if_neg h, if_neg h]; trivial
/-- an operator that makes a new list: with and without the store -/
def RsN1 (op op' : Val → Sto → Res Val) : Prop := ∀ c S v v' u Z1, VQ c S v v' → op' v' Z0 = .ok u Z1 → ∃ o, obV o = some u ∧ op v S = .ok (.loc S.next) (S.alloc o)
def RsN2 (op op' : Val → Val → Sto → Res Val) : Prop := ∀ c S v v' w w' u Z1, VQ c S v v' → VQ c S w w' → op' v' w' Z0 = .ok u Z1 → ∃ o, obV o = some u ∧ op v w S = .ok (.loc S.next) (S.alloc o)
def RsNL (op op' : List Val → Sto → Res Val) : Prop := ∀ c S vs vs' u Z1, VQs c S vs vs' → op' vs' Z0 = .ok u Z1 → ∃ o, obV o = some u ∧ op vs S = .ok (.loc S.next) (S.alloc o)
theorem sim_new {c : Cs} {S Z : Sto} {n : Nat} {r r' : Res Val} (s : St c Z S) (hn : n ≤ S.next) (hx : NX r') (h : ∀ u Z1, r' = .ok u Z1 → ∃ o, obV o = some u ∧ r = .ok (.loc S.next) (S.alloc o)) : Sim c S n RF r (r'.onto Z) := by
  cases r' with
  | st => trivial
  | ex => exact False.elim hx
  | ok u Z1 =>
    obtain ⟨o, h1, h2⟩ := h u Z1 rfl
    rw [h2]; exact new_ok s hn h1
theorem le_binN {op op' : Val → Val → Sto → Res Val} (ok : RsN2 op op') (nx : ∀ v w S, NX (op' v w S)) (ha : LE RQ κ a pa) (hb : LE RQ κ b pb) : LE RF κ (eBin op a b) (eBinP op' pa pb) := fun c Z S ρ ρ' n r s hn =>
  (ha c Z S ρ ρ' n r s hn).bind fun v v' S1 Z1 x1 s1 q1 => (hb c Z1 S1 ρ ρ' n (r.mono s x1) s1 (Nat.le_trans hn x1.le)).bind fun w w' S2 Z2 x2 s2 q2 =>
    sim_new s2 (Nat.le_trans hn (x1.trans x2).le) (nx _ _ _) fun u Z3 e => ok c S2 v v' w w' u Z3 (q1.mono s1 x2) q2 e
theorem le_unN {op op' : Val → Sto → Res Val} (ok : RsN1 op op') (nx : ∀ v S, NX (op' v S)) (ha : LE RQ κ a pa) : LE RF κ (eUn op a) (eUnP op' pa) := fun c Z S ρ ρ' n r s hn =>
  (ha c Z S ρ ρ' n r s hn).bind fun v v' S1 Z1 x1 s1 q1 => sim_new s1 (Nat.le_trans hn x1.le) (nx _ _) fun u Z3 e => ok c S1 v v' u Z3 q1 e
theorem le_biN {op op' : List Val → Sto → Res Val} {r r' : AM} (ok : RsNL op op') (nx : ∀ v S, NX (op' v S)) (ha : LE RQs κ r r') : LE RF κ (eBI op r) (eBIP op' r') := fun c Z S ρ ρ' n er s hn =>
  (ha c Z S ρ ρ' n er s hn).bind fun v v' S1 Z1 x1 s1 q1 => sim_new s1 (Nat.le_trans hn x1.le) (nx _ _) fun u Z3 e => ok c S1 v v' u Z3 q1 e
/-- branches -/
theorem le_if {R : RelK Val Val} {t pt : BM} (ht : LE RV κ t pt) (ha : LE R κ a pa) (hb : LE R κ b pb) : LE R κ (eIf t a b) (eIf pt pa pb) := fun c Z S ρ ρ' n r s hn =>
  (ht c Z S ρ ρ' n r s hn).bind fun v v' S1 Z1 x1 s1 q1 => by
    obtain rfl : v = v' := q1
    cases v with
    | true => exact ha c Z1 S1 ρ ρ' n (r.mono s x1) s1 (Nat.le_trans hn x1.le)
    | false => exact hb c Z1 S1 ρ ρ' n (r.mono s x1) s1 (Nat.le_trans hn x1.le)
theorem le_and (ha : LE RV κ a pa) (hb : LE RV κ b pb) : LE RV κ (eAnd a b) (eAnd pa pb) := fun c Z S ρ ρ' n r s hn =>
  (ha c Z S ρ ρ' n r s hn).bind fun v v' S1 Z1 x1 s1 q1 => by
    obtain rfl : v = v' := q1
    cases v with
    | bl k =>
      cases k with
      | true => exact hb c Z1 S1 ρ ρ' n (r.mono s x1) s1 (Nat.le_trans hn x1.le)
      | false => exact .ok s1 rfl
    | _ => trivial
theorem le_or (ha : LE RV κ a pa) (hb : LE RV κ b pb) : LE RV κ (eOr a b) (eOr pa pb) := fun c Z S ρ ρ' n r s hn =>
  (ha c Z S ρ ρ' n r s hn).bind fun v v' S1 Z1 x1 s1 q1 => by
    obtain rfl : v = v' := q1
    cases v with
    | bl k =>
      cases k with
      | true => exact .ok s1 rfl
      | false => exact hb c Z1 S1 ρ ρ' n (r.mono s x1) s1 (Nat.le_trans hn x1.le)
    | _ => trivial
theorem le_not (ha : LE RV κ a pa) : LE RV κ (eNot a) (eNot pa) := fun c Z S ρ ρ' n r s hn =>
  (ha c Z S ρ ρ' n r s hn).bind fun v v' S1 Z1 x1 s1 q1 => by
    obtain rfl : v = v' := q1
    cases v with
    | bl k => exact .ok s1 rfl
    | _ => trivial
theorem lt_b (ha : LE RV κ a pa) : LE RV κ (tB a) (tB pa) := fun c Z S ρ ρ' n r s hn =>
  (ha c Z S ρ ρ' n r s hn).bind fun v v' S1 Z1 x1 s1 q1 => by
    obtain rfl : v = v' := q1
    cases v with
    | bl k => exact .ok s1 rfl
    | _ => trivial
variable {ta tb pta ptb : BM}
theorem lt_and (ha : LE RV κ ta pta) (hb : LE RV κ tb ptb) : LE RV κ (tAndM ta tb) (tAndM pta ptb) := fun c Z S ρ ρ' n r s hn =>
  (ha c Z S ρ ρ' n r s hn).bind fun v v' S1 Z1 x1 s1 q1 => by
    obtain rfl : v = v' := q1
    cases v with
    | true => exact hb c Z1 S1 ρ ρ' n (r.mono s x1) s1 (Nat.le_trans hn x1.le)
    | false => exact .ok s1 rfl
theorem lt_or (ha : LE RV κ ta pta) (hb : LE RV κ tb ptb) : LE RV κ (tOrM ta tb) (tOrM pta ptb) := fun c Z S ρ ρ' n r s hn =>
  (ha c Z S ρ ρ' n r s hn).bind fun v v' S1 Z1 x1 s1 q1 => by
    obtain rfl : v = v' := q1
    cases v with
    | true => exact .ok s1 rfl
    | false => exact hb c Z1 S1 ρ ρ' n (r.mono s x1) s1 (Nat.le_trans hn x1.le)
theorem lt_not (ha : LE RV κ ta pta) : LE RV κ (tNotM ta) (tNotM pta) := fun c Z S ρ ρ' n r s hn =>
  (ha c Z S ρ ρ' n r s hn).bind fun v v' S1 Z1 x1 s1 q1 => by
    obtain rfl : v = v' := q1
    exact .ok s1 rfl
theorem lt_yes : LE RV κ tYesM tYesM := fun c Z S ρ ρ' n r s hn => .ok s rfl
end
section
variable {κ : List Kd} {a b d : EM} {pa pb pd : EM}
def eChainP (o o' : Val → Val → Sto → Res Val) (a b c : EM) : EM := fun ρ S => (a ρ S).bind fun v S1 => (b ρ S1).bind fun w S2 => ((o v w Z0).onto S2).bind fun k S3 => match k with
  | .bl true => (c ρ S3).bind fun z S4 => (o' w z Z0).onto S4
  | .bl false => .ok (.bl false) S3
  | _ => .st
theorem le_chain {o o' : Val → Val → Sto → Res Val} (ok : Rs2 o) (nx : ∀ v w S, NX (o v w S)) (ok' : Rs2 o') (nx' : ∀ v w S, NX (o' v w S)) (ha : LE RQ κ a pa) (hb : LE RQ κ b pb) (hd : LE RQ κ d pd) : LE RV κ (eChain o o' a b d) (eChainP o o' pa pb pd) := fun c Z S ρ ρ' n r s hn =>
  (ha c Z S ρ ρ' n r s hn).bind fun v v' S1 Z1 x1 s1 q1 => (hb c Z1 S1 ρ ρ' n (r.mono s x1) s1 (Nat.le_trans hn x1.le)).bind fun w w' S2 Z2 x2 s2 q2 =>
    (sim_op s2 (nx _ _ _) fun u Z3 e => ok c S2 v v' w w' u Z3 (q1.mono s1 x2) q2 e).bind fun k k' S3 Z3 x3 s3 q3 => by
      obtain rfl : k = k' := q3
      cases k with
      | bl t =>
        cases t with
        | false => exact .ok s3 rfl
        | true =>
          exact (hd c Z3 S3 ρ ρ' n (r.mono s (x1.trans (x2.trans x3))) s3 (Nat.le_trans hn (x1.trans (x2.trans x3)).le)).bind fun z z' S4 Z4 x4 s4 q4 =>
            sim_op s4 (nx' _ _ _) fun u Z5 e => ok' c S4 w w' z z' u Z5 ((q2.mono s2 x3).mono s3 x4) q4 e
      | _ => trivial
def tTruP (f : EM) : BM := fun ρ S => (f ρ S).bind fun v S1 => match truOf Z0 v with
  | some c => .ok c S1
  | none => .st
theorem tru_q {c : Cs} {S : Sto} {v v' : Val} {b : Bool} (h : VQ c S v v') (e : truOf Z0 v' = some b) : truOf S v = some b := by
  rcases h with rfl | ⟨k, rfl, _, o, h1, h2⟩
  · cases v <;> first | exact e | (simp [truOf, lstOf, Z0, S0] at e)
  · cases o with
    | lst xs => cases h2; simpa [truOf, lstOf, h1] using e
    | dk lk ks vs => cases lk <;> cases h2; simp [truOf, lstOf] at e
    | dt lk ks vs => cases lk <;> cases h2; simp [truOf, lstOf] at e
    | ins c vs => cases h2; simp [truOf, lstOf] at e
theorem lt_tru (ha : LE RQ κ a pa) : LE RV κ (tTru a) (tTruP pa) := fun c Z S ρ ρ' n r s hn =>
  (ha c Z S ρ ρ' n r s hn).bind fun v v' S1 Z1 x1 s1 q1 => by
    cases e : truOf Z0 v' with
    | none => trivial
    | some b => rw [tru_q q1 e]; exact .ok s1 rfl
theorem lo_none : LE RV κ oNone oNone := fun c Z S ρ ρ' n r s hn => .ok s rfl
theorem lo_some (ha : LE RV κ a pa) : LE RV κ (oSome a) (oSome pa) := fun c Z S ρ ρ' n r s hn =>
  (ha c Z S ρ ρ' n r s hn).bind fun v v' S1 Z1 x1 s1 q1 => by
    obtain rfl : v = v' := q1
    cases v with
    | int i => exact .ok s1 rfl
    | _ => trivial
def eCutP (f : EM) (lo hi : OM) : EM := fun ρ S => (f ρ S).bind fun v S1 => (lo ρ S1).bind fun l S2 => (hi ρ S2).bind fun u S3 => (vCut false v l u Z0).onto S3
/-- the items of a list or tuple -/
theorem lst_q {c : Cs} {S : Sto} {v v' : Val} {xs : List Val} (h : VQ c S v v') (e : lstOf Z0 v' = some xs) : lstOf S v = some xs := by
  rcases h with rfl | ⟨k, rfl, _, o, h1, h2⟩
  · cases v <;> first | exact e | (simp [lstOf, Z0, S0] at e)
  · cases o with
    | lst ys => cases h2; simpa [lstOf, h1] using e
    | dk lk ks vs => cases lk <;> cases h2; simp [lstOf] at e
    | dt lk ks vs => cases lk <;> cases h2; simp [lstOf] at e
    | ins c vs => cases h2; simp [lstOf] at e
theorem mlst_q {c : Cs} {S : Sto} {v v' : Val} {xs : List Val} (h : VQ c S v v') (e : mlstOf Z0 v' = some xs) : mlstOf S v = some xs := by
  rcases h with rfl | ⟨k, rfl, _, o, h1, h2⟩
  · cases v <;> first | exact e | (simp [mlstOf, Z0, S0] at e)
  · cases o with
    | lst ys => cases h2; simpa [mlstOf, h1] using e
    | dk lk ks vs => cases lk <;> cases h2; simp [mlstOf] at e
    | dt lk ks vs => cases lk <;> cases h2; simp [mlstOf] at e
    | ins c vs => cases h2; simp [mlstOf] at e
theorem ins_q {c : Cs} {S : Sto} {v v' : Val} {w : Nat × List Val} (h : VQ c S v v') (e : insOf Z0 v' = some w) : insOf S v = some w := by
  rcases h with rfl | ⟨k, rfl, _, o, h1, h2⟩
  · cases v <;> first | exact e | (simp [insOf, Z0, S0] at e)
  · cases o with
    | lst ys => cases h2; simp [insOf] at e
    | dk lk ks vs => cases lk <;> cases h2; simp [insOf] at e
    | dt lk ks vs => cases lk <;> cases h2; simp [insOf] at e
    | ins c vs => cases h2; simpa [insOf, h1] using e
/-- where the value is no object of the store, both are the same -/
theorem vq_same {c : Cs} {S : Sto} {v v' : Val} (h : VQ c S v v') (n : ∀ o, obV o ≠ some v') : v = v' := by
  rcases h with h | ⟨k, _, _, o, _, h2⟩
  · exact h
  · exact absurd h2 (n o)
theorem vq_dat {c : Cs} {S : Sto} {v v' : Val} {d : PyData} (h : VQ c S v v') (e : datS Z0 v' = some d) : datS S v = some d := by
  rcases h with rfl | ⟨k, rfl, _, o, h1, h2⟩
  · cases v <;> first | exact e | (simp [datS, Z0, S0] at e)
  · cases o with
    | lst ys => cases h2; simpa [datS, h1, Val.dat] using e
    | dk lk ks vs => cases lk <;> cases h2; simp [datS, Val.dat] at e
    | dt lk ks vs => cases lk <;> cases h2; simp [datS, Val.dat] at e
    | ins c vs => cases h2; simp [datS, Val.dat] at e
theorem vq_tag {c : Cs} {S : Sto} {v v' : Val} {t : Tg} (h : VQ c S v v') (e : tagOf Z0 v' = some t) : tagOf S v = some t := by
  rcases h with rfl | ⟨k, rfl, _, o, h1, h2⟩
  · cases v <;> first | exact e | (simp [tagOf, Z0, S0] at e)
  · cases o with
    | lst ys => cases h2; simpa [tagOf, h1] using e
    | dk lk ks vs => cases lk <;> cases h2; simpa [tagOf, h1] using e
    | dt lk ks vs => cases lk <;> cases h2; simpa [tagOf, h1] using e
    | ins c vs => cases h2; simp [tagOf] at e
end
end PM

/-! PP, part b: the operators -/
namespace PM
open PySem PySem.Spec L2
theorem vq_s {c : Cs} {S : Sto} {v v' : Val} (h : VQ c S v v') (n : isO v' = false) : v = v' := vq_same h fun o e => by rw [isO_of e] at n; cases n
/-- an operator on two values none of which is an object -/
theorem rs2_of {op : Val → Val → Sto → Res Val} (h : ∀ v w u Z1, op v w Z0 = .ok u Z1 → isO v = false ∧ isO w = false ∧ ∀ S, op v w S = .ok u S) : Rs2 op := fun c S v v' w w' u Z1 h1 h2 e => by
  obtain ⟨a, b, q⟩ := h _ _ _ _ e
  rw [vq_s h1 a, vq_s h2 b]; exact q S
theorem rs_sub : Rs2 vSub := by (refine rs2_of fun v w u Z1 e => ?_; cases v <;> first | (cases e; done) | (cases w <;> first | (cases e; done) | (exact ⟨rfl, rfl, fun S => by cases e; rfl⟩)))
theorem rs_lt : Rs2 vLt := by (refine rs2_of fun v w u Z1 e => ?_; cases v <;> first | (cases e; done) | (cases w <;> first | (cases e; done) | (exact ⟨rfl, rfl, fun S => by cases e; rfl⟩)))
theorem rs_le : Rs2 vLe := by (refine rs2_of fun v w u Z1 e => ?_; cases v <;> first | (cases e; done) | (cases w <;> first | (cases e; done) | (exact ⟨rfl, rfl, fun S => by cases e; rfl⟩)))
theorem rs_gt : Rs2 vGt := by (refine rs2_of fun v w u Z1 e => ?_; cases v <;> first | (cases e; done) | (cases w <;> first | (cases e; done) | (exact ⟨rfl, rfl, fun S => by cases e; rfl⟩)))
theorem rs_ge : Rs2 vGe := by (refine rs2_of fun v w u Z1 e => ?_; cases v <;> first | (cases e; done) | (cases w <;> first | (cases e; done) | (exact ⟨rfl, rfl, fun S => by cases e; rfl⟩)))
theorem rs_addI : Rs2 vAddI := by (refine rs2_of fun v w u Z1 e => ?_; cases v <;> first | (cases e; done) | (cases w <;> first | (cases e; done) | (exact ⟨rfl, rfl, fun S => by cases e; rfl⟩)))
theorem rs_and : Rs2 vAnd := by (refine rs2_of fun v w u Z1 e => ?_; cases v <;> first | (cases e; done) | (cases w <;> first | (cases e; done) | (exact ⟨rfl, rfl, fun S => by cases e; rfl⟩)))
theorem rs_mul : Rs2 vMul := by (refine rs2_of fun v w u Z1 e => ?_; cases v <;> first | (cases e; done) | (cases w <;> first | (cases e; done) | (refine ⟨rfl, rfl, fun S => ?_⟩; unfold vMul at e ⊢; dsimp only at e ⊢; split at e <;> first | (cases e; done) | (rename_i h; cases e; rw [if_pos h]))))
theorem rs_fdiv : Rs2 vFdiv := by (refine rs2_of fun v w u Z1 e => ?_; cases v <;> first | (cases e; done) | (cases w <;> first | (cases e; done) | (refine ⟨rfl, rfl, fun S => ?_⟩; unfold vFdiv at e ⊢; dsimp only at e ⊢; split at e <;> first | (cases e; done) | (rename_i h; cases e; rw [if_pos h]))))
theorem rs_mod : Rs2 vMod := by (refine rs2_of fun v w u Z1 e => ?_; cases v <;> first | (cases e; done) | (cases w <;> first | (cases e; done) | (refine ⟨rfl, rfl, fun S => ?_⟩; unfold vMod at e ⊢; dsimp only at e ⊢; split at e <;> first | (cases e; done) | (rename_i h; cases e; rw [if_pos h]))))
theorem rs_pow : Rs2 vPow := by (refine rs2_of fun v w u Z1 e => ?_; cases v <;> first | (cases e; done) | (cases w <;> first | (cases e; done) | (refine ⟨rfl, rfl, fun S => ?_⟩; unfold vPow at e ⊢; dsimp only at e ⊢; split at e <;> first | (cases e; done) | (rename_i h; cases e; rw [if_pos h]))))
theorem rs_shr : Rs2 vShr := by (refine rs2_of fun v w u Z1 e => ?_; cases v <;> first | (cases e; done) | (cases w <;> first | (cases e; done) | (refine ⟨rfl, rfl, fun S => ?_⟩; unfold vShr at e ⊢; dsimp only at e ⊢; split at e <;> first | (cases e; done) | (rename_i h; cases e; rw [if_pos h]))))
theorem rs_shl : Rs2 vShl := by (refine rs2_of fun v w u Z1 e => ?_; cases v <;> first | (cases e; done) | (cases w <;> first | (cases e; done) | (refine ⟨rfl, rfl, fun S => ?_⟩; unfold vShl at e ⊢; dsimp only at e ⊢; split at e <;> first | (cases e; done) | (rename_i h; cases e; rw [if_pos h]))))
theorem rs_repT : Rs2 vRepT := by (refine rs2_of fun v w u Z1 e => ?_; cases v <;> first | (cases e; done) | (cases w <;> first | (cases e; done) | (refine ⟨rfl, rfl, fun S => ?_⟩; unfold vRepT at e ⊢; dsimp only at e ⊢; split at e <;> first | (cases e; done) | (rename_i h; cases e; rw [if_pos h]))))
theorem rs_isN : Rs2 vIsN := fun c S v v' w w' u Z1 h1 h2 e => by
  cases w' <;> first | (cases v' <;> cases e; done) | skip
  obtain rfl := vq_s h2 rfl
  rcases h1 with rfl | ⟨k, rfl, _, o, h1, h3⟩
  · cases v <;> cases e <;> rfl
  · cases v' <;> first | (cases e; rfl) | (have := isO_of h3; cases this)
theorem rs_notN : Rs2 vNotN := fun c S v v' w w' u Z1 h1 h2 e => by
  cases w' <;> first | (cases v' <;> cases e; done) | skip
  obtain rfl := vq_s h2 rfl
  rcases h1 with rfl | ⟨k, rfl, _, o, h1, h3⟩
  · cases v <;> cases e <;> rfl
  · cases v' <;> first | (cases e; rfl) | (have := isO_of h3; cases this)
theorem rs_eq : Rs2 vEq := fun c S v v' w w' u Z1 h1 h2 e => by
  unfold vEq at e ⊢
  cases a : datS Z0 v' with
  | none => rw [a] at e; cases e
  | some d =>
    cases b : datS Z0 w' with
    | none => rw [a, b] at e; cases e
    | some d2 =>
      rw [a, b] at e
      rw [vq_dat h1 a, vq_dat h2 b]
      dsimp only at e ⊢
      split at e
      · rename_i h; cases e; rw [if_pos h]
      · cases e
theorem rs_ne : Rs2 vNe := fun c S v v' w w' u Z1 h1 h2 e => by
  unfold vNe at e ⊢
  cases a : datS Z0 v' with
  | none => rw [a] at e; cases e
  | some d =>
    cases b : datS Z0 w' with
    | none => rw [a, b] at e; cases e
    | some d2 =>
      rw [a, b] at e
      rw [vq_dat h1 a, vq_dat h2 b]
      dsimp only at e ⊢
      split at e
      · rename_i h; cases e; rw [if_pos h]
      · cases e
theorem vIx_l {v : Val} {xs : List Val} {i : Int} {S : Sto} (h : lstOf S v = some xs) : vIx v (.int i) S = vr (atI xs i) S := by
  unfold vIx
  cases v <;> first | (cases h; done) | (simp only [h]; cases atI xs i <;> rfl)
theorem rs_ix : Rs2 vIx := fun c S v v' w w' u Z1 h1 h2 e => by
  cases w' with
  | int i =>
    obtain rfl := vq_s h2 rfl
    by_cases hT : ∃ xs, v' = .tup xs
    · obtain ⟨xs, rfl⟩ := hT
      obtain rfl := vq_s h1 rfl
      unfold vIx at e ⊢
      dsimp only at e ⊢
      cases q : atI xs i with
      | none => rw [q] at e; cases e
      | some y => rw [q] at e; cases e; rfl
    · cases q : lstOf Z0 v' with
      | none => 
        by_cases hK : ∃ xs, v' = .kt xs
        · obtain ⟨xs, rfl⟩ := hK
          obtain rfl := vq_s h1 rfl
          unfold vIx at e ⊢
          dsimp only at e ⊢
          cases q : atI xs i with
          | none => rw [q] at e; cases e
          | some y => rw [q] at e; cases e; rfl
        unfold vIx at e
        cases v' <;> first | (exact absurd ⟨_, rfl⟩ hK) | (exact absurd ⟨_, rfl⟩ hT) | (simp only [q] at e; cases e; done)
      | some xs =>
        rw [vIx_l q] at e
        rw [vIx_l (lst_q h1 q)]
        cases p : atI xs i with
        | none => rw [p] at e; cases e
        | some y => rw [p] at e; cases e; rfl
  | _ => unfold vIx at e; cases v' <;> cases e
theorem rs_in (ng : Bool) : Rs2 (vInW ng) := fun c S v v' w w' u Z1 h1 h2 e => by
  by_cases hT : ∃ ys, w' = .tup ys
  · obtain ⟨ys, rfl⟩ := hT
    obtain rfl := vq_s h2 rfl
    unfold vInW at e ⊢
    dsimp only at e ⊢
    cases a : datS Z0 v' with
    | none => rw [a] at e; cases e
    | some d =>
      rw [a] at e
      rw [vq_dat h1 a]
      cases b : Val.dats ys with
      | none => rw [b] at e; cases e
      | some ds =>
        rw [b] at e
        dsimp only at e ⊢
        split at e
        · rename_i h; cases e; rw [if_pos h]
        · cases e
  · have hw : ∀ ys, w ≠ .tup ys := by
      rintro ys rfl
      rcases h2 with h | ⟨k, h, _⟩
      · exact hT ⟨ys, h.symm⟩
      · cases h
    have eq : ∀ (S : Sto) (v w : Val), (∀ ys, w ≠ .tup ys) → vInW ng v w S = (match datS S v, datS S w with
      | some d, some (.list ds) => if SeqAt.shaped d = true ∧ SeqAt.shaped (.list ds) = true then .ok (.bl (if ng then !(ds.any fun z => PyData.eqv z d) else ds.any fun z => PyData.eqv z d)) S else .st
      | _, _ => .st) := by
      intro S v w h
      unfold vInW
      cases w <;> first | rfl | exact absurd rfl (h _)
    rw [eq _ _ _ fun ys h => hT ⟨ys, h⟩] at e
    rw [eq _ _ _ hw]
    cases a : datS Z0 v' with
    | none => rw [a] at e; cases e
    | some d =>
      cases b : datS Z0 w' with
      | none => rw [a, b] at e; cases e
      | some d2 =>
        rw [a, b] at e
        rw [vq_dat h1 a, vq_dat h2 b]
        cases d2 <;> first | (cases e; done) | skip
        dsimp only at e ⊢
        split at e
        · rename_i h; cases e; rw [if_pos h]
        · cases e
theorem rs_add : Rs2 (vAdd false) := fun c S v v' w w' u Z1 h1 h2 e => by
  by_cases hn : isO v' = false ∧ isO w' = false
  · obtain rfl := vq_s h1 hn.1
    obtain rfl := vq_s h2 hn.2
    unfold vAdd at e ⊢
    cases v <;> cases w <;> first
      | (cases e; rfl; done)
      | (simp only [mlstOf, Z0, S0] at e; cases e; done)
      | (dsimp only at e ⊢; split at e <;> first | (rename_i h; cases e; rw [if_pos h]; done) | (cases e; done))
      | cases hn.1 | cases hn.2
  · have hv : ∃ xs ys, mlstOf Z0 v' = some xs ∧ mlstOf Z0 w' = some ys ∧ xs.length + ys.length ≤ sizeLine ∧ u = .lst (xs ++ ys) := by
      unfold vAdd at e
      cases v' <;> cases w' <;> first
        | (exact absurd ⟨rfl, rfl⟩ hn)
        | (simp only [mlstOf, Z0, S0] at e; cases e; done)
        | (simp only [mlstOf] at e; split at e
           · (rename_i h; cases e; exact ⟨_, _, rfl, rfl, h, rfl⟩)
           · cases e)
    obtain ⟨xs, ys, q1, q2, l, rfl⟩ := hv
    have p1 := mlst_q h1 q1
    have p2 := mlst_q h2 q2
    unfold vAdd
    cases v <;> first | (cases p1; done) | (cases w <;> first | (cases p2; done) | (simp only [p1, p2]; rw [if_pos l]; rfl))
theorem mlst_isO {v : Val} {xs : List Val} (h : mlstOf Z0 v = some xs) : v = .lst xs := by
  cases v <;> first | (cases h; rfl; done) | (cases h; done) | (simp [mlstOf, Z0, S0] at h)
theorem rn_add : RsN2 (vAdd true) (fun v w S => match v, w with
    | .lst xs, .lst ys => if xs.length + ys.length ≤ sizeLine then .ok (.lst (xs ++ ys)) S else .st
    | _, _ => .st) := fun c S v v' w w' u Z1 h1 h2 e => by
  cases v' <;> first | (cases e; done) | (cases w' <;> first | (cases e; done) | skip)
  dsimp only at e
  split at e
  · rename_i l
    cases e
    have p1 := mlst_q h1 rfl
    have p2 := mlst_q h2 rfl
    refine ⟨.lst _, rfl, ?_⟩
    unfold vAdd
    cases v <;> first | (cases p1; done) | (cases w <;> first | (cases p2; done) | (simp only [p1, p2]; rw [if_pos l]; rfl))
  · cases e
/-! one value -/
theorem rs_neg : Rs1 vNeg := fun c S v v' u Z1 h e => by
  cases v' <;> first | (cases e; done) | (obtain rfl := vq_s h rfl; cases e; rfl)
theorem rs_rev : Rs1 (vRevL false) := fun c S v v' u Z1 h e => by
  unfold vRevL at e ⊢
  cases q : lstOf Z0 v' with
  | none => rw [q] at e; cases e
  | some xs => rw [q] at e; rw [lst_q h q]; cases e; rfl
theorem rn_rev : RsN1 (vRevL true) (vRevL false) := fun c S v v' u Z1 h e => by
  unfold vRevL at e ⊢
  cases q : lstOf Z0 v' with
  | none => rw [q] at e; cases e
  | some xs => rw [q] at e; rw [lst_q h q]; cases e; exact ⟨_, rfl, rfl⟩
/-! built-ins -/
theorem vqs1 {c : Cs} {S : Sto} {vs : List Val} {v' : Val} (h : VQs c S vs [v']) : ∃ v, vs = [v] ∧ VQ c S v v' := by
  cases h with
  | cons a b => cases b; exact ⟨_, rfl, a⟩
theorem vqs2 {c : Cs} {S : Sto} {vs : List Val} {v' w' : Val} (h : VQs c S vs [v', w']) : ∃ v w, vs = [v, w] ∧ VQ c S v v' ∧ VQ c S w w' := by
  cases h with
  | cons a b => obtain ⟨w, rfl, q⟩ := vqs1 b; exact ⟨_, _, rfl, a, q⟩
/-- an argument -/
theorem rsl1 {op : List Val → Sto → Res Val} (h0 : ∀ u Z, op [] Z0 ≠ .ok u Z) (h2 : ∀ v w vs u Z, op (v :: w :: vs) Z0 ≠ .ok u Z) (h : ∀ c S v v' u Z1, VQ c S v v' → op [v'] Z0 = .ok u Z1 → op [v] S = .ok u S) : RsL op := fun c S vs vs' u Z1 hq e => by
  match vs', hq, e with
  | [], _, e => exact absurd e (h0 _ _)
  | [v'], hq, e => obtain ⟨v, rfl, q⟩ := vqs1 hq; exact h c S v v' u Z1 q e
  | _ :: _ :: _, _, e => exact absurd e (h2 _ _ _ _ _)
theorem rsn1 {op op' : List Val → Sto → Res Val} (h0 : ∀ u Z, op' [] Z0 ≠ .ok u Z) (h2 : ∀ v w vs u Z, op' (v :: w :: vs) Z0 ≠ .ok u Z) (h : ∀ c S v v' u Z1, VQ c S v v' → op' [v'] Z0 = .ok u Z1 → ∃ o, obV o = some u ∧ op [v] S = .ok (.loc S.next) (S.alloc o)) : RsNL op op' := fun c S vs vs' u Z1 hq e => by
  match vs', hq, e with
  | [], _, e => exact absurd e (h0 _ _)
  | [v'], hq, e => obtain ⟨v, rfl, q⟩ := vqs1 hq; exact h c S v v' u Z1 q e
  | _ :: _ :: _, _, e => exact absurd e (h2 _ _ _ _ _)
theorem vLen_l {v : Val} {xs : List Val} {S : Sto} (h : lstOf S v = some xs) : vLen [v] S = .ok (.int (xs.length : Nat)) S := vLen_of h
theorem rl_len : RsL vLen := rsl1 (by (intro u Z e; cases e; done)) (by (intro v w vs u Z e; first | (cases e; done) | (cases v <;> cases e; done))) fun c S v v' u Z1 h e => by
  by_cases hn : lstOf Z0 v' = none
  · cases v' <;> first
      | (cases hn; done)
      | (unfold vLen at e; simp only [hn] at e; cases e; done)
      | (obtain rfl := vq_s h rfl; cases e; rfl; done)
      | (obtain rfl := vq_s h rfl
         unfold vLen at e ⊢
         dsimp only at e ⊢
         split at e
         · (rename_i q; cases e; rw [if_pos q])
         · cases e)
  · cases q : lstOf Z0 v' with
    | none => exact absurd q hn
    | some xs => rw [vLen_l q] at e; cases e; exact vLen_l (lst_q h q)
theorem rl_abs : RsL vAbs := rsl1 (by (intro u Z e; cases e; done)) (by (intro v w vs u Z e; first | (cases e; done) | (cases v <;> cases e; done))) fun c S v v' u Z1 h e => by
  cases v' <;> first | (cases e; done) | (obtain rfl := vq_s h rfl; cases e; rfl)
theorem rl_int : RsL vInt := rsl1 (by (intro u Z e; cases e; done)) (by (intro v w vs u Z e; first | (cases e; done) | (cases v <;> cases e; done))) fun c S v v' u Z1 h e => by
  cases v' <;> first | (cases e; done) | (obtain rfl := vq_s h rfl; cases e; rfl)
theorem rsl2 {op : List Val → Sto → Res Val} (h0 : ∀ u Z, op [] Z0 ≠ .ok u Z) (h1 : ∀ v u Z, op [v] Z0 ≠ .ok u Z) (h3 : ∀ v w z vs u Z, op (v :: w :: z :: vs) Z0 ≠ .ok u Z) (h : ∀ c S v v' w w' u Z1, VQ c S v v' → VQ c S w w' → op [v', w'] Z0 = .ok u Z1 → op [v, w] S = .ok u S) : RsL op := fun c S vs vs' u Z1 hq e => by
  match vs', hq, e with
  | [], _, e => exact absurd e (h0 _ _)
  | [_], _, e => exact absurd e (h1 _ _ _)
  | [v', w'], hq, e => obtain ⟨v, w, rfl, q, q2⟩ := vqs2 hq; exact h c S v v' w w' u Z1 q q2 e
  | _ :: _ :: _ :: _, _, e => exact absurd e (h3 _ _ _ _ _ _)
theorem rl_min2 : RsL vMin2 := rsl2 (by (intro u Z e; cases e; done)) (by (intro v u Z e; first | (cases e; done) | (cases v <;> cases e; done))) (by (intro v w z vs u Z e; first | (cases e; done) | (cases v <;> first | (cases e; done) | (cases w <;> cases e; done)))) fun c S v v' w w' u Z1 h h2 e => by
  cases v' <;> first | (cases e; done) | (cases w' <;> first | (cases e; done) | (obtain rfl := vq_s h rfl; obtain rfl := vq_s h2 rfl; cases e; rfl))
theorem rl_max2 : RsL vMax2 := rsl2 (by (intro u Z e; cases e; done)) (by (intro v u Z e; first | (cases e; done) | (cases v <;> cases e; done))) (by (intro v w z vs u Z e; first | (cases e; done) | (cases v <;> first | (cases e; done) | (cases w <;> cases e; done)))) fun c S v v' w w' u Z1 h h2 e => by
  cases v' <;> first | (cases e; done) | (cases w' <;> first | (cases e; done) | (obtain rfl := vq_s h rfl; obtain rfl := vq_s h2 rfl; cases e; rfl))
theorem rl_isi : RsL vIsi := rsl2 (by (intro u Z e; cases e; done)) (by (intro v u Z e; first | (cases e; done) | (cases v <;> cases e; done))) (by (intro v w z vs u Z e; first | (cases e; done) | (cases v <;> first | (cases e; done) | (cases w <;> cases e; done)))) fun c S v v' w w' u Z1 h h2 e => by
  cases w' <;> first | (cases e; done) | skip
  obtain rfl := vq_s h2 rfl
  unfold vIsi at e ⊢
  dsimp only at e ⊢
  cases q : tagOf Z0 v' with
  | none => rw [q] at e; cases e
  | some t => rw [q] at e; rw [vq_tag h q]; cases e; rfl
theorem rl_list : RsL (vList false) := rsl1 (by (intro u Z e; cases e; done)) (by (intro v w vs u Z e; first | (cases e; done) | (cases v <;> cases e; done))) fun c S v v' u Z1 h e => by
  by_cases hT : ∃ xs, v' = .tup xs
  · obtain ⟨xs, rfl⟩ := hT
    obtain rfl := vq_s h rfl; cases e; rfl
  · cases q : lstOf Z0 v' with
    | none => unfold vList at e; cases v' <;> first | (exact absurd ⟨_, rfl⟩ hT) | (simp only [q] at e; cases e; done)
    | some xs => rw [vList_of q] at e; rw [vList_of (lst_q h q)]; cases e; rfl
theorem rln_list : RsNL (vList true) (vList false) := rsn1 (by (intro u Z e; cases e; done)) (by (intro v w vs u Z e; first | (cases e; done) | (cases v <;> cases e; done))) fun c S v v' u Z1 h e => by
  by_cases hT : ∃ xs, v' = .tup xs
  · obtain ⟨xs, rfl⟩ := hT
    obtain rfl := vq_s h rfl; cases e; exact ⟨_, rfl, rfl⟩
  · cases q : lstOf Z0 v' with
    | none => unfold vList at e; cases v' <;> first | (exact absurd ⟨_, rfl⟩ hT) | (simp only [q] at e; cases e; done)
    | some xs => rw [vList_of q] at e; rw [vList_of (lst_q h q)]; cases e; exact ⟨_, rfl, rfl⟩
theorem rl_tuple : RsL vTuple := rsl1 (by (intro u Z e; cases e; done)) (by (intro v w vs u Z e; first | (cases e; done) | (cases v <;> cases e; done))) fun c S v v' u Z1 h e => by
  by_cases hT : ∃ xs, v' = .tup xs
  · obtain ⟨xs, rfl⟩ := hT
    obtain rfl := vq_s h rfl; cases e; rfl
  · cases q : lstOf Z0 v' with
    | none => unfold vTuple at e; cases v' <;> first | (exact absurd ⟨_, rfl⟩ hT) | (simp only [q] at e; cases e; done)
    | some xs => rw [vTuple_of q] at e; rw [vTuple_of (lst_q h q)]; cases e; rfl
theorem rl_all : RsL vAll := rsl1 (by (intro u Z e; cases e; done)) (by (intro v w vs u Z e; first | (cases e; done) | (cases v <;> cases e; done))) fun c S v v' u Z1 h e => by
  unfold vAll at e ⊢
  dsimp only at e ⊢
  cases q : lstOf Z0 v' with
  | none => rw [q] at e; cases e
  | some xs =>
    rw [q] at e; rw [lst_q h q]
    cases p : blsOf xs with
    | none => simp only [Option.bind, p] at e; cases e
    | some bs => simp only [Option.bind, p] at e ⊢; cases e; rfl
theorem rl_any : RsL vAny := rsl1 (by (intro u Z e; cases e; done)) (by (intro v w vs u Z e; first | (cases e; done) | (cases v <;> cases e; done))) fun c S v v' u Z1 h e => by
  unfold vAny at e ⊢
  dsimp only at e ⊢
  cases q : lstOf Z0 v' with
  | none => rw [q] at e; cases e
  | some xs =>
    rw [q] at e; rw [lst_q h q]
    cases p : blsOf xs with
    | none => simp only [Option.bind, p] at e; cases e
    | some bs => simp only [Option.bind, p] at e ⊢; cases e; rfl
theorem rl_sortI : RsL (vSortI false) := rsl1 (by (intro u Z e; cases e; done)) (by (intro v w vs u Z e; first | (cases e; done) | (cases v <;> cases e; done))) fun c S v v' u Z1 h e => by
  unfold vSortI at e ⊢
  dsimp only at e ⊢
  cases q : lstOf Z0 v' with
  | none => rw [q] at e; cases e
  | some xs =>
    rw [q] at e; rw [lst_q h q]
    cases p : intsOf xs with
    | none => simp only [Option.bind, p] at e; cases e
    | some bs => simp only [Option.bind, p] at e ⊢; cases e; rfl
theorem rl_best (f : Int → Int → Int) : RsL (vBest f) := rsl1 (by (intro u Z e; cases e; done)) (by (intro v w vs u Z e; first | (cases e; done) | (cases v <;> cases e; done))) fun c S v v' u Z1 h e => by
  by_cases hT : ∃ xs, v' = .tup xs
  · obtain ⟨xs, rfl⟩ := hT
    obtain rfl := vq_s h rfl
    unfold vBest at e ⊢
    dsimp only at e ⊢
    cases p : intsOf xs with
    | none => rw [p] at e; cases e
    | some bs => rw [p] at e; cases bs <;> cases e; rfl
  · cases q : lstOf Z0 v' with
    | none => unfold vBest at e; cases v' <;> first | (exact absurd ⟨_, rfl⟩ hT) | (simp only [q, Option.bind] at e; cases e; done)
    | some xs =>
      have l := lst_q h q
      unfold vBest at e ⊢
      cases v' <;> first | (exact absurd ⟨_, rfl⟩ hT) | (cases q; done) | skip
      all_goals
        cases v <;> first | (cases l; done) | skip
        all_goals
          simp only [q, l] at e ⊢
          cases p : intsOf xs with
          | none => simp only [Option.bind, p] at e; cases e
          | some bs => simp only [Option.bind, p] at e ⊢; cases bs <;> cases e; rfl
theorem vSortB_l {v : Val} {S : Sto} (h : ∀ xs, v ≠ .tup xs) : vSortB false [v] S = (match (lstOf S v).bind intsOf with
    | some ns => mkL false ((sortI ns).map Val.int) S
    | none => .st) := by
  unfold vSortB
  cases v <;> first | rfl | exact absurd rfl (h _)
theorem vq_nt {c : Cs} {S : Sto} {v v' : Val} (h : VQ c S v v') (n : ∀ xs, v' ≠ .tup xs) : ∀ xs, v ≠ .tup xs := by
  rintro xs rfl
  rcases h with h | ⟨k, h, _⟩
  · exact n xs h.symm
  · cases h
theorem rl_sortB : RsL (vSortB false) := rsl1 (by (intro u Z e; cases e; done)) (by (intro v w vs u Z e; first | (cases e; done) | (cases v <;> cases e; done))) fun c S v v' u Z1 h e => by
  by_cases hT : ∃ xs, v' = .tup xs
  · obtain ⟨xs, rfl⟩ := hT
    obtain rfl := vq_s h rfl
    unfold vSortB at e ⊢
    dsimp only at e ⊢
    cases p : intsOf xs with
    | none => rw [p] at e; cases e
    | some bs => rw [p] at e; cases e; rfl
  · have hn : ∀ xs, v' ≠ .tup xs := fun xs h => hT ⟨xs, h⟩
    rw [vSortB_l hn] at e
    rw [vSortB_l (vq_nt h hn)]
    cases q : lstOf Z0 v' with
    | none => rw [q] at e; cases e
    | some xs =>
      rw [q] at e; rw [lst_q h q]
      cases p : intsOf xs with
      | none => simp only [Option.bind, p] at e; cases e
      | some bs => simp only [Option.bind, p] at e ⊢; cases e; rfl
theorem rl_anyI : RsL vAnyI := rsl1 (by (intro u Z e; cases e; done)) (by (intro v w vs u Z e; first | (cases e; done) | (cases v <;> cases e; done))) fun c S v v' u Z1 h e => by
  cases v' <;> first | (cases e; done) | skip
  obtain rfl := vq_s h rfl
  rename_i xs
  unfold vAnyI at e ⊢
  dsimp only at e ⊢
  cases p : intsOf xs with
  | none => rw [p] at e; cases e
  | some bs => rw [p] at e; cases e; rfl
theorem rl_lenD : RsL vLenD := rsl1 (by (intro u Z e; cases e; done)) (by (intro v w vs u Z e; first | (cases e; done) | (cases v <;> cases e; done))) fun c S v v' u Z1 h e => by
  rcases h with rfl | ⟨k, rfl, _, o, h1, h2⟩
  · cases v <;> first | (cases e; rfl; done) | (cases e; done) | (simp [vLenD, Z0, S0] at e)
  · cases o with
    | dk lk ks vs => cases lk <;> cases h2; cases e; unfold vLenD; simp only [h1]
    | dt lk ks vs => cases lk <;> cases h2; cases e
    | lst xs => cases h2; cases e
    | ins c vs => cases h2; cases e
/-! ### what never raises -/
theorem nx_sub : ∀ v w S, NX (vSub v w S) := by (intro v w S; unfold vSub; cases v <;> cases w <;> first | trivial | (dsimp only; split <;> trivial))
theorem nx_lt : ∀ v w S, NX (vLt v w S) := by (intro v w S; unfold vLt; cases v <;> cases w <;> first | trivial | (dsimp only; split <;> trivial))
theorem nx_le : ∀ v w S, NX (vLe v w S) := by (intro v w S; unfold vLe; cases v <;> cases w <;> first | trivial | (dsimp only; split <;> trivial))
theorem nx_gt : ∀ v w S, NX (vGt v w S) := by (intro v w S; unfold vGt; cases v <;> cases w <;> first | trivial | (dsimp only; split <;> trivial))
theorem nx_ge : ∀ v w S, NX (vGe v w S) := by (intro v w S; unfold vGe; cases v <;> cases w <;> first | trivial | (dsimp only; split <;> trivial))
theorem nx_addI : ∀ v w S, NX (vAddI v w S) := by (intro v w S; unfold vAddI; cases v <;> cases w <;> first | trivial | (dsimp only; split <;> trivial))
theorem nx_and : ∀ v w S, NX (vAnd v w S) := by (intro v w S; unfold vAnd; cases v <;> cases w <;> first | trivial | (dsimp only; split <;> trivial))
theorem nx_mul : ∀ v w S, NX (vMul v w S) := by (intro v w S; unfold vMul; cases v <;> cases w <;> first | trivial | (dsimp only; split <;> trivial))
theorem nx_fdiv : ∀ v w S, NX (vFdiv v w S) := by (intro v w S; unfold vFdiv; cases v <;> cases w <;> first | trivial | (dsimp only; split <;> trivial))
theorem nx_mod : ∀ v w S, NX (vMod v w S) := by (intro v w S; unfold vMod; cases v <;> cases w <;> first | trivial | (dsimp only; split <;> trivial))
theorem nx_pow : ∀ v w S, NX (vPow v w S) := by (intro v w S; unfold vPow; cases v <;> cases w <;> first | trivial | (dsimp only; split <;> trivial))
theorem nx_shr : ∀ v w S, NX (vShr v w S) := by (intro v w S; unfold vShr; cases v <;> cases w <;> first | trivial | (dsimp only; split <;> trivial))
theorem nx_shl : ∀ v w S, NX (vShl v w S) := by (intro v w S; unfold vShl; cases v <;> cases w <;> first | trivial | (dsimp only; split <;> trivial))
theorem nx_repT : ∀ v w S, NX (vRepT v w S) := by (intro v w S; unfold vRepT; cases v <;> cases w <;> first | trivial | (dsimp only; split <;> trivial))
theorem nx_isN : ∀ v w S, NX (vIsN v w S) := by (intro v w S; unfold vIsN; cases v <;> cases w <;> first | trivial | (dsimp only; split <;> trivial))
theorem nx_notN : ∀ v w S, NX (vNotN v w S) := by (intro v w S; unfold vNotN; cases v <;> cases w <;> first | trivial | (dsimp only; split <;> trivial))
theorem nx_eq : ∀ v w S, NX (vEq v w S) := by
  intro v w S; unfold vEq; split
  · split <;> trivial
  · trivial
theorem nx_ne : ∀ v w S, NX (vNe v w S) := by
  intro v w S; unfold vNe; split
  · split <;> trivial
  · trivial
theorem nx_ix : ∀ v w S, NX (vIx v w S) := by
  intro v w S; unfold vIx; split
  · split <;> trivial
  · split <;> trivial
  · split
    · split <;> trivial
    · trivial
  · trivial
theorem nx_in (ng : Bool) : ∀ v w S, NX (vInW ng v w S) := by
  intro v w S; unfold vInW; split
  · split
    · split <;> trivial
    · trivial
  · split
    · split <;> trivial
    · trivial
theorem nx_add : ∀ v w S, NX (vAdd false v w S) := by
  intro v w S; unfold vAdd; split
  · trivial
  · split <;> trivial
  · split <;> trivial
  · split
    · split <;> trivial
    · trivial
theorem nx_addN : ∀ (v w : Val) (S : Sto), NX ((fun v w S => match v, w with
    | .lst xs, .lst ys => if xs.length + ys.length ≤ sizeLine then .ok (.lst (xs ++ ys)) S else .st
    | _, _ => .st : Val → Val → Sto → Res Val) v w S) := by
  intro v w S; dsimp only; split
  · split <;> trivial
  · trivial
theorem nx_neg : ∀ v S, NX (vNeg v S) := by intro v S; unfold vNeg; split <;> trivial
theorem nx_rev : ∀ v S, NX (vRevL false v S) := by intro v S; unfold vRevL; split <;> trivial
theorem nx_len : ∀ v S, NX (vLen v S) := by (intro v S; unfold vLen; repeat' (first | trivial | split))
theorem nx_abs : ∀ v S, NX (vAbs v S) := by (intro v S; unfold vAbs; repeat' (first | trivial | split))
theorem nx_int : ∀ v S, NX (vInt v S) := by (intro v S; unfold vInt; repeat' (first | trivial | split))
theorem nx_min2 : ∀ v S, NX (vMin2 v S) := by (intro v S; unfold vMin2; repeat' (first | trivial | split))
theorem nx_max2 : ∀ v S, NX (vMax2 v S) := by (intro v S; unfold vMax2; repeat' (first | trivial | split))
theorem nx_isi : ∀ v S, NX (vIsi v S) := by (intro v S; unfold vIsi; repeat' (first | trivial | split))
theorem nx_list : ∀ v S, NX (vList false v S) := by
  intro v S; unfold vList; split
  · trivial
  · split <;> trivial
  · trivial
theorem nx_tuple : ∀ v S, NX (vTuple v S) := by (intro v S; unfold vTuple; repeat' (first | trivial | split))
theorem nx_all : ∀ v S, NX (vAll v S) := by (intro v S; unfold vAll; repeat' (first | trivial | split))
theorem nx_any : ∀ v S, NX (vAny v S) := by (intro v S; unfold vAny; repeat' (first | trivial | split))
theorem nx_sortI : ∀ v S, NX (vSortI false v S) := by
  intro v S; unfold vSortI; split
  · split <;> trivial
  · trivial
theorem nx_sortB : ∀ v S, NX (vSortB false v S) := by
  intro v S; unfold vSortB; split
  · split <;> trivial
  · exact nx_sortI v S
theorem nx_best (f : Int → Int → Int) : ∀ v S, NX (vBest f v S) := by (intro v S; unfold vBest; repeat' (first | trivial | split))
theorem nx_anyI : ∀ v S, NX (vAnyI v S) := by (intro v S; unfold vAnyI; repeat' (first | trivial | split))
theorem nx_lenD : ∀ v S, NX (vLenD v S) := by (intro v S; unfold vLenD; repeat' (first | trivial | split))
end PM

/-! PP, part c: statements -/
namespace PM
open PySem PySem.Spec L2
def ownk (κ : List Kd) (ρ ρ' : Ev) (k : Nat) : Prop := ∃ (i : Nat) (kd : Kd), κ[i]? = some kd ∧ kd.own = true ∧ us (lk ρ i) (lk ρ' i) k
structure SF (κ : List Kd) (c : Cs) (ρ ρ' : Ev) (S S1 : Sto) : Prop where
  le : S.next ≤ S1.next
  eq : ∀ k, k < S.next → Free c k → ¬ ownk κ ρ ρ' k → S1.objs k = S.objs k
structure EF (κ : List Kd) (S : Sto) (ρ ρ' ρ1 ρ1' : Ev) : Prop where
  own : ∀ k, ownk κ ρ1 ρ1' k → ownk κ ρ ρ' k ∨ S.next ≤ k
  pa : ∀ i, κ[i]? = some .p → lk ρ1 i = lk ρ i
def CX (c : Cs) (S : Sto) (c1 : Cs) : Prop := ∃ d, c1 = d ++ c ∧ ∀ p ∈ d, S.next ≤ p.2
theorem CX.refl {c : Cs} {S : Sto} : CX c S c := ⟨[], rfl, fun _ h => (nomatch h)⟩
theorem CX.trans {c c1 c2 : Cs} {S S1 : Sto} (a : CX c S c1) (l : S.next ≤ S1.next) (b : CX c1 S1 c2) : CX c S c2 := by
  obtain ⟨d, rfl, h⟩ := a
  obtain ⟨e, rfl, h2⟩ := b
  refine ⟨e ++ d, (List.append_assoc _ _ _).symm, fun p hp => ?_⟩
  rcases List.mem_append.mp hp with q | q
  · exact Nat.le_trans l (h2 p q)
  · exact h p q
theorem CX.free {c c1 : Cs} {S : Sto} (a : CX c S c1) {k : Nat} (hk : k < S.next) (f : Free c k) : Free c1 k := by
  obtain ⟨d, rfl, h⟩ := a
  intro p hp e
  rcases List.mem_append.mp hp with q | q
  · have := h p q; omega
  · exact f p q e
theorem CX.down {c c1 : Cs} {S : Sto} (a : CX c S c1) {k : Nat} (f : Free c1 k) : Free c k := by
  obtain ⟨d, rfl, _⟩ := a
  exact fun p hp => f p (List.mem_append.mpr (.inr hp))
theorem CX.mem {c c1 : Cs} {S : Sto} (a : CX c S c1) {p : Nat × Nat} (h : p ∈ c) : p ∈ c1 := by
  obtain ⟨d, rfl, _⟩ := a
  exact List.mem_append.mpr (.inr h)
theorem St.down {c c1 : Cs} {S Z S1 : Sto} (a : CX c S c1) (s : St c1 Z S1) : St c Z S1 :=
  ⟨fun p hp => s.cr p (a.mem hp), fun p hp q hq => s.inj p (a.mem hp) q (a.mem hq), s.wf, s.wz⟩
structure NxR (κ : List Kd) (c : Cs) (S : Sto) (ρ ρ' : Ev) (ρ1 : Ev) (S1 : Sto) (ρ1' : Ev) (Z1 : Sto) (c1 : Cs) : Prop where
  sf : SF κ c ρ ρ' S S1
  ef : EF κ S ρ ρ' ρ1 ρ1'
  cx : CX c S c1
  st : St c1 Z1 S1
  ev : EvR κ c1 S1 ρ1 ρ1'
theorem SF.trans {κ : List Kd} {c c1 : Cs} {ρ ρ' ρ1 ρ1' : Ev} {S S1 S2 : Sto} (a : SF κ c ρ ρ' S S1) (e : EF κ S ρ ρ' ρ1 ρ1') (x : CX c S c1) (b : SF κ c1 ρ1 ρ1' S1 S2) : SF κ c ρ ρ' S S2 :=
  ⟨Nat.le_trans a.le b.le, fun k h f o => (b.eq k (Nat.lt_of_lt_of_le h a.le) (x.free h f) fun q => by
    rcases e.own k q with q | q
    · exact o q
    · omega).trans (a.eq k h f o)⟩
theorem EF.refl {κ : List Kd} {S : Sto} {ρ ρ' : Ev} : EF κ S ρ ρ' ρ ρ' := ⟨fun _ h => .inl h, fun _ _ => rfl⟩
theorem EF.trans {κ : List Kd} {ρ ρ' ρ1 ρ1' ρ2 ρ2' : Ev} {S S1 : Sto} (a : EF κ S ρ ρ' ρ1 ρ1') (l : S.next ≤ S1.next) (b : EF κ S1 ρ1 ρ1' ρ2 ρ2') : EF κ S ρ ρ' ρ2 ρ2' :=
  ⟨fun k h => by
    rcases b.own k h with h | h
    · exact a.own k h
    · exact .inr (Nat.le_trans l h), fun i h => (b.pa i h).trans (a.pa i h)⟩
theorem XF.sf {κ : List Kd} {c : Cs} {ρ ρ' : Ev} {S S1 : Sto} (x : XF c S S1) : SF κ c ρ ρ' S S1 := ⟨x.le, fun k h f _ => x.eq k h f⟩
inductive RK where
  | v | f | p (i : Nat)
def RR (rk : RK) (κ : List Kd) (c1 : Cs) (S : Sto) (ρ ρ' : Ev) (S1 : Sto) (v v' : Val) : Prop := match rk with
  | .v => v = v'
  | .f => ∃ k, v = .loc k ∧ (ownk κ ρ ρ' k ∨ S.next ≤ k) ∧ VL c1 S1 k v'
  | .p i => ∃ k u, κ[i]? = some .p ∧ lk ρ i = some (.loc k) ∧ v' = .tup [v, u] ∧ VL c1 S1 k u
theorem RR.back {rk : RK} {κ : List Kd} {c2 : Cs} {S S1 S2 : Sto} {ρ ρ' ρ1 ρ1' : Ev} {v v' : Val} (e : EF κ S ρ ρ' ρ1 ρ1') (l : S.next ≤ S1.next) (h : RR rk κ c2 S1 ρ1 ρ1' S2 v v') : RR rk κ c2 S ρ ρ' S2 v v' := by
  cases rk with
  | v => exact h
  | f =>
    obtain ⟨k, rfl, h, q⟩ := h
    refine ⟨k, rfl, ?_, q⟩
    rcases h with h | h
    · exact e.own k h
    · exact .inr (Nat.le_trans l h)
  | p i =>
    obtain ⟨k, u, h1, h2, h3, h4⟩ := h
    exact ⟨k, u, h1, by rw [← e.pa i h1]; exact h2, h3, h4⟩
def SSim (κ : List Kd) (rk : RK) (c : Cs) (S : Sto) (ρ ρ' : Ev) (r r' : SRes) : Prop := match r' with
  | .nx ρ1' Z1 => ∃ ρ1 S1 c1, r = .nx ρ1 S1 ∧ NxR κ c S ρ ρ' ρ1 S1 ρ1' Z1 c1
  | .bk ρ1' Z1 => ∃ ρ1 S1 c1, r = .bk ρ1 S1 ∧ NxR κ c S ρ ρ' ρ1 S1 ρ1' Z1 c1
  | .ct ρ1' Z1 => ∃ ρ1 S1 c1, r = .ct ρ1 S1 ∧ NxR κ c S ρ ρ' ρ1 S1 ρ1' Z1 c1
  | .ex i vs ρ1' Z1 => ∃ ρ1 S1 c1, r = .ex i vs ρ1 S1 ∧ NxR κ c S ρ ρ' ρ1 S1 ρ1' Z1 c1
  | .rt v' Z1 => ∃ v S1 c1, r = .rt v S1 ∧ SF κ c ρ ρ' S S1 ∧ CX c S c1 ∧ St c1 Z1 S1 ∧ RR rk κ c1 S ρ ρ' S1 v v'
  | .st => True
def LS (κ : List Kd) (rk : RK) (s s' : SM) : Prop := ∀ c Z S ρ ρ', EvR κ c S ρ ρ' → St c Z S → SSim κ rk c S ρ ρ' (s ρ S) (s' ρ' Z)
section
variable {κ : List Kd} {rk : RK} {c c1 : Cs} {S S1 Z Z1 : Sto} {ρ ρ1 ρ' ρ1' : Ev}
theorem NxR.trans {ρ2 ρ2' : Ev} {S2 Z2 : Sto} {c2 : Cs} (a : NxR κ c S ρ ρ' ρ1 S1 ρ1' Z1 c1) (b : NxR κ c1 S1 ρ1 ρ1' ρ2 S2 ρ2' Z2 c2) : NxR κ c S ρ ρ' ρ2 S2 ρ2' Z2 c2 :=
  ⟨a.sf.trans a.ef a.cx b.sf, a.ef.trans a.sf.le b.ef, a.cx.trans a.sf.le b.cx, b.st, b.ev⟩
theorem SSim.after {r r' : SRes} (a : NxR κ c S ρ ρ' ρ1 S1 ρ1' Z1 c1) (h : SSim κ rk c1 S1 ρ1 ρ1' r r') : SSim κ rk c S ρ ρ' r r' := by
  cases r' with
  | st => trivial
  | nx ρ2' Z2 => obtain ⟨ρ2, S2, c2, e, q⟩ := h; exact ⟨ρ2, S2, c2, e, a.trans q⟩
  | bk ρ2' Z2 => obtain ⟨ρ2, S2, c2, e, q⟩ := h; exact ⟨ρ2, S2, c2, e, a.trans q⟩
  | ct ρ2' Z2 => obtain ⟨ρ2, S2, c2, e, q⟩ := h; exact ⟨ρ2, S2, c2, e, a.trans q⟩
  | ex i vs ρ2' Z2 => obtain ⟨ρ2, S2, c2, e, q⟩ := h; exact ⟨ρ2, S2, c2, e, a.trans q⟩
  | rt v' Z2 =>
    obtain ⟨v, S2, c2, e, f, x, s, q⟩ := h
    exact ⟨v, S2, c2, e, a.sf.trans a.ef a.cx f, a.cx.trans a.sf.le x, s, q.back a.ef a.sf.le⟩
theorem NxR.ofX (r : EvR κ c S ρ ρ') (s : St c Z S) (x : XF c S S1) (s1 : St c Z1 S1) : NxR κ c S ρ ρ' ρ S1 ρ' Z1 c := ⟨x.sf, .refl, .refl, s1, r.mono s x⟩
theorem SSim.toS {α β : Type} {n : Nat} {R : RelK α β} {r : Res α} {r' : Res β} {g : α → Sto → SRes} {g' : β → Sto → SRes} (er : EvR κ c S ρ ρ') (s : St c Z S) (h : Sim c S n R r r')
    (k : ∀ v v' S1 Z1, XF c S S1 → St c Z1 S1 → R c n S1 v v' → SSim κ rk c S1 ρ ρ' (g v S1) (g' v' Z1)) : SSim κ rk c S ρ ρ' (r.toS ρ g) (r'.toS ρ' g') := by
  cases r' with
  | st => trivial
  | ex i vs Z1 =>
    obtain ⟨S1, e, x, s1⟩ := h
    rw [e]; exact ⟨ρ, S1, c, rfl, .ofX er s x s1⟩
  | ok v' Z1 =>
    obtain ⟨v, S1, e, x, s1, q⟩ := h
    rw [e]
    exact SSim.after (NxR.ofX er s x s1) (k v v' S1 Z1 x s1 q)
theorem SSim.nx {r' : EvR κ c S ρ1 ρ1'} (s : St c Z S) (ef : EF κ S ρ ρ' ρ1 ρ1') : SSim κ rk c S ρ ρ' (.nx ρ1 S) (.nx ρ1' Z) := ⟨ρ1, S, c, rfl, XF.refl.sf, ef, .refl, s, r'⟩
theorem SSim.nx0 (er : EvR κ c S ρ ρ') (s : St c Z S) : SSim κ rk c S ρ ρ' (.nx ρ S) (.nx ρ' Z) := ⟨ρ, S, c, rfl, XF.refl.sf, .refl, .refl, s, er⟩
theorem lk_set {ρ : Ev} {i j : Nat} {o : Option Val} : lk (ρ.set i o) j = if i = j ∧ i < ρ.length then o else lk ρ j := by
  rw [lk_get, lk_get, List.getElem?_set]
  by_cases h : i = j
  · subst h
    by_cases l : i < ρ.length
    · rw [if_pos rfl, if_pos l, if_pos ⟨rfl, l⟩]; rfl
    · rw [if_pos rfl, if_neg l, if_neg fun q => l q.2, List.getElem?_eq_none (by omega)]
  · rw [if_neg h, if_neg fun q => h q.1]
theorem lk_same {ρ : Ev} {i : Nat} {o : Option Val} (l : i < ρ.length) : lk (ρ.set i o) i = o := by rw [lk_set, if_pos ⟨rfl, l⟩]
theorem lk_ne {ρ : Ev} {i j : Nat} {o : Option Val} (h : i ≠ j) : lk (ρ.set i o) j = lk ρ j := by rw [lk_set, if_neg fun q => h q.1]
theorem get_lt {α : Type} {l : List α} {i : Nat} {a : α} (h : l[i]? = some a) : i < l.length := (List.getElem?_eq_some_iff.mp h).1
theorem not_us_same {a : Option Val} {k : Nat} : ¬ us a a k := fun ⟨h1, u, h2, h3⟩ => by rw [h1] at h2; cases h2; cases h3
/-- a slot is set to one value -/
theorem EvR.set_s (er : EvR κ c S ρ ρ') {i : Nat} (hi : κ[i]? = some .s) (v : Option Val) : EvR κ c S (ρ.set i v) (ρ'.set i v) := by
  have l := get_lt hi
  have l1 : i < ρ.length := by rw [er.len]; exact l
  have l2 : i < ρ'.length := by rw [er.len']; exact l
  refine ⟨by rw [List.length_set]; exact er.len, by rw [List.length_set]; exact er.len', fun j kd e => ?_, fun j j2 kd k hne e o u => ?_⟩
  · by_cases h : i = j
    · subst h
      rw [hi] at e; cases e
      rw [lk_same l1, lk_same l2]; rfl
    · rw [lk_ne h, lk_ne h]; exact er.rel j kd e
  · by_cases h : i = j
    · subst h
      rw [hi] at e; cases e; cases o
    · rw [lk_ne h, lk_ne h] at u
      by_cases h2 : i = j2
      · subst h2
        rw [lk_same l1, lk_same l2]; exact not_us_same
      · rw [lk_ne h2, lk_ne h2]; exact er.na j j2 kd k hne e o u
theorem EF.set_s {i : Nat} {v v' : Option Val} (hi : κ[i]? = some .s) : EF κ S ρ ρ' (ρ.set i v) (ρ'.set i v') := by
  refine ⟨fun k ⟨j, kd, e, o, q⟩ => ?_, fun j e => ?_⟩
  · have : i ≠ j := fun h => by subst h; rw [hi] at e; cases e; cases o
    rw [lk_ne this, lk_ne this] at q
    exact .inl ⟨j, kd, e, o, q⟩
  · have : i ≠ j := fun h => by subst h; rw [hi] at e; cases e
    exact lk_ne this
/-- a slot's use -/
theorem us_vl {a b : Option Val} {k : Nat} : ∀ {kd : Kd}, SlR c S kd a b → us a b k → ∃ u, b = some u ∧ VL c S k u
  | .s, h, u => by rw [show a = b from h] at u; exact (not_us_same u).elim
  | .f, h, u => by
    rcases h with h | ⟨k2, w, e1, e2, h⟩
    · rw [h] at u; exact (not_us_same u).elim
    · obtain ⟨u1, _⟩ := u
      rw [e1] at u1; cases u1; exact ⟨w, e2, h⟩
  | .o, h, u => by
    rcases h with ⟨h, _⟩ | ⟨k2, w, e1, e2, h⟩
    · obtain ⟨_, _, q, _⟩ := u; rw [h] at q; cases q
    · obtain ⟨u1, _⟩ := u
      rw [e1] at u1; cases u1; exact ⟨w, e2, h⟩
  | .p, h, u => by
    rcases h with ⟨h, _⟩ | ⟨k2, w, e1, e2, h⟩
    · obtain ⟨_, _, q, _⟩ := u; rw [h] at q; cases q
    · obtain ⟨u1, _⟩ := u
      rw [e1] at u1; cases u1; exact ⟨w, e2, h⟩
  | .c, h, u => by
    rcases h with ⟨h, _⟩ | ⟨j, k2, e1, e2, h⟩
    · obtain ⟨_, _, q, _⟩ := u; rw [h] at q; cases q
    · obtain ⟨_, w, q, z⟩ := u
      rw [e2] at q; cases q; cases z
theorem EvR.us_vl (er : EvR κ c S ρ ρ') {j k : Nat} (u : us (lk ρ j) (lk ρ' j) k) : VL c S k ((lk ρ' j).getD .non) := by
  cases e : κ[j]? with
  | none =>
    obtain ⟨u1, _⟩ := u
    have : ρ.length ≤ j := by rw [er.len]; exact List.getElem?_eq_none_iff.mp e
    rw [lk_get, List.getElem?_eq_none this] at u1; cases u1
  | some kd =>
    obtain ⟨w, h1, h2⟩ := PM.us_vl (er.rel j kd e) u
    rw [h1]; exact h2
/-- an owned slot takes an object that no other slot uses -/
theorem EvR.set_o (er : EvR κ c S ρ ρ') {i k : Nat} {u : Val} {kd : Kd} (hi : κ[i]? = some kd) (ho : kd.own = true) (h : VL c S k u) (hn : ∀ j, j ≠ i → ¬ us (lk ρ j) (lk ρ' j) k) : EvR κ c S (ρ.set i (some (.loc k))) (ρ'.set i (some u)) := by
  have l := get_lt hi
  have l1 : i < ρ.length := by rw [er.len]; exact l
  have l2 : i < ρ'.length := by rw [er.len']; exact l
  refine ⟨by rw [List.length_set]; exact er.len, by rw [List.length_set]; exact er.len', fun j kd2 e => ?_, fun j j2 kd2 k2 hne e o q => ?_⟩
  · by_cases hj : i = j
    · subst hj
      rw [hi] at e; cases e
      rw [lk_same l1, lk_same l2]
      cases kd <;> first | (cases ho; done) | exact .inr ⟨k, u, rfl, rfl, h⟩
    · rw [lk_ne hj, lk_ne hj]; exact er.rel j kd2 e
  · by_cases hj : i = j
    · subst hj
      rw [lk_same l1, lk_same l2] at q
      obtain ⟨q1, _⟩ := q
      cases q1
      rw [lk_ne hne, lk_ne hne]; exact hn j2 (Ne.symm hne)
    · rw [lk_ne hj, lk_ne hj] at q
      by_cases h2 : i = j2
      · subst h2
        rw [lk_same l1, lk_same l2]
        intro q2
        obtain ⟨q3, _⟩ := q2
        cases q3
        exact hn j (Ne.symm hj) q
      · rw [lk_ne h2, lk_ne h2]; exact er.na j j2 kd2 k2 hne e o q
/-- it is dead -/
theorem EvR.dead (er : EvR κ c S ρ ρ') {i : Nat} {kd : Kd} (hi : κ[i]? = some kd) (ho : kd.own = true) : EvR κ c S ρ (ρ'.set i none) := by
  have l2 : i < ρ'.length := by rw [er.len']; exact get_lt hi
  refine ⟨er.len, by rw [List.length_set]; exact er.len', fun j kd2 e => ?_, fun j j2 kd2 k2 hne e o q => ?_⟩
  · by_cases hj : i = j
    · subst hj
      rw [hi] at e; cases e
      rw [lk_same l2]
      have := er.rel i kd hi
      cases kd <;> first | (cases ho; done) | (rcases this with ⟨_, h⟩ | ⟨k, _, h, _⟩
                                               · exact .inl ⟨rfl, h⟩
                                               · exact .inl ⟨rfl, .inr ⟨k, h⟩⟩)
    · rw [lk_ne hj]; exact er.rel j kd2 e
  · by_cases hj : i = j
    · subst hj
      rw [lk_same l2] at q
      obtain ⟨_, _, q, _⟩ := q; cases q
    · rw [lk_ne hj] at q
      by_cases h2 : i = j2
      · subst h2
        rw [lk_same l2]
        intro q2
        obtain ⟨_, _, q2, _⟩ := q2; cases q2
      · rw [lk_ne h2]; exact er.na j j2 kd2 k2 hne e o q
theorem EF.dead {i : Nat} (hi : κ[i]? = some .o) (len : ρ'.length = κ.length) : EF κ S ρ ρ' ρ (ρ'.set i none) := by
  refine ⟨fun k ⟨j, kd, e, o, q⟩ => ?_, fun _ _ => rfl⟩
  by_cases hj : i = j
  · subst hj
    rw [lk_same (by rw [len]; exact get_lt hi)] at q
    obtain ⟨_, _, q, _⟩ := q; cases q
  · rw [lk_ne hj] at q; exact .inl ⟨j, kd, e, o, q⟩
/-! ### statements -/
variable {s s' t t' : SM}
theorem ls_next : LS κ rk sNext sNext := fun c Z S ρ ρ' er st => .nx0 er st
theorem ls_never : LS κ rk sNever sNever := fun c Z S ρ ρ' er st => trivial
theorem ls_break : LS κ rk sBreak sBreak := fun c Z S ρ ρ' er st => ⟨ρ, S, c, rfl, XF.refl.sf, .refl, .refl, st, er⟩
theorem ls_cont : LS κ rk sCont sCont := fun c Z S ρ ρ' er st => ⟨ρ, S, c, rfl, XF.refl.sf, .refl, .refl, st, er⟩
theorem ls_raise {i : Nat} : LS κ rk (sRaise i) (sRaise i) := fun c Z S ρ ρ' er st => ⟨ρ, S, c, rfl, XF.refl.sf, .refl, .refl, st, er⟩
theorem ls_seq (h : LS κ rk s s') (h2 : LS κ rk t t') : LS κ rk (sSeq s t) (sSeq s' t') := fun c Z S ρ ρ' er st => by
  have := h c Z S ρ ρ' er st
  unfold sSeq
  revert this
  cases e : s' ρ' Z with
  | st => intro _; trivial
  | nx ρ1' Z1 =>
    rintro ⟨ρ1, S1, c1, e1, q⟩
    rw [e1]
    exact .after q (h2 c1 Z1 S1 ρ1 ρ1' q.ev q.st)
  | bk => rintro ⟨ρ1, S1, c1, e1, q⟩; rw [e1]; exact ⟨ρ1, S1, c1, rfl, q⟩
  | ct => rintro ⟨ρ1, S1, c1, e1, q⟩; rw [e1]; exact ⟨ρ1, S1, c1, rfl, q⟩
  | ex => rintro ⟨ρ1, S1, c1, e1, q⟩; rw [e1]; exact ⟨ρ1, S1, c1, rfl, q⟩
  | rt => rintro ⟨v, S1, c1, e1, q⟩; rw [e1]; exact ⟨v, S1, c1, rfl, q⟩
variable {e p : EM} {b b' : BM}
theorem ls_set (i : Nat) (hi : κ[i]? = some .s) (h : LE RV κ e p) : LS κ rk (sSet i e) (sSet i p) := fun c Z S ρ ρ' er st =>
  .toS er st (h c Z S ρ ρ' S.next er st (Nat.le_refl _)) fun v v' S1 Z1 x s1 q => by
    obtain rfl : v = v' := q
    exact SSim.nx (r' := (er.mono st x).set_s hi _) s1 (.set_s hi)
theorem EF.set_o {i k : Nat} {u : Option Val} (h : S.next ≤ k) (hi : κ[i]? = some .o) (len : ρ.length = κ.length) : EF κ S ρ ρ' (ρ.set i (some (.loc k))) (ρ'.set i u) := by
  refine ⟨fun k2 ⟨j, kd, e, o, q⟩ => ?_, fun j e => ?_⟩
  · by_cases hj : i = j
    · subst hj
      obtain ⟨q1, _⟩ := q
      rw [lk_same (by rw [len]; exact get_lt hi)] at q1
      cases q1; exact .inr h
    · rw [lk_ne hj, lk_ne hj] at q; exact .inl ⟨j, kd, e, o, q⟩
  · have : i ≠ j := fun h => by subst h; rw [hi] at e; cases e
    exact lk_ne this
theorem fresh_no (er : EvR κ c S ρ ρ') (st : St c Z S) {k : Nat} (h : S.next ≤ k) (j : Nat) : ¬ us (lk ρ j) (lk ρ' j) k := fun u => by
  have := (er.us_vl u).lt st
  omega
/-- an owned slot: a new object -/
theorem ls_setO (i : Nat) (hi : κ[i]? = some .o) (h : LE RF κ e p) : LS κ rk (sSet i e) (sSet i p) := fun c Z S ρ ρ' er st => by
  have := h c Z S ρ ρ' S.next er st (Nat.le_refl _)
  unfold sSet
  cases e1 : p ρ' Z with
  | st => trivial
  | ex j vs Z1 =>
    rw [e1] at this
    obtain ⟨S1, e2, x, s1⟩ := this
    rw [e2]; exact ⟨ρ, S1, c, rfl, .ofX er st x s1⟩
  | ok v' Z1 =>
    rw [e1] at this
    obtain ⟨v, S1, e2, x, s1, k, rfl, hk, q⟩ := this
    rw [e2]
    exact ⟨_, S1, c, rfl, x.sf, .set_o hk hi er.len, .refl, s1, (er.mono st x).set_o hi rfl q fun j _ => fresh_no er st hk j⟩
theorem ls_drop {R : RelK Val Val} (h : LE R κ e p) : LS κ rk (sDrop e) (sDrop p) := fun c Z S ρ ρ' er st =>
  .toS er st (h c Z S ρ ρ' S.next er st (Nat.le_refl _)) fun v v' S1 Z1 x s1 q => .nx0 (er.mono st x) s1
theorem ls_ret (h : LE RV κ e p) : LS κ .v (sRet e) (sRet p) := fun c Z S ρ ρ' er st =>
  .toS er st (h c Z S ρ ρ' S.next er st (Nat.le_refl _)) fun v v' S1 Z1 x s1 q => ⟨v, S1, c, rfl, XF.refl.sf, .refl, s1, q⟩
theorem ls_retF (h : LE RF κ e p) : LS κ .f (sRet e) (sRet p) := fun c Z S ρ ρ' er st => by
  have := h c Z S ρ ρ' S.next er st (Nat.le_refl _)
  unfold sRet
  cases e1 : p ρ' Z with
  | st => trivial
  | ex j vs Z1 =>
    rw [e1] at this
    obtain ⟨S1, e2, x, s1⟩ := this
    rw [e2]; exact ⟨ρ, S1, c, rfl, .ofX er st x s1⟩
  | ok v' Z1 =>
    rw [e1] at this
    obtain ⟨v, S1, e2, x, s1, k, rfl, hk, q⟩ := this
    rw [e2]
    exact ⟨_, S1, c, rfl, x.sf, .refl, s1, k, rfl, .inr hk, q⟩
theorem ls_retN : LS κ .v sRetN sRetN := fun c Z S ρ ρ' er st => ⟨.non, S, c, rfl, XF.refl.sf, .refl, st, rfl⟩
/-- an owned object handed out as it is -/
theorem ls_retO (i : Nat) (hi : κ[i]? = some .o) : LS κ .f (sRet (eVar i)) (sRet (eVar i)) := fun c Z S ρ ρ' er st => by
  unfold sRet
  rw [eVar_lk, eVar_lk]
  have := er.rel i _ hi
  cases e : lk ρ' i with
  | none => trivial
  | some v' =>
    rcases this with ⟨h, _⟩ | ⟨k, u, e1, e2, h⟩
    · rw [e] at h; cases h
    · rw [e] at e2; cases e2
      rw [e1]
      exact ⟨_, S, c, rfl, XF.refl.sf, .refl, st, k, rfl, .inl ⟨i, .o, hi, rfl, e1, _, e, by obtain ⟨_, o, _, q⟩ := h; exact isO_of q⟩, h⟩
theorem giveUp_vl {k : Nat} {u : Val} (h : VL c S k u) : giveUp (.loc k) S = .ok u (S.drop k) := by
  obtain ⟨_, o, h1, h2⟩ := h
  unfold giveUp
  dsimp only
  rw [h1]
  cases o with
  | lst xs => cases h2; rfl
  | dk l ks vs => cases l <;> cases h2; rfl
  | dt l ks vs => cases l <;> cases h2; rfl
  | ins c vs => cases h2; rfl
theorem St.drop (s : St c Z S) {k : Nat} (f : Free c k) : St c Z (S.drop k) := by
  refine ⟨fun p hp => ?_, s.inj, fun j o h => ?_, s.wz⟩
  · obtain ⟨o, h1, h2⟩ := s.cr p hp
    exact ⟨o, h1, by rw [drop_ne (f p hp)]; exact h2⟩
  · by_cases hj : j = k
    · subst hj; unfold Sto.drop at h; simp at h
    · rw [drop_ne hj] at h; exact s.wf j o h
/-- an owned object handed out for good -/
theorem ls_retZ (i : Nat) (hi : κ[i]? = some .o) : LS κ .v (sRet (eFrz (eVar i))) (sRet (eVar i)) := fun c Z S ρ ρ' er st => by
  unfold sRet eFrz
  rw [eVar_lk, eVar_lk]
  have := er.rel i _ hi
  cases e : lk ρ' i with
  | none => trivial
  | some v' =>
    rcases this with ⟨h, _⟩ | ⟨k, u, e1, e2, h⟩
    · rw [e] at h; cases h
    · rw [e] at e2; cases e2
      rw [e1]
      show SSim κ .v c S ρ ρ' ((giveUp (.loc k) S).toS ρ _) _
      rw [giveUp_vl h]
      exact ⟨_, _, c, rfl, ⟨Nat.le_refl _, fun j _ _ o => drop_ne fun q => by subst q; exact o ⟨i, .o, hi, rfl, e1, _, e, by obtain ⟨_, o, _, q⟩ := h; exact isO_of q⟩⟩, .refl, st.drop h.1, rfl⟩
/-- y = x, x owned and not asked any more -/
def sMove (j i : Nat) : SM := fun ρ S => (vr (lk ρ i) S).toS ρ fun v S1 => .nx ((ρ.set i none).set j (some v)) S1
theorem ls_move (j i : Nat) (hj : κ[j]? = some .s) (hi : κ[i]? = some .o) : LS κ rk (sSet j (eFrz (eVar i))) (sMove j i) := fun c Z S ρ ρ' er st => by
  unfold sSet eFrz sMove
  rw [eVar_lk]
  have := er.rel i _ hi
  cases e : lk ρ' i with
  | none => trivial
  | some v' =>
    rcases this with ⟨h, _⟩ | ⟨k, u, e1, e2, h⟩
    · rw [e] at h; cases h
    · rw [e] at e2; cases e2
      rw [e1]
      show SSim κ rk c S ρ ρ' ((giveUp (.loc k) S).toS ρ _) _
      rw [giveUp_vl h]
      have no : ∀ j, j ≠ i → ¬ us (lk ρ j) (lk ρ' j) k := fun j hne => er.na i j .o k (Ne.symm hne) hi rfl ⟨e1, _, e, by obtain ⟨_, o, _, q⟩ := h; exact isO_of q⟩
      have d := er.dead hi rfl
      have er2 : EvR κ c (S.drop k) ρ (ρ'.set i none) := ⟨d.len, d.len', fun l kd el => by
        have q := d.rel l kd el
        have keep : ∀ {k2 : Nat} {w : Val}, k2 ≠ k → VL c S k2 w → VL c (S.drop k) k2 w := fun hk ⟨f, o, a, b⟩ => ⟨f, o, by rw [drop_ne hk]; exact a, b⟩
        by_cases hl : i = l
        · subst hl
          rw [hi] at el; cases el
          rw [lk_same (by rw [er.len']; exact get_lt hi)]; exact .inl ⟨rfl, .inr ⟨k, e1⟩⟩
        · rw [lk_ne hl] at q ⊢
          have nk : ∀ {k2 : Nat} {w : Val}, lk ρ l = some (.loc k2) → lk ρ' l = some w → VL c S k2 w → k2 ≠ k := fun a b hv z => by
            subst z
            exact no l (Ne.symm hl) ⟨a, _, b, by obtain ⟨_, o, _, q⟩ := hv; exact isO_of q⟩
          cases kd with
          | s => exact q
          | c => exact q
          | f => rcases q with q | ⟨k2, w, a, b, q⟩
                 · exact .inl q
                 · exact .inr ⟨k2, w, a, b, keep (nk a b q) q⟩
          | o => rcases q with q | ⟨k2, w, a, b, q⟩
                 · exact .inl q
                 · exact .inr ⟨k2, w, a, b, keep (nk a b q) q⟩
          | p => rcases q with q | ⟨k2, w, a, b, q⟩
                 · exact .inl q
                 · exact .inr ⟨k2, w, a, b, keep (nk a b q) q⟩, d.na⟩
      exact ⟨_, _, c, rfl, ⟨Nat.le_refl _, fun j _ _ o => drop_ne fun q => by subst q; exact o ⟨i, .o, hi, rfl, e1, _, e, by obtain ⟨_, o, _, q⟩ := h; exact isO_of q⟩⟩, (EF.dead hi er.len').trans (Nat.le_refl _) (.set_s hj), .refl, st.drop h.1, er2.set_s hj _⟩
theorem ls_if (hb : LE RV κ b b') (h : LS κ rk s s') (h2 : LS κ rk t t') : LS κ rk (sIf b s t) (sIf b' s' t') := fun c Z S ρ ρ' er st =>
  .toS er st (hb c Z S ρ ρ' S.next er st (Nat.le_refl _)) fun v v' S1 Z1 x s1 q => by
    obtain rfl : v = v' := q
    cases v with
    | true => exact h c Z1 S1 ρ ρ' (er.mono st x) s1
    | false => exact h2 c Z1 S1 ρ ρ' (er.mono st x) s1
def sAugP (i : Nat) (op : Val → Val → Sto → Res Val) (e : EM) : SM := fun ρ S => (vr (lk ρ i) S).toS ρ fun v _ => (e ρ S).toS ρ fun w S1 => ((op v w Z0).onto S1).toS ρ fun z S2 => .nx (ρ.set i (some z)) S2
theorem ls_aug {op : Val → Val → Sto → Res Val} (ok : Rs2 op) (nx : ∀ v w S, NX (op v w S)) (i : Nat) (hi : κ[i]? = some .s) (h : LE RQ κ e p) : LS κ rk (sAug i op e) (sAugP i op p) := fun c Z S ρ ρ' er st => by
  have hr : lk ρ i = lk ρ' i := er.rel i _ hi
  unfold sAug sAugP
  rw [← hr]
  cases e1 : lk ρ i with
  | none => trivial
  | some v =>
    rw [lk_some.mp e1]
    show SSim κ rk c S ρ ρ' ((e ρ S).toS ρ _) ((p ρ' Z).toS ρ' _)
    exact SSim.toS er st (h c Z S ρ ρ' S.next er st (Nat.le_refl _)) fun w w' S1 Z1 x s1 q => .toS (er.mono st x) s1 (sim_op (n := S1.next) s1 (nx _ _ _) fun u Z2 eo => ok c S1 v v w w' u Z2 (.inl rfl) q eo) fun z z' S2 Z2 x2 s2 q2 => by
      obtain rfl : z = z' := q2
      exact SSim.nx (r' := ((er.mono st x).mono s1 x2).set_s hi _) s2 (.set_s hi)
theorem ls_while {n : Nat} (hb : LE RV κ b b') (h : LS κ rk s s') : LS κ rk (whileM n b s) (whileM n b' s') := by
  induction n with
  | zero => exact fun c Z S ρ ρ' er st => trivial
  | succ n ih =>
    intro c Z S ρ ρ' er st
    unfold whileM
    refine .toS er st (hb c Z S ρ ρ' S.next er st (Nat.le_refl _)) fun v v' S1 Z1 x s1 q => ?_
    obtain rfl : v = v' := q
    have er1 := er.mono st x
    cases v with
    | false => exact .nx0 er1 s1
    | true =>
      rw [if_pos rfl, if_pos rfl]
      have := h c Z1 S1 ρ ρ' er1 s1
      revert this
      cases e : s' ρ' Z1 with
      | st => intro _; trivial
      | nx ρ2' Z2 => rintro ⟨ρ2, S2, c2, e2, q⟩; rw [e2]; exact .after q (ih c2 Z2 S2 ρ2 ρ2' q.ev q.st)
      | ct ρ2' Z2 => rintro ⟨ρ2, S2, c2, e2, q⟩; rw [e2]; exact .after q (ih c2 Z2 S2 ρ2 ρ2' q.ev q.st)
      | bk ρ2' Z2 => rintro ⟨ρ2, S2, c2, e2, q⟩; rw [e2]; exact ⟨ρ2, S2, c2, rfl, q⟩
      | ex i vs ρ2' Z2 => rintro ⟨ρ2, S2, c2, e2, q⟩; rw [e2]; exact ⟨ρ2, S2, c2, rfl, q⟩
      | rt v Z2 => rintro ⟨ρ2, S2, c2, e2, q⟩; rw [e2]; exact ⟨ρ2, S2, c2, rfl, q⟩
end
/-! ### targets -/
def allS (κ : List Kd) (l : List Nat) : Bool := l.all fun i => κ[i]? == some .s
mutual
theorem tgt_ok {κ : List Kd} {c : Cs} {S : Sto} : ∀ {t : Tgt} {v : Val} {ρ ρ' ρ1' : Ev}, (∀ i ∈ t.slots, κ[i]? = some .s) → EvR κ c S ρ ρ' → t.set v ρ' = some ρ1' → ∃ ρ1, t.set v ρ = some ρ1 ∧ EvR κ c S ρ1 ρ1' ∧ EF κ S ρ ρ' ρ1 ρ1'
  | .name i, v, ρ, ρ', ρ1', hs, er, e => by
    rw [tgt_name] at e ⊢
    cases e
    have hi := hs i (by unfold Tgt.slots; exact List.mem_singleton.mpr rfl)
    exact ⟨_, rfl, er.set_s hi _, .set_s hi⟩
  | .tup ts, v, ρ, ρ', ρ1', hs, er, e => by
    cases v <;> first | (unfold Tgt.set at e; cases e; done) | skip
    unfold Tgt.set at e ⊢
    exact tgts_ok (by unfold Tgt.slots at hs; exact hs) er e
theorem tgts_ok {κ : List Kd} {c : Cs} {S : Sto} : ∀ {ts : List Tgt} {vs : List Val} {ρ ρ' ρ1' : Ev}, (∀ i ∈ Tgt.slotss ts, κ[i]? = some .s) → EvR κ c S ρ ρ' → Tgt.sets ts vs ρ' = some ρ1' → ∃ ρ1, Tgt.sets ts vs ρ = some ρ1 ∧ EvR κ c S ρ1 ρ1' ∧ EF κ S ρ ρ' ρ1 ρ1'
  | [], [], ρ, ρ', ρ1', _, er, e => by unfold Tgt.sets at e ⊢; cases e; exact ⟨ρ, rfl, er, .refl⟩
  | [], _ :: _, _, _, _, _, _, e => by unfold Tgt.sets at e; cases e
  | _ :: _, [], _, _, _, _, _, e => by unfold Tgt.sets at e; cases e
  | t :: ts, v :: vs, ρ, ρ', ρ1', hs, er, e => by
    unfold Tgt.sets at e ⊢
    unfold Tgt.slotss at hs
    cases q : t.set v ρ' with
    | none => rw [q] at e; cases e
    | some ρ2' =>
      rw [q] at e
      obtain ⟨ρ2, h1, h2, h3⟩ := tgt_ok (fun i hi => hs i (List.mem_append.mpr (.inl hi))) er q
      obtain ⟨ρ3, h4, h5, h6⟩ := tgts_ok (fun i hi => hs i (List.mem_append.mpr (.inr hi))) h2 e
      exact ⟨ρ3, by rw [h1]; exact h4, h5, h3.trans (Nat.le_refl _) h6⟩
end
theorem allS_ok {κ : List Kd} {l : List Nat} (h : allS κ l = true) : ∀ i ∈ l, κ[i]? = some .s := fun i hi => by
  unfold allS at h
  have := List.all_eq_true.mp h i hi
  simpa using this
section
variable {κ : List Kd} {rk : RK} {e p : EM} {a a' : AM} {s s' : SM}
theorem ls_asg {t : Tgt} (ht : allS κ t.slots = true) (h : LE RV κ e p) : LS κ rk (sAsg t e) (sAsg t p) := fun c Z S ρ ρ' er st =>
  .toS er st (h c Z S ρ ρ' S.next er st (Nat.le_refl _)) fun v v' S1 Z1 x s1 q => by
    obtain rfl : v = v' := q
    cases q : t.set v ρ' with
    | none => trivial
    | some ρ1' =>
      obtain ⟨ρ1, h1, h2, h3⟩ := tgt_ok (allS_ok ht) (er.mono st x) q
      rw [h1]
      exact SSim.nx (r' := h2) s1 h3
/-- i, j = a, b -/
theorem ls_par (i j : Nat) (hi : κ[i]? = some .s) (hj : κ[j]? = some .s) (h : LE RV κ a a') : LS κ rk (sPar i j a) (sPar i j a') := fun c Z S ρ ρ' er st =>
  .toS er st (h c Z S ρ ρ' S.next er st (Nat.le_refl _)) fun v v' S1 Z1 x s1 q => by
    obtain rfl : v = v' := q
    match v with
    | [u, w] => exact SSim.nx (r' := ((er.mono st x).set_s hi _).set_s hj _) s1 ((EF.set_s hi).trans (Nat.le_refl _) (.set_s hj))
    | [] => trivial
    | [_] => trivial
    | _ :: _ :: _ :: _ => trivial
/-! ### loops -/
abbrev IP := Ev → Sto → Res (List Val)
def RI (κ : List Kd) (ρ ρ' : Ev) : RelK ItV (List Val) := fun c _ S iv xs => iv.items = xs ∧ ((∀ S', iv.src S') ∨ ∃ k o, k < S.next ∧ Free c k ∧ ¬ ownk κ ρ ρ' k ∧ S.objs k = some o ∧ ∀ S', S'.objs k = some o → iv.src S')
def LI (κ : List Kd) (it : IM) (ip : IP) : Prop := ∀ c Z S ρ ρ', EvR κ c S ρ ρ' → St c Z S → Sim c S S.next (RI κ ρ ρ') (it ρ S) (ip ρ' Z)
def forP (tg : Tgt) (b : SM) : List Val → SM
  | [] => fun ρ S => .nx ρ S
  | v :: vs => fun ρ S => match tg.set v ρ with
    | some ρ1 => (match b ρ1 S with
      | .nx ρ' S' => forP tg b vs ρ' S'
      | .ct ρ' S' => forP tg b vs ρ' S'
      | .bk ρ' S' => .nx ρ' S'
      | r => r)
    | none => .st
def sForP (it : IP) (tg : Tgt) (b : SM) : SM := fun ρ S => (it ρ S).toS ρ fun xs S1 => forP tg b xs ρ S1
theorem forP_ok {tg : Tgt} (ht : allS κ tg.slots = true) (h : LS κ rk s s') {src : Sto → Prop} : ∀ {vs : List Val} {c : Cs} {Z S : Sto} {ρ ρ' : Ev}, EvR κ c S ρ ρ' → St c Z S →
    ((∀ S', src S') ∨ ∃ k o, k < S.next ∧ Free c k ∧ ¬ ownk κ ρ ρ' k ∧ S.objs k = some o ∧ ∀ S', S'.objs k = some o → src S') → SSim κ rk c S ρ ρ' (forGo src tg s vs ρ S) (forP tg s' vs ρ' Z)
  | [], c, Z, S, ρ, ρ', er, st, hs => by
    unfold forGo forP
    have : src S := by rcases hs with hs | ⟨k, o, _, _, _, h1, h2⟩; exact hs S; exact h2 S h1
    rw [if_pos this]; exact .nx0 er st
  | v :: vs, c, Z, S, ρ, ρ', er, st, hs => by
    unfold forGo forP
    have : src S := by rcases hs with hs | ⟨k, o, _, _, _, h1, h2⟩; exact hs S; exact h2 S h1
    rw [if_pos this]
    cases q : tg.set v ρ' with
    | none => trivial
    | some ρ1' =>
      obtain ⟨ρ1, h1, h2, h3⟩ := tgt_ok (allS_ok ht) er q
      rw [h1]
      dsimp only
      have n0 : NxR κ c S ρ ρ' ρ1 S ρ1' Z c := ⟨XF.refl.sf, h3, .refl, st, h2⟩
      have := h c Z S ρ1 ρ1' h2 st
      have go : ∀ {ρ2 ρ2' : Ev} {S2 Z2 : Sto} {c2 : Cs}, NxR κ c S ρ1 ρ1' ρ2 S2 ρ2' Z2 c2 → SSim κ rk c S ρ ρ' (forGo src tg s vs ρ2 S2) (forP tg s' vs ρ2' Z2) := fun {ρ2 ρ2' S2 Z2 c2} n => by
        refine .after (n0.trans n) (forP_ok ht h n.ev n.st ?_)
        rcases hs with hs | ⟨k, o, lk, fk, nk, h1, h2⟩
        · exact .inl hs
        · have no : ¬ ownk κ ρ1 ρ1' k := fun q => by
            rcases h3.own k q with q | q
            · exact nk q
            · omega
          refine .inr ⟨k, o, Nat.lt_of_lt_of_le lk n.sf.le, n.cx.free lk fk, fun q => ?_, (n.sf.eq k lk fk no).trans h1, h2⟩
          rcases n.ef.own k q with q | q
          · exact no q
          · omega
      revert this
      cases e : s' ρ1' Z with
      | st => intro _; trivial
      | nx ρ2' Z2 => rintro ⟨ρ2, S2, c2, e2, q⟩; rw [e2]; exact go q
      | ct ρ2' Z2 => rintro ⟨ρ2, S2, c2, e2, q⟩; rw [e2]; exact go q
      | bk ρ2' Z2 => rintro ⟨ρ2, S2, c2, e2, q⟩; rw [e2]; exact ⟨ρ2, S2, c2, rfl, n0.trans q⟩
      | ex i vs ρ2' Z2 => rintro ⟨ρ2, S2, c2, e2, q⟩; rw [e2]; exact ⟨ρ2, S2, c2, rfl, n0.trans q⟩
      | rt v Z2 =>
        intro q
        exact .after n0 q |> fun (z : SSim κ rk c S ρ ρ' (s ρ1 S) (.rt v Z2)) => by
          obtain ⟨v2, S2, c2, e2, z⟩ := z
          rw [e2]; exact ⟨v2, S2, c2, rfl, z⟩
theorem ls_for {it : IM} {ip : IP} {tg : Tgt} (hi : LI κ it ip) (ht : allS κ tg.slots = true) (h : LS κ rk s s') : LS κ rk (sFor it tg s) (sForP ip tg s') := fun c Z S ρ ρ' er st =>
  .toS er st (hi c Z S ρ ρ' er st) fun v v' S1 Z1 x s1 q => by
    obtain ⟨e, q⟩ := q
    rw [e]
    exact forP_ok ht h (er.mono st x) s1 q
/-- what is walked -/
def itemsP (v : Val) : Option (List Val) := match v with
  | .tup xs => some xs | .lst xs => some xs | .fz xs => some xs | _ => none
def iSeqP (f : EM) : IP := fun ρ S => (f ρ S).bind fun v S1 => match itemsP v with
  | some xs => .ok xs S1
  | none => .st
theorem li_seq (h : LE RV κ e p) : LI κ (iSeq e) (iSeqP p) := fun c Z S ρ ρ' er st => (h c Z S ρ ρ' S.next er st (Nat.le_refl _)).bind fun v v' S1 Z1 x s1 q => by
  obtain rfl : v = v' := q
  cases v <;> first | (exact .ok s1 ⟨rfl, .inl fun _ => trivial⟩) | trivial
/-- a list lent by the caller -/
theorem li_seqF (i : Nat) (hi : κ[i]? = some .f) : LI κ (iSeq (eVar i)) (iSeqP (eVar i)) := fun c Z S ρ ρ' er st => by
  unfold iSeq iSeqP
  rw [eVar_lk, eVar_lk]
  rcases er.rel i _ hi with h | ⟨k, u, e1, e2, h⟩
  · rw [h]
    cases lk ρ' i with
    | none => trivial
    | some v => cases v <;> first | (exact .ok st ⟨rfl, .inl fun _ => trivial⟩) | trivial
  · rw [e1, e2]
    have l := h.lt st
    obtain ⟨f, o, h1, h2⟩ := h
    have us1 : us (lk ρ i) (lk ρ' i) k := ⟨e1, u, e2, isO_of h2⟩
    cases o with
    | lst xs =>
      cases h2
      show Sim c S S.next (RI κ ρ ρ') (seqIt (.loc k) S) (.ok xs Z)
      unfold seqIt
      dsimp only
      rw [h1]
      refine .ok st ⟨rfl, .inr ⟨k, _, l, f, fun ⟨j, kd, a, b, q⟩ => ?_, h1, fun _ h => h⟩⟩
      by_cases hj : j = i
      · subst hj; rw [hi] at a; cases a; cases b
      · exact er.na j i _ k hj a b q us1
    | dk lk ks vs => cases lk <;> cases h2; trivial
    | dt lk ks vs => cases lk <;> cases h2; trivial
    | ins c vs => cases h2; trivial
end
end PM

/-! PP, part d: defs, calls, lists, comprehensions -/
namespace PM
open PySem PySem.Spec L2
/-- a def: its parameters' kinds, what it hands out -/
def LF (κ : List Kd) (rk : RK) (F G : FM) : Prop := ∀ c Z S vs vs', EvR κ c S (vs.map some) (vs'.map some) → St c Z S → match G vs' Z with
  | .ok v' Z1 => ∃ v S1, F vs S = .ok v S1 ∧ SF κ c (vs.map some) (vs'.map some) S S1 ∧ St c Z1 S1 ∧ RR rk κ c S (vs.map some) (vs'.map some) S1 v v'
  | .ex i es Z1 => ∃ S1, F vs S = .ex i es S1 ∧ SF κ c (vs.map some) (vs'.map some) S S1 ∧ St c Z1 S1
  | .st => True
def runBP (i : Nat) (N : Nat) (b : SM) : FM := fun vs S => match b (vs.map Option.some ++ List.replicate (N - vs.length) none) S with
  | .nx ρ S' => (match lk ρ i with | some u => .ok (.tup [.non, u]) S' | none => .st)
  | .rt v S' => .ok v S'
  | .ex c vs _ S' => .ex c vs S'
  | _ => .st
theorem lk_app {a b : Ev} {i : Nat} : lk (a ++ b) i = if i < a.length then lk a i else lk b (i - a.length) := by
  rw [lk_get, lk_get, lk_get]
  by_cases h : i < a.length
  · rw [if_pos h, List.getElem?_append_left h]
  · rw [if_neg h, List.getElem?_append_right (by omega)]
theorem lk_rep {n i : Nat} : lk (List.replicate n none) i = none := by
  rw [lk_get, List.getElem?_replicate]; split <;> rfl
theorem EvR.ext {κ κ2 : List Kd} {c : Cs} {S : Sto} {a a' : Ev} {n : Nat} (h : EvR κ c S a a') (hn : κ2.length = n) : EvR (κ ++ κ2) c S (a ++ List.replicate n none) (a' ++ List.replicate n none) := by
  refine ⟨by simp [h.len, hn], by simp [h.len', hn], fun i kd e => ?_, fun i j kd k hne e o u => ?_⟩
  · rw [lk_app, lk_app, h.len, h.len']
    by_cases l : i < κ.length
    · rw [if_pos l, if_pos l]
      rw [List.getElem?_append_left l] at e
      exact h.rel i kd e
    · rw [if_neg l, if_neg l, lk_rep]
      cases kd <;> first | exact rfl | exact .inl rfl | exact .inl ⟨rfl, .inl rfl⟩
  · rw [lk_app, lk_app, h.len, h.len'] at u
    by_cases l : i < κ.length
    · rw [if_pos l, if_pos l] at u
      rw [List.getElem?_append_left l] at e
      rw [lk_app, lk_app, h.len, h.len']
      by_cases l2 : j < κ.length
      · rw [if_pos l2, if_pos l2]; exact h.na i j kd k hne e o u
      · rw [if_neg l2, if_neg l2, lk_rep]; exact not_us_same
    · rw [if_neg l, if_neg l, lk_rep] at u; exact (not_us_same u).elim
theorem us_none {k : Nat} : ¬ us none none k := not_us_same
theorem ownk_ext {κ κ2 : List Kd} {a a' : Ev} {n k : Nat} (l : a.length = κ.length) (l' : a'.length = κ.length) (h : ownk (κ ++ κ2) (a ++ List.replicate n none) (a' ++ List.replicate n none) k) : ownk κ a a' k := by
  obtain ⟨i, kd, e, o, u⟩ := h
  rw [lk_app, lk_app, l, l'] at u
  by_cases q : i < κ.length
  · rw [if_pos q, if_pos q] at u
    rw [List.getElem?_append_left q] at e
    exact ⟨i, kd, e, o, u⟩
  · rw [if_neg q, if_neg q, lk_rep] at u; exact (not_us_same u).elim
theorem SF.ext {κ κ2 : List Kd} {c : Cs} {a a' : Ev} {n : Nat} {S S1 : Sto} (l : a.length = κ.length) (l' : a'.length = κ.length) (h : SF (κ ++ κ2) c (a ++ List.replicate n none) (a' ++ List.replicate n none) S S1) : SF κ c a a' S S1 :=
  ⟨h.le, fun k q f o => h.eq k q f fun z => o (ownk_ext l l' z)⟩
theorem RR.ext {rk : RK} {κ κ2 : List Kd} {c : Cs} {a a' : Ev} {n : Nat} {S S1 : Sto} {v v' : Val} (l : a.length = κ.length) (l' : a'.length = κ.length) (hp : ∀ i, rk = .p i → i < κ.length) (h : RR rk (κ ++ κ2) c S (a ++ List.replicate n none) (a' ++ List.replicate n none) S1 v v') : RR rk κ c S a a' S1 v v' := by
  cases rk with
  | v => exact h
  | f =>
    obtain ⟨k, h1, h2, h3⟩ := h
    exact ⟨k, h1, h2.imp (ownk_ext l l') id, h3⟩
  | p i =>
    obtain ⟨k, u, h1, h2, h3, h4⟩ := h
    have hi := hp i rfl
    rw [List.getElem?_append_left hi] at h1
    rw [lk_app, l, if_pos hi] at h2
    exact ⟨k, u, h1, h2, h3, h4⟩
theorem map_len {vs : List Val} {κ : List Kd} (h : (vs.map some).length = κ.length) : vs.length = κ.length := by simpa using h
theorem lf_of {κ κ2 : List Kd} {N : Nat} {b b' : SM} (hN : N = κ.length + κ2.length) (h : LS (κ ++ κ2) .v b b') : LF κ .v (runB N b) (runB N b') := fun c Z S vs vs' er st => by
  have e2 : N - vs.length = κ2.length := by have := map_len er.len; omega
  have e3 : N - vs'.length = κ2.length := by have := map_len er.len'; omega
  unfold runB
  rw [e2, e3]
  have := h c Z S _ _ (er.ext (κ2 := κ2) rfl) st
  revert this
  cases b' (vs'.map some ++ List.replicate κ2.length none) Z with
  | st => intro _; trivial
  | nx ρ' Z1 => rintro ⟨ρ1, S1, c1, e, q⟩; rw [e]; exact ⟨_, S1, rfl, q.sf.ext er.len er.len', q.st.down q.cx, rfl⟩
  | rt v' Z1 => rintro ⟨v, S1, c1, e, sf, cx, s1, q⟩; rw [e]; exact ⟨_, S1, rfl, sf.ext er.len er.len', s1.down cx, q⟩
  | ex i es ρ' Z1 => rintro ⟨ρ1, S1, c1, e, q⟩; rw [e]; exact ⟨S1, rfl, q.sf.ext er.len er.len', q.st.down q.cx⟩
  | bk => intro _; trivial
  | ct => intro _; trivial
theorem VL.down {c c1 : Cs} {S S1 : Sto} {k : Nat} {u : Val} (x : CX c S c1) (h : VL c1 S1 k u) : VL c S1 k u := ⟨x.down h.1, h.2⟩
/-- .. a def that hands out a new object -/
theorem lf_ofF {κ κ2 : List Kd} {N : Nat} {b b' : SM} (hN : N = κ.length + κ2.length) (hb : ∀ ρ Z ρ' Z', b' ρ Z ≠ .nx ρ' Z') (h : LS (κ ++ κ2) .f b b') : LF κ .f (runB N b) (runB N b') := fun c Z S vs vs' er st => by
  have e2 : N - vs.length = κ2.length := by have := map_len er.len; omega
  have e3 : N - vs'.length = κ2.length := by have := map_len er.len'; omega
  unfold runB
  rw [e2, e3]
  have := h c Z S _ _ (er.ext (κ2 := κ2) rfl) st
  revert this
  cases e : b' (vs'.map some ++ List.replicate κ2.length none) Z with
  | st => intro _; trivial
  | nx ρ' Z1 => exact absurd e (hb _ _ _ _)
  | rt v' Z1 =>
    rintro ⟨v, S1, c1, e, sf, cx, s1, q⟩
    rw [e]
    obtain ⟨k, h1, h2, h3⟩ := q
    exact ⟨_, S1, rfl, sf.ext er.len er.len', s1.down cx, k, h1, h2.imp (ownk_ext er.len er.len') id, h3.down cx⟩
  | ex i es ρ' Z1 => rintro ⟨ρ1, S1, c1, e, q⟩; rw [e]; exact ⟨S1, rfl, q.sf.ext er.len er.len', q.st.down q.cx⟩
  | bk => intro _; trivial
  | ct => intro _; trivial
/-- .. a def that changes a parameter -/
theorem lf_ofP {κ κ2 : List Kd} {N i : Nat} {b b' : SM} (hN : N = κ.length + κ2.length) (hi : κ[i]? = some .p) (h : LS (κ ++ κ2) (.p i) b b') : LF κ (.p i) (runB N b) (runBP i N b') := fun c Z S vs vs' er st => by
  have e2 : N - vs.length = κ2.length := by have := map_len er.len; omega
  have e3 : N - vs'.length = κ2.length := by have := map_len er.len'; omega
  have il := get_lt hi
  unfold runB runBP
  rw [e2, e3]
  have := h c Z S _ _ (er.ext (κ2 := κ2) rfl) st
  revert this
  cases b' (vs'.map some ++ List.replicate κ2.length none) Z with
  | st => intro _; trivial
  | nx ρ' Z1 =>
    rintro ⟨ρ1, S1, c1, e, q⟩
    rw [e]
    have hi2 : (κ ++ κ2)[i]? = some .p := by rw [List.getElem?_append_left il]; exact hi
    have r := q.ev.rel i _ hi2
    dsimp only
    cases eu : lk ρ' i with
    | none => trivial
    | some u =>
      rw [eu] at r
      rcases r with ⟨r, _⟩ | ⟨k, w, r1, r2, r3⟩
      · cases r
      · cases r2
        have r4 := q.ef.pa i hi2
        rw [lk_app, er.len, if_pos il] at r4
        exact ⟨_, S1, rfl, q.sf.ext er.len er.len', q.st.down q.cx, k, _, hi, r4.symm.trans r1, rfl, r3.down q.cx⟩
  | rt v' Z1 =>
    rintro ⟨v, S1, c1, e, sf, cx, s1, k, u, q1, q2, q3, q4⟩
    rw [e]
    rw [lk_app, er.len, if_pos il] at q2
    exact ⟨_, S1, rfl, sf.ext er.len er.len', s1.down cx, k, u, hi, q2, q3, q4.down cx⟩
  | ex i es ρ' Z1 => rintro ⟨ρ1, S1, c1, e, q⟩; rw [e]; exact ⟨S1, rfl, q.sf.ext er.len er.len', q.st.down q.cx⟩
  | bk => intro _; trivial
  | ct => intro _; trivial
/-! ### arguments -/
inductive ArgR (c : Cs) (S : Sto) : List Kd → List Val → List Val → Prop
  | nil : ArgR c S [] [] []
  | cons {kd : Kd} {κ : List Kd} {v v' : Val} {vs vs' : List Val} : kd.own = false → SlR c S kd (some v) (some v') → ArgR c S κ vs vs' → ArgR c S (kd :: κ) (v :: vs) (v' :: vs')
theorem ArgR.mono {c : Cs} {Z S S1 : Sto} (s : St c Z S) (x : XF c S S1) : ∀ {κ : List Kd} {vs vs' : List Val}, ArgR c S κ vs vs' → ArgR c S1 κ vs vs'
  | _, _, _, .nil => .nil
  | _, _, _, .cons o a b => .cons o (a.mono s fun _ _ q => q.mono s x) (b.mono s x)
theorem ArgR.own {c : Cs} {S : Sto} : ∀ {κ : List Kd} {vs vs' : List Val}, ArgR c S κ vs vs' → ∀ (i : Nat) (kd : Kd), κ[i]? = some kd → kd.own = false
  | _, _, _, .nil, _, _, e => by simp at e
  | _, _, _, .cons o _ _, 0, _, e => by simp at e; subst e; exact o
  | _, _, _, .cons _ _ b, i + 1, _, e => b.own i _ (by simpa using e)
theorem ArgR.len {c : Cs} {S : Sto} : ∀ {κ : List Kd} {vs vs' : List Val}, ArgR c S κ vs vs' → vs.length = κ.length ∧ vs'.length = κ.length
  | _, _, _, .nil => ⟨rfl, rfl⟩
  | _, _, _, .cons _ _ b => ⟨congrArg (· + 1) b.len.1, congrArg (· + 1) b.len.2⟩
theorem ArgR.rel {c : Cs} {S : Sto} : ∀ {κ : List Kd} {vs vs' : List Val}, ArgR c S κ vs vs' → ∀ (i : Nat) (kd : Kd), κ[i]? = some kd → SlR c S kd (lk (vs.map some) i) (lk (vs'.map some) i)
  | _, _, _, .nil, _, _, e => by simp at e
  | _, _, _, .cons _ a _, 0, _, e => by simp at e; subst e; exact a
  | _, _, _, .cons _ _ b, i + 1, _, e => b.rel i _ (by simpa using e)
theorem ArgR.ev {c : Cs} {S : Sto} {κ : List Kd} {vs vs' : List Val} (h : ArgR c S κ vs vs') : EvR κ c S (vs.map some) (vs'.map some) :=
  ⟨by simp [h.len.1], by simp [h.len.2], h.rel, fun i j kd k _ e o _ => by rw [h.own i kd e] at o; cases o⟩
theorem ArgR.noown {c : Cs} {S : Sto} {κ : List Kd} {vs vs' : List Val} (h : ArgR c S κ vs vs') {a a' : Ev} {k : Nat} : ¬ ownk κ a a' k := fun ⟨i, kd, e, o, _⟩ => by rw [h.own i kd e] at o; cases o
theorem SF.xf {c : Cs} {S S1 : Sto} {κ : List Kd} {vs vs' : List Val} (h : ArgR c S κ vs vs') {a a' : Ev} (f : SF κ c a a' S S1) : XF c S S1 := ⟨f.le, fun k l q => f.eq k l q h.noown⟩
def RA (κp : List Kd) : RelK (List Val) (List Val) := fun c _ S vs vs' => ArgR c S κp vs vs'
section
variable {κ κp : List Kd} {e p : EM} {r r' : AM} {F G : FM} {n i c0 : Nat}
theorem lr_nil : LE (RA []) κ aNil aNil := fun c Z S ρ ρ' n er s hn => .ok s .nil
theorem lr_s (he : LE RV κ e p) (hr : LE (RA κp) κ r r') : LE (RA (.s :: κp)) κ (aCons e r) (aCons p r') := fun c Z S ρ ρ' n er s hn =>
  (he c Z S ρ ρ' n er s hn).bind fun v v' S1 Z1 x1 s1 q1 => (hr c Z1 S1 ρ ρ' n (er.mono s x1) s1 (Nat.le_trans hn x1.le)).bind fun w w' S2 Z2 x2 s2 q2 => by
    obtain rfl : v = v' := q1
    exact .ok s2 (.cons rfl rfl q2)
theorem VQ.slf {c : Cs} {S : Sto} {v v' : Val} (h : VQ c S v v') : SlR c S .f (some v) (some v') := by
  rcases h with rfl | ⟨k, rfl, h⟩
  · exact .inl rfl
  · exact .inr ⟨k, v', rfl, rfl, h⟩
theorem lr_f (he : LE RQ κ e p) (hr : LE (RA κp) κ r r') : LE (RA (.f :: κp)) κ (aCons e r) (aCons p r') := fun c Z S ρ ρ' n er s hn =>
  (he c Z S ρ ρ' n er s hn).bind fun v v' S1 Z1 x1 s1 q1 => (hr c Z1 S1 ρ ρ' n (er.mono s x1) s1 (Nat.le_trans hn x1.le)).bind fun w w' S2 Z2 x2 s2 q2 =>
    .ok s2 (.cons rfl (VQ.mono s1 x2 q1).slf q2)
/-- a cell -/
theorem lr_c (i : Nat) (hi : κ[i]? = some .c) (hr : LE (RA κp) κ r r') : LE (RA (.c :: κp)) κ (aCons (eVar i) r) (aCons (eVar i) r') := fun c Z S ρ ρ' n er s hn => by
  unfold aCons
  rw [eVar_lk, eVar_lk]
  have := er.rel i _ hi
  cases e : lk ρ' i with
  | none => trivial
  | some v' =>
    rcases this with ⟨h, _⟩ | ⟨j, k, e1, e2, h⟩
    · rw [e] at h; cases h
    · rw [e] at e2; cases e2
      rw [e1]
      show Sim c S n _ ((r ρ S).bind _) ((r' ρ' Z).bind _)
      exact (hr c Z S ρ ρ' n er s hn).bind fun w w' S2 Z2 x2 s2 q2 => .ok s2 (.cons rfl (.inr ⟨j, k, rfl, rfl, h⟩) q2)
/-- a call's answer -/
theorem lf_sim {c : Cs} {Z S : Sto} {m : Nat} {vs vs' : List Val} (h : LF κp .v F G) (a : ArgR c S κp vs vs') (s : St c Z S) : Sim c S m RV (F vs S) (G vs' Z) := by
  have := h c Z S vs vs' a.ev s
  revert this
  cases G vs' Z with
  | st => intro _; trivial
  | ok v' Z1 => rintro ⟨v, S1, e, sf, s1, q⟩; exact ⟨v, S1, e, sf.xf a, s1, q⟩
  | ex i es Z1 => rintro ⟨S1, e, sf, s1⟩; exact ⟨S1, e, sf.xf a, s1⟩
theorem lf_simF {c : Cs} {Z S : Sto} {m : Nat} {vs vs' : List Val} (h : LF κp .f F G) (a : ArgR c S κp vs vs') (s : St c Z S) (hm : m ≤ S.next) : Sim c S m RF (F vs S) (G vs' Z) := by
  have := h c Z S vs vs' a.ev s
  revert this
  cases G vs' Z with
  | st => intro _; trivial
  | ok v' Z1 =>
    rintro ⟨v, S1, e, sf, s1, k, rfl, q, q2⟩
    refine ⟨_, S1, e, sf.xf a, s1, k, rfl, ?_, q2⟩
    rcases q with q | q
    · exact (a.noown q).elim
    · exact Nat.le_trans hm q
  | ex i es Z1 => rintro ⟨S1, e, sf, s1⟩; exact ⟨S1, e, sf.xf a, s1⟩
theorem le_call (h : LF κp .v F G) (ha : LE (RA κp) κ r r') : LE RV κ (eCallN n F r) (eCallN n G r') := fun c Z S ρ ρ' m er s hn =>
  (ha c Z S ρ ρ' m er s hn).bind fun vs vs' S1 Z1 x1 s1 q1 => by
    by_cases l : vs'.length = n
    · rw [if_pos l, if_pos (by rw [q1.len.1, ← q1.len.2]; exact l)]; exact (lf_sim h q1 s1).noEx
    · rw [if_neg l]; trivial
theorem le_callX (h : LF κp .v F G) (ha : LE (RA κp) κ r r') : LE RV κ (eCallXN n F r) (eCallXN n G r') := fun c Z S ρ ρ' m er s hn =>
  (ha c Z S ρ ρ' m er s hn).bind fun vs vs' S1 Z1 x1 s1 q1 => by
    by_cases l : vs'.length = n
    · rw [if_pos l, if_pos (by rw [q1.len.1, ← q1.len.2]; exact l)]; exact lf_sim h q1 s1
    · rw [if_neg l]; trivial
theorem le_callF (h : LF κp .f F G) (ha : LE (RA κp) κ r r') : LE RF κ (eCallN n F r) (eCallN n G r') := fun c Z S ρ ρ' m er s hn =>
  (ha c Z S ρ ρ' m er s hn).bind fun vs vs' S1 Z1 x1 s1 q1 => by
    by_cases l : vs'.length = n
    · rw [if_pos l, if_pos (by rw [q1.len.1, ← q1.len.2]; exact l)]; exact (lf_simF h q1 s1 (Nat.le_trans hn x1.le)).noEx
    · rw [if_neg l]; trivial
theorem le_callXF (h : LF κp .f F G) (ha : LE (RA κp) κ r r') : LE RF κ (eCallXN n F r) (eCallXN n G r') := fun c Z S ρ ρ' m er s hn =>
  (ha c Z S ρ ρ' m er s hn).bind fun vs vs' S1 Z1 x1 s1 q1 => by
    by_cases l : vs'.length = n
    · rw [if_pos l, if_pos (by rw [q1.len.1, ← q1.len.2]; exact l)]; exact lf_simF h q1 s1 (Nat.le_trans hn x1.le)
    · rw [if_neg l]; trivial
/-! ### attributes, methods -/
def eAttrP (c i : Nat) (o : EM) : EM := fun ρ S => (o ρ S).bind fun v S1 => match insOf Z0 v with
  | some (c', vs) => if c' = c then vr vs[i]? S1 else .st
  | none => .st
theorem le_attr (ho : LE RQ κ e p) : LE RV κ (eAttr c0 i e) (eAttrP c0 i p) := fun c Z S ρ ρ' m er s hn =>
  (ho c Z S ρ ρ' m er s hn).bind fun v v' S1 Z1 x1 s1 q1 => by
    cases q : insOf Z0 v' with
    | none => trivial
    | some w =>
      obtain ⟨c', vs⟩ := w
      rw [ins_q q1 q]
      dsimp only
      by_cases hc : c' = c0
      · rw [if_pos hc, if_pos hc]
        cases vs[i]? with
        | none => trivial
        | some u => exact .ok s1 rfl
      · rw [if_neg hc, if_neg hc]; trivial
def eMethP (n c : Nat) (F : FM) (o : EM) (a : AM) : EM := fun ρ S => (o ρ S).bind fun v S1 => if isInst c Z0 v then (a ρ S1).bind fun vs S2 => if (v :: vs).length = n then noEx (F (v :: vs) S2) else .st else .st
def eMethXP (n c : Nat) (F : FM) (o : EM) (a : AM) : EM := fun ρ S => (o ρ S).bind fun v S1 => if isInst c Z0 v then (a ρ S1).bind fun vs S2 => if (v :: vs).length = n then F (v :: vs) S2 else .st else .st
theorem inst_q {c : Cs} {S : Sto} {v v' : Val} (h : VQ c S v v') (e : isInst c0 Z0 v' = true) : isInst c0 S v = true := by
  unfold isInst at e ⊢
  cases q : insOf Z0 v' with
  | none => rw [q] at e; cases e
  | some w => rw [ins_q h q]; rw [q] at e; exact e
theorem sim_guard {α β : Type} {c : Cs} {S : Sto} {m : Nat} {R : RelK α β} {b b' : Bool} {r : Res α} {r' : Res β} (h : b' = true → b = true) (q : Sim c S m R r r') : Sim c S m R (if b then r else .st) (if b' then r' else .st) := by
  cases b' with
  | false => trivial
  | true => rw [h rfl]; exact q
theorem le_meth (h : LF (.f :: κp) .v F G) (ho : LE RQ κ e p) (ha : LE (RA κp) κ r r') : LE RV κ (eMethN n c0 F e r) (eMethP n c0 G p r') := fun c Z S ρ ρ' m er s hn =>
  (ho c Z S ρ ρ' m er s hn).bind fun v v' S1 Z1 x1 s1 q1 => sim_guard (inst_q q1) <| (ha c Z1 S1 ρ ρ' m (er.mono s x1) s1 (Nat.le_trans hn x1.le)).bind fun vs vs' S2 Z2 x2 s2 q2 => by
    by_cases l : (v' :: vs').length = n
    · rw [if_pos l, if_pos (by rw [← l]; simp [q2.len.1, q2.len.2])]; exact (lf_sim h (.cons rfl (VQ.mono s1 x2 q1).slf q2) s2).noEx
    · rw [if_neg l]; trivial
theorem le_methX (h : LF (.f :: κp) .v F G) (ho : LE RQ κ e p) (ha : LE (RA κp) κ r r') : LE RV κ (eMethXN n c0 F e r) (eMethXP n c0 G p r') := fun c Z S ρ ρ' m er s hn =>
  (ho c Z S ρ ρ' m er s hn).bind fun v v' S1 Z1 x1 s1 q1 => sim_guard (inst_q q1) <| (ha c Z1 S1 ρ ρ' m (er.mono s x1) s1 (Nat.le_trans hn x1.le)).bind fun vs vs' S2 Z2 x2 s2 q2 => by
    by_cases l : (v' :: vs').length = n
    · rw [if_pos l, if_pos (by rw [← l]; simp [q2.len.1, q2.len.2])]; exact lf_sim h (.cons rfl (VQ.mono s1 x2 q1).slf q2) s2
    · rw [if_neg l]; trivial
theorem le_methF (h : LF (.f :: κp) .f F G) (ho : LE RQ κ e p) (ha : LE (RA κp) κ r r') : LE RF κ (eMethN n c0 F e r) (eMethP n c0 G p r') := fun c Z S ρ ρ' m er s hn =>
  (ho c Z S ρ ρ' m er s hn).bind fun v v' S1 Z1 x1 s1 q1 => sim_guard (inst_q q1) <| (ha c Z1 S1 ρ ρ' m (er.mono s x1) s1 (Nat.le_trans hn x1.le)).bind fun vs vs' S2 Z2 x2 s2 q2 => by
    by_cases l : (v' :: vs').length = n
    · rw [if_pos l, if_pos (by rw [← l]; simp [q2.len.1, q2.len.2])]; exact (lf_simF h (.cons rfl (VQ.mono s1 x2 q1).slf q2) s2 (Nat.le_trans hn (x1.trans x2).le)).noEx
    · rw [if_neg l]; trivial
theorem le_methXF (h : LF (.f :: κp) .f F G) (ho : LE RQ κ e p) (ha : LE (RA κp) κ r r') : LE RF κ (eMethXN n c0 F e r) (eMethXP n c0 G p r') := fun c Z S ρ ρ' m er s hn =>
  (ho c Z S ρ ρ' m er s hn).bind fun v v' S1 Z1 x1 s1 q1 => sim_guard (inst_q q1) <| (ha c Z1 S1 ρ ρ' m (er.mono s x1) s1 (Nat.le_trans hn x1.le)).bind fun vs vs' S2 Z2 x2 s2 q2 => by
    by_cases l : (v' :: vs').length = n
    · rw [if_pos l, if_pos (by rw [← l]; simp [q2.len.1, q2.len.2])]; exact lf_simF h (.cons rfl (VQ.mono s1 x2 q1).slf q2) s2 (Nat.le_trans hn (x1.trans x2).le)
    · rw [if_neg l]; trivial
/-! ### a new instance -/
def mkP (r : Res Val) : Res Val := match r with
  | .ok (.tup [.non, u]) Z => .ok u Z
  | .ok _ _ => .st
  | .ex c vs Z => .ex c vs Z
  | .st => .st
def eMakeP (n c : Nat) (G : FM) (a : AM) : EM := fun ρ S => (a ρ S).bind fun vs S1 => if vs.length + 1 = n then mkP (noEx (G (.ins c [] :: vs) S1)) else .st
def eMakeXP (n c : Nat) (G : FM) (a : AM) : EM := fun ρ S => (a ρ S).bind fun vs S1 => if vs.length + 1 = n then mkP (G (.ins c [] :: vs) S1) else .st
theorem mk_sim {c : Cs} {Z S : Sto} {m : Nat} {vs vs' : List Val} (h : LF (.p :: κp) (.p 0) F G) (a : ArgR c S κp vs vs') (s : St c Z S) (hm : m ≤ S.next) :
    Sim c S m RF ((F (.loc S.next :: vs) (S.alloc (.ins c0 []))).bind fun r S2 => match r with
      | .non => .ok (.loc S.next) S2
      | _ => .st) (mkP (G (.ins c0 [] :: vs') Z)) := by
  have fr : Free c S.next := fun p hp e => by
    obtain ⟨o, _, h⟩ := s.cr p hp
    have := s.wf _ _ h
    omega
  obtain ⟨_, _, e0, x, s1, k, e, _, vl⟩ := new_ok (o := .ins c0 []) (u := .ins c0 []) (n := S.next) s (Nat.le_refl _) rfl
  cases e0
  cases e
  have a1 := a.mono s x
  have ev : EvR (.p :: κp) c (S.alloc (.ins c0 [])) ((Val.loc S.next :: vs).map some) ((Val.ins c0 [] :: vs').map some) := by
    refine ⟨by simp [a.len.1], by simp [a.len.2], fun i kd e => ?_, fun i j kd k hne e o u => ?_⟩
    · cases i with
      | zero => simp at e; subst e; exact .inr ⟨_, _, rfl, rfl, vl⟩
      | succ i => exact a1.rel i kd (by simpa using e)
    · cases i with
      | zero =>
        cases j with
        | zero => exact absurd rfl hne
        | succ j =>
          intro u2
          obtain ⟨q, _⟩ := u
          cases q
          have := (a.ev.us_vl (j := j) u2).lt s
          omega
      | succ i => rw [a.own i kd (by simpa using e)] at o; cases o
  have := h c Z _ _ _ ev s1
  revert this
  have xf : ∀ {S2 : Sto}, SF (.p :: κp) c ((Val.loc S.next :: vs).map some) ((Val.ins c0 [] :: vs').map some) (S.alloc (.ins c0 [])) S2 → XF c S S2 := fun {S2} f =>
    ⟨Nat.le_trans x.le f.le, fun k l q => (f.eq k (Nat.lt_of_lt_of_le l x.le) q fun ⟨i, kd, e, o, u⟩ => by
      cases i with
      | zero =>
        obtain ⟨q, _⟩ := u
        cases q; omega
      | succ i => rw [a.own i kd (by simpa using e)] at o; cases o).trans (x.eq k l q)⟩
  cases G (.ins c0 [] :: vs') Z with
  | st => intro _; trivial
  | ex i es Z1 => rintro ⟨S1, e, sf, s1⟩; rw [e]; exact ⟨S1, rfl, xf sf, s1⟩
  | ok v' Z1 =>
    rintro ⟨v, S2, e, sf, s2, k, u, q1, q2, rfl, q3⟩
    rw [e]
    cases q2
    cases v with
    | non => exact ⟨_, S2, rfl, xf sf, s2, S.next, rfl, hm, q3⟩
    | _ => trivial
theorem noEx_bind {α β : Type} {r : Res α} {g : α → Sto → Res β} {c : Cs} {S : Sto} {m : Nat} {R : RelK β Val} {r' : Res Val} (h : Sim c S m R (r.bind g) (mkP r')) : Sim c S m R ((noEx r).bind g) (mkP (noEx r')) := by
  cases r' with
  | st => trivial
  | ex => trivial
  | ok v Z =>
    show Sim c S m R _ (mkP (.ok v Z))
    cases r with
    | ok => exact h
    | ex i es S1 =>
      revert h
      cases e : mkP (.ok v Z) with
      | st => intro _; trivial
      | ok => rintro ⟨_, _, h, _⟩; cases h
      | ex => unfold mkP at e; split at e <;> first | (cases e; done) | (rename_i q; cases q; done)
    | st => exact h
theorem le_make (h : LF (.p :: κp) (.p 0) F G) (ha : LE (RA κp) κ r r') : LE RF κ (eMakeN n c0 F r) (eMakeP n c0 G r') := fun c Z S ρ ρ' m er s hn =>
  (ha c Z S ρ ρ' m er s hn).bind fun vs vs' S1 Z1 x1 s1 q1 => by
    by_cases l : vs'.length + 1 = n
    · rw [if_pos l, if_pos (by rw [← l]; simp [q1.len.1, q1.len.2])]; exact noEx_bind (mk_sim h q1 s1 (Nat.le_trans hn x1.le))
    · rw [if_neg l]; trivial
theorem le_makeX (h : LF (.p :: κp) (.p 0) F G) (ha : LE (RA κp) κ r r') : LE RF κ (eMakeXN n c0 F r) (eMakeXP n c0 G r') := fun c Z S ρ ρ' m er s hn =>
  (ha c Z S ρ ρ' m er s hn).bind fun vs vs' S1 Z1 x1 s1 q1 => by
    by_cases l : vs'.length + 1 = n
    · rw [if_pos l, if_pos (by rw [← l]; simp [q1.len.1, q1.len.2])]; exact mk_sim h q1 s1 (Nat.le_trans hn x1.le)
    · rw [if_neg l]; trivial
/-- a new object handed out for good -/
theorem le_frz (h : LE RF κ e p) : LE RV κ (eFrz e) p := fun c Z S ρ ρ' m er s hn => by
  have := h c Z S ρ ρ' S.next er s (Nat.le_refl _)
  unfold eFrz
  revert this
  cases p ρ' Z with
  | st => intro _; trivial
  | ex i es Z1 => rintro ⟨S1, e, x, s1⟩; rw [e]; exact ⟨S1, rfl, x, s1⟩
  | ok v' Z1 =>
    rintro ⟨v, S1, e, x, s1, k, rfl, hk, q⟩
    rw [e]
    show Sim c S m RV (giveUp (.loc k) S1) _
    rw [giveUp_vl q]
    exact ⟨_, _, rfl, ⟨x.le, fun j l f => by rw [drop_ne (by omega)]; exact x.eq j l f⟩, s1.drop q.1, rfl⟩
/-! ### self.x = e -/
def sAttrP (c i j : Nat) (e : EM) : SM := fun ρ S => (e ρ S).toS ρ fun u S1 => match lk ρ j with
  | some (.ins c' vs) => if c' = c then (if i < vs.length then .nx (ρ.set j (some (.ins c (vs.set i u)))) S1 else if i = vs.length then .nx (ρ.set j (some (.ins c (vs ++ [u])))) S1 else .st) else .st
  | _ => .st
/-- an owned object changes -/
theorem own_put {κ : List Kd} {c : Cs} {Z S : Sto} {ρ ρ' : Ev} {rk : RK} {j k : Nat} {kd : Kd} {u' : Val} {o' : Ob} (er : EvR κ c S ρ ρ') (st : St c Z S) (hj : κ[j]? = some kd) (ho : kd.own = true) (e1 : lk ρ j = some (.loc k)) (hu : us (lk ρ j) (lk ρ' j) k) (h' : obV o' = some u') :
    SSim κ rk c S ρ ρ' (.nx ρ (S.put k o')) (.nx (ρ'.set j (some u')) Z) := by
  have vl := er.us_vl hu
  have kl := vl.lt st
  have l2 : j < ρ'.length := by rw [er.len']; exact get_lt hj
  have st' : St c Z (S.put k o') := by
    refine ⟨fun p hp => ?_, st.inj, fun q o h => ?_, st.wz⟩
    · obtain ⟨o, h1, h2⟩ := st.cr p hp
      exact ⟨o, h1, by rw [put_ne (vl.1 p hp)]; exact h2⟩
    · by_cases hq : q = k
      · rw [hq]; exact kl
      · rw [put_ne hq] at h; exact st.wf q o h
  have ur : us (lk ρ j) (lk (ρ'.set j (some u')) j) k := ⟨e1, u', lk_same l2, isO_of h'⟩
  have er' : EvR κ c (S.put k o') ρ (ρ'.set j (some u')) := by
    refine ⟨er.len, by rw [List.length_set]; exact er.len', fun i kd2 e => ?_, fun i i2 kd2 k2 hne e o q => ?_⟩
    · by_cases hi : j = i
      · subst hi
        rw [hj] at e; cases e
        rw [lk_same l2, e1]
        have : VL c (S.put k o') k u' := ⟨vl.1, o', put_at, h'⟩
        cases kd <;> first | (cases ho; done) | exact .inr ⟨k, u', rfl, rfl, this⟩
      · rw [lk_ne hi]
        have q := er.rel i kd2 e
        have keep : ∀ {k2 : Nat} {w : Val}, lk ρ i = some (.loc k2) → lk ρ' i = some w → VL c S k2 w → VL c (S.put k o') k2 w := fun a b ⟨f, o, h1, h2⟩ => ⟨f, o, by
          rw [put_ne fun z => ?_]; exact h1
          subst z
          exact er.na j i kd _ hi hj ho hu ⟨a, _, b, isO_of h2⟩, h2⟩
        cases kd2 with
        | s => exact q
        | c => exact q
        | f => rcases q with q | ⟨k2, w, a, b, q⟩
               · exact .inl q
               · exact .inr ⟨k2, w, a, b, keep a b q⟩
        | o => rcases q with q | ⟨k2, w, a, b, q⟩
               · exact .inl q
               · exact .inr ⟨k2, w, a, b, keep a b q⟩
        | p => rcases q with q | ⟨k2, w, a, b, q⟩
               · exact .inl q
               · exact .inr ⟨k2, w, a, b, keep a b q⟩
    · by_cases hi : j = i
      · subst hi
        obtain ⟨q1, _⟩ := q
        rw [e1] at q1; cases q1
        rw [lk_ne hne]; exact er.na j i2 kd k hne hj ho hu
      · rw [lk_ne hi] at q
        by_cases hi2 : j = i2
        · subst hi2
          intro q2
          obtain ⟨q3, _⟩ := q2
          rw [e1] at q3; cases q3
          exact er.na i j kd2 k hne e o q hu
        · rw [lk_ne hi2]; exact er.na i i2 kd2 k2 hne e o q
  refine ⟨ρ, _, c, rfl, ⟨Nat.le_refl _, fun q _ _ o => put_ne fun z => by subst z; exact o ⟨j, kd, hj, ho, hu⟩⟩, ⟨fun q ⟨i, kd2, e, o, h⟩ => ?_, fun _ _ => rfl⟩, .refl, st', er'⟩
  by_cases hi : j = i
  · subst hi
    obtain ⟨q1, _⟩ := h
    rw [e1] at q1; cases q1
    exact .inl ⟨j, kd, hj, ho, hu⟩
  · rw [lk_ne hi] at h; exact .inl ⟨i, kd2, e, o, h⟩
/-- what an owned slot holds -/
theorem own_at {κ : List Kd} {c : Cs} {S : Sto} {ρ ρ' : Ev} {j : Nat} {kd : Kd} {u : Val} (er : EvR κ c S ρ ρ') (hj : κ[j]? = some kd) (ho : kd.own = true) (e : lk ρ' j = some u) : ∃ k o, lk ρ j = some (.loc k) ∧ us (lk ρ j) (lk ρ' j) k ∧ S.objs k = some o ∧ obV o = some u := by
  have := er.rel j kd hj
  have q : ∃ k w, lk ρ j = some (.loc k) ∧ lk ρ' j = some w ∧ VL c S k w := by
    cases kd <;> first | (cases ho; done) | skip
    all_goals
      rcases this with ⟨h, _⟩ | h
      · rw [e] at h; cases h
      · exact h
  obtain ⟨k, w, h1, h2, _, o, h3, h4⟩ := q
  rw [e] at h2; cases h2
  exact ⟨k, o, h1, ⟨h1, u, e, isO_of h4⟩, h3, h4⟩
theorem ls_attr {rk : RK} {j : Nat} {kd : Kd} (hj : κ[j]? = some kd) (ho : kd.own = true) (h : LE RV κ e p) : LS κ rk (sAttr c0 i (eVar j) e) (sAttrP c0 i j p) := fun c Z S ρ ρ' er st =>
  .toS er st (h c Z S ρ ρ' S.next er st (Nat.le_refl _)) fun v v' S1 Z1 x s1 q => by
    obtain rfl : v = v' := q
    have er1 := er.mono st x
    rw [eVar_lk]
    cases eu : lk ρ' j with
    | none => trivial
    | some u =>
      obtain ⟨k, o, h1, h2, h3, h4⟩ := own_at er1 hj ho eu
      rw [h1]
      cases o with
      | lst xs => cases h4; trivial
      | dk l ks vs => cases l <;> cases h4; trivial
      | dt l ks vs => cases l <;> cases h4; trivial
      | ins c' vs =>
        cases h4
        dsimp only
        show SSim κ rk c S1 ρ ρ' (match S1.objs k with | some (.ins c' vs) => _ | _ => _) _
        rw [h3]
        dsimp only
        by_cases hc : c' = c0
        · rw [if_pos hc, if_pos hc]
          by_cases hi : i < vs.length
          · rw [if_pos hi, if_pos hi]; exact own_put er1 s1 hj ho h1 h2 rfl
          · rw [if_neg hi, if_neg hi]
            by_cases hi2 : i = vs.length
            · rw [if_pos hi2, if_pos hi2]; exact own_put er1 s1 hj ho h1 h2 rfl
            · rw [if_neg hi2, if_neg hi2]; trivial
        · rw [if_neg hc, if_neg hc]; trivial
/-! ### lists that this def owns -/
def lsP (o : Option Val) (f : List Val → SRes) : SRes := match o with
  | some (.lst xs) => f xs
  | _ => .st
def sAppP (j : Nat) (e : EM) : SM := fun ρ S => lsP (lk ρ j) fun xs => (e ρ S).toS ρ fun u S1 => if xs.length < sizeLine then .nx (ρ.set j (some (.lst (xs ++ [u])))) S1 else .st
/-- the receiver first: an owned list -/
theorem bm_own {κ : List Kd} {rk : RK} {c : Cs} {Z S : Sto} {ρ ρ' : Ev} {j : Nat} {kd : Kd} {op : Val → List Val → Sto → Res Val} {a : AM} {r' : SRes} (er : EvR κ c S ρ ρ') (st : St c Z S) (hj : κ[j]? = some kd) (ho : kd.own = true)
    (h : ∀ k xs, lk ρ j = some (.loc k) → us (lk ρ j) (lk ρ' j) k → lk ρ' j = some (.lst xs) → S.objs k = some (.lst xs) → SSim κ rk c S ρ ρ' (((a ρ S).bind fun vs S2 => op (.loc k) vs S2).toS ρ fun _ S1 => .nx ρ S1) r')
    (h0 : (∀ xs, lk ρ' j ≠ some (.lst xs)) → r' = .st) : SSim κ rk c S ρ ρ' (sDrop (eBM isLst op (eVar j) a) ρ S) r' := by
  by_cases hx : ∃ xs, lk ρ' j = some (.lst xs)
  · obtain ⟨xs, hx⟩ := hx
    obtain ⟨k, o, h1, h2, h3, h4⟩ := own_at er hj ho hx
    cases o with
    | lst ys =>
      cases h4
      have := h k xs h1 h2 hx h3
      unfold sDrop eBM
      rw [eVar_lk, h1]
      show SSim κ rk c S ρ ρ' ((if isLst (.loc k) S then _ else _ : Res Val).toS ρ _) r'
      rw [isLst_loc h3, if_pos rfl]
      exact this
    | dk l ks vs => cases l <;> cases h4
    | dt l ks vs => cases l <;> cases h4
    | ins c' vs => cases h4
  · rw [h0 fun xs e => hx ⟨xs, e⟩]; trivial
theorem xf_obj {c : Cs} {S S1 : Sto} {κ : List Kd} {ρ ρ' : Ev} {j k : Nat} {o : Ob} {Z : Sto} (er : EvR κ c S ρ ρ') (st : St c Z S) (x : XF c S S1) (u : us (lk ρ j) (lk ρ' j) k) (h : S.objs k = some o) : S1.objs k = some o := by
  have v := er.us_vl u
  rw [x.eq k (v.lt st) v.1]; exact h
theorem lsP_no {o : Option Val} {f : List Val → SRes} (h : ∀ xs, o ≠ some (.lst xs)) : lsP o f = .st := by
  cases o with
  | none => rfl
  | some v => cases v <;> first | rfl | exact absurd rfl (h _)
theorem toS1 {e : EM} {ρ : Ev} {S : Sto} {op : List Val → Sto → Res Val} {g : Val → Sto → SRes} : ((aCons e aNil ρ S).bind op).toS ρ g = (e ρ S).toS ρ fun u S1 => (op [u] S1).toS ρ g := by
  unfold aCons aNil
  cases e ρ S <;> rfl
theorem ls_app {rk : RK} {j : Nat} {kd : Kd} (hj : κ[j]? = some kd) (ho : kd.own = true) (h : LE RV κ e p) : LS κ rk (sDrop (eBM isLst vAppend (eVar j) (aCons e aNil))) (sAppP j p) := fun c Z S ρ ρ' er st => by
  refine bm_own er st hj ho (fun k xs h1 h2 h3 h4 => ?_) fun hn => lsP_no hn
  unfold sAppP
  rw [h3, toS1]
  refine .toS er st (h c Z S ρ ρ' S.next er st (Nat.le_refl _)) fun v v' S1 Z1 x s1 q => ?_
  obtain rfl : v = v' := q
  unfold vAppend
  dsimp only
  rw [xf_obj er st x h2 h4]
  dsimp only
  by_cases l : xs.length < sizeLine
  · rw [if_pos l, if_pos l]; exact own_put (er.mono st x) s1 hj ho h1 h2 rfl
  · rw [if_neg l, if_neg l]; trivial
def sExtP (j : Nat) (e : EM) : SM := fun ρ S => lsP (lk ρ j) fun xs => (e ρ S).toS ρ fun u S1 => lsP (some u) fun ys => if xs.length + ys.length ≤ sizeLine then .nx (ρ.set j (some (.lst (xs ++ ys)))) S1 else .st
theorem ls_ext {rk : RK} {j : Nat} {kd : Kd} (hj : κ[j]? = some kd) (ho : kd.own = true) (h : LE RQ κ e p) : LS κ rk (sDrop (eBM isLst vExtend (eVar j) (aCons e aNil))) (sExtP j p) := fun c Z S ρ ρ' er st => by
  refine bm_own er st hj ho (fun k xs h1 h2 h3 h4 => ?_) fun hn => lsP_no hn
  unfold sExtP
  rw [h3, toS1]
  refine .toS er st (h c Z S ρ ρ' S.next er st (Nat.le_refl _)) fun v v' S1 Z1 x s1 q => ?_
  unfold vExtend
  dsimp only
  rw [xf_obj er st x h2 h4]
  cases v' with
  | lst ys =>
    have : mlstOf S1 v = some ys := mlst_q q rfl
    rw [this]
    dsimp only
    show SSim κ rk c S1 ρ ρ' _ (if xs.length + ys.length ≤ sizeLine then _ else _)
    by_cases l : xs.length + ys.length ≤ sizeLine
    · rw [if_pos l, if_pos l]; exact own_put (er.mono st x) s1 hj ho h1 h2 rfl
    · rw [if_neg l, if_neg l]; trivial
  | _ => trivial
/-- x[i] = e -/
def sSetIxP (j : Nat) (i e : EM) : SM := fun ρ S => (e ρ S).toS ρ fun u S1 => lsP (lk ρ j) fun xs => (i ρ S1).toS ρ fun w S2 => match w with
  | .int m => (match ixN xs.length m with
    | some n => .nx (ρ.set j (some (.lst (xs.set n u)))) S2
    | none => .st)
  | _ => .st
theorem ls_setIx {rk : RK} {j : Nat} {kd : Kd} {ie ip : EM} (hj : κ[j]? = some kd) (ho : kd.own = true) (hi : LE RV κ ie ip) (h : LE RV κ e p) : LS κ rk (sSetIx (eVar j) ie e) (sSetIxP j ip p) := fun c Z S ρ ρ' er st =>
  .toS er st (h c Z S ρ ρ' S.next er st (Nat.le_refl _)) fun v v' S1 Z1 x s1 q => by
    obtain rfl : v = v' := q
    have er1 := er.mono st x
    rw [eVar_lk]
    by_cases hx : ∃ xs, lk ρ' j = some (.lst xs)
    · obtain ⟨xs, hx⟩ := hx
      obtain ⟨k, o, h1, h2, h3, h4⟩ := own_at er1 hj ho hx
      cases o with
      | lst ys =>
        cases h4
        rw [h1, hx]
        show SSim κ rk c S1 ρ ρ' ((ie ρ S1).toS ρ _) ((ip ρ' Z1).toS ρ' _)
        refine .toS er1 s1 (hi c Z1 S1 ρ ρ' S1.next er1 s1 (Nat.le_refl _)) fun w w' S2 Z2 x2 s2 q2 => ?_
        obtain rfl : w = w' := q2
        have er2 := er1.mono s1 x2
        cases w with
        | int m =>
          unfold setIx
          dsimp only
          rw [xf_obj er1 s1 x2 h2 h3]
          dsimp only
          cases ixN xs.length m with
          | none => trivial
          | some n => exact own_put er2 s2 hj ho h1 h2 rfl
        | _ => trivial
      | dk l ks vs => cases l <;> cases h4
      | dt l ks vs => cases l <;> cases h4
      | ins c' vs => cases h4
    · rw [lsP_no fun xs z => hx ⟨xs, z⟩]; trivial
/-! ### cells -/
/-- x = [..], a cell -/
def sCell (i : Nat) (e : EM) : SM := fun ρ S => (e ρ S).toS ρ fun v S1 => lsP (some v) fun xs => .nx (ρ.set i (some (.loc S1.next))) (S1.alloc (.lst xs))
theorem ls_cell {rk : RK} (i : Nat) (hi : κ[i]? = some .c) (h : LE RF κ e p) : LS κ rk (sSet i e) (sCell i p) := fun c Z S ρ ρ' er st => by
  have := h c Z S ρ ρ' S.next er st (Nat.le_refl _)
  unfold sSet sCell
  revert this
  cases p ρ' Z with
  | st => intro _; trivial
  | ex j vs Z1 => rintro ⟨S1, e2, x, s1⟩; rw [e2]; exact ⟨ρ, S1, c, rfl, .ofX er st x s1⟩
  | ok v' Z1 =>
    rintro ⟨v, S1, e2, x, s1, k, rfl, hk, f, o, h1, h2⟩
    rw [e2]
    cases v' with
    | lst xs =>
      cases o with
      | lst ys =>
        cases h2
        have kl := s1.wf _ _ h1
        have er1 := er.mono st x
        have cx : CX c S ((Z1.next, k) :: c) := ⟨[(Z1.next, k)], rfl, fun p hp => by rw [List.mem_singleton.mp hp]; exact hk⟩
        have l1 : i < ρ.length := by rw [er.len]; exact get_lt hi
        have l2 : i < ρ'.length := by rw [er.len']; exact get_lt hi
        have nk : ∀ {k2 : Nat} {w : Val}, VL c S k2 w → VL ((Z1.next, k) :: c) S1 k2 w := fun {k2 w} vl => by
          have l := vl.lt st
          have vm := vl.mono st x
          refine ⟨fun p hp => ?_, vm.2⟩
          rcases List.mem_cons.mp hp with rfl | hp
          · show k ≠ k2; omega
          · exact vm.1 p hp
        refine ⟨_, S1, _, rfl, x.sf, ?_, cx, ⟨fun p hp => ?_, fun p hp q hq => ?_, s1.wf, fun j o h => ?_⟩, ?_⟩
        · refine ⟨fun k2 ⟨j, kd, e, o, q⟩ => ?_, fun j e => ?_⟩
          · have : i ≠ j := fun h => by subst h; rw [hi] at e; cases e; cases o
            rw [lk_ne this, lk_ne this] at q
            exact .inl ⟨j, kd, e, o, q⟩
          · have : i ≠ j := fun h => by subst h; rw [hi] at e; cases e
            exact lk_ne this
        · rcases List.mem_cons.mp hp with rfl | hp
          · exact ⟨_, alloc_at, h1⟩
          · obtain ⟨o, a1, a2⟩ := s1.cr p hp
            exact ⟨o, by rw [alloc_ne (Nat.ne_of_lt (s1.wz _ _ a1))]; exact a1, a2⟩
        · have old : ∀ p ∈ c, p.1 ≠ Z1.next ∧ p.2 ≠ k := fun p hp => by
            obtain ⟨o, a1, a2⟩ := s1.cr p hp
            exact ⟨Nat.ne_of_lt (s1.wz _ _ a1), f p hp⟩
          rcases List.mem_cons.mp hp with rfl | hp <;> rcases List.mem_cons.mp hq with rfl | hq
          · exact ⟨fun _ => rfl, fun _ => rfl⟩
          · exact ⟨fun z => absurd z.symm (old q hq).1, fun z => absurd z.symm (old q hq).2⟩
          · exact ⟨fun z => absurd z (old p hp).1, fun z => absurd z (old p hp).2⟩
          · exact s1.inj p hp q hq
        · by_cases hj : j = Z1.next
          · rw [hj]; exact Nat.lt_succ_self _
          · rw [alloc_ne hj] at h; exact Nat.lt_succ_of_lt (s1.wz j o h)
        · refine ⟨by rw [List.length_set]; exact er.len, by rw [List.length_set]; exact er.len', fun j kd e => ?_, fun j j2 kd k2 hne e o q => ?_⟩
          · by_cases hj : i = j
            · subst hj
              rw [hi] at e; cases e
              rw [lk_same l1, lk_same l2]
              exact .inr ⟨_, _, rfl, rfl, List.mem_cons_self⟩
            · rw [lk_ne hj, lk_ne hj]
              have q := er.rel j kd e
              cases kd with
              | s => exact q
              | c => rcases q with q | ⟨a, b, q1, q2, q3⟩
                     · exact .inl q
                     · exact .inr ⟨a, b, q1, q2, List.mem_cons_of_mem _ q3⟩
              | f => rcases q with q | ⟨k2, w, a, b, q⟩
                     · exact .inl q
                     · exact .inr ⟨k2, w, a, b, nk q⟩
              | o => rcases q with q | ⟨k2, w, a, b, q⟩
                     · exact .inl q
                     · exact .inr ⟨k2, w, a, b, nk q⟩
              | p => rcases q with q | ⟨k2, w, a, b, q⟩
                     · exact .inl q
                     · exact .inr ⟨k2, w, a, b, nk q⟩
          · by_cases hj : i = j
            · subst hj; rw [hi] at e; cases e; cases o
            · rw [lk_ne hj, lk_ne hj] at q
              by_cases h2 : i = j2
              · subst h2
                rw [lk_same l1, lk_same l2]
                rintro ⟨_, u, z, z2⟩
                cases z; cases z2
              · rw [lk_ne h2, lk_ne h2]; exact er.na j j2 kd k2 hne e o q
      | dk l ks vs => cases l <;> cases h2
      | dt l ks vs => cases l <;> cases h2
      | ins c' vs => cases h2
    | _ => trivial
/-- reading a cell -/
theorem cell_at {c : Cs} {Z S : Sto} {ρ ρ' : Ev} {i : Nat} {v : Val} (er : EvR κ c S ρ ρ') (st : St c Z S) (hi : κ[i]? = some .c) (e : lk ρ' i = some v) : ∃ j k o, v = .loc j ∧ lk ρ i = some (.loc k) ∧ (j, k) ∈ c ∧ Z.objs j = some o ∧ S.objs k = some o := by
  rcases er.rel i _ hi with ⟨h, _⟩ | ⟨j, k, e1, e2, h⟩
  · rw [e] at h; cases h
  · rw [e] at e2; cases e2
    obtain ⟨o, h1, h2⟩ := st.cr _ h
    exact ⟨j, k, o, rfl, e1, h, h1, h2⟩
theorem le_ixC (i : Nat) (hi : κ[i]? = some .c) (h : LE RV κ e p) : LE RV κ (eBin vIx (eVar i) e) (eBin vIx (eVar i) p) := fun c Z S ρ ρ' n er st hn => by
  unfold eBin
  rw [eVar_lk, eVar_lk]
  cases ev : lk ρ' i with
  | none => trivial
  | some v =>
    obtain ⟨j, k, o, rfl, h1, h2, h3, h4⟩ := cell_at er st hi ev
    rw [h1]
    show Sim c S n RV ((e ρ S).bind _) ((p ρ' Z).bind _)
    refine (h c Z S ρ ρ' n er st hn).bind fun w w' S1 Z1 x s1 q => ?_
    obtain rfl : w = w' := q
    obtain ⟨o, a1, a2⟩ := s1.cr _ h2
    cases w with
    | int m =>
      cases o with
      | lst xs =>
        have e1 : vIx (.loc k) (.int m) S1 = vr (atI xs m) S1 := v_ix_loc a2
        have e2 : vIx (.loc j) (.int m) Z1 = vr (atI xs m) Z1 := v_ix_loc a1
        rw [e1, e2]
        cases atI xs m with
        | none => trivial
        | some u => exact .ok s1 rfl
      | _ =>
        have : vIx (.loc j) (.int m) Z1 = .st := by unfold vIx lstOf; simp only [a1]
        rw [this]; trivial
    | _ => trivial
/-- .. and writing -/
theorem ls_setIxC {rk : RK} {i : Nat} {ie ip : EM} (hi : κ[i]? = some .c) (hie : LE RV κ ie ip) (h : LE RV κ e p) : LS κ rk (sSetIx (eVar i) ie e) (sSetIx (eVar i) ip p) := fun c Z S ρ ρ' er st =>
  .toS er st (h c Z S ρ ρ' S.next er st (Nat.le_refl _)) fun v v' S1 Z1 x s1 q => by
    obtain rfl : v = v' := q
    have er1 := er.mono st x
    rw [eVar_lk, eVar_lk]
    cases ev : lk ρ' i with
    | none => trivial
    | some u =>
      obtain ⟨j, k, o, rfl, h1, h2, h3, h4⟩ := cell_at er1 s1 hi ev
      rw [h1]
      show SSim κ rk c S1 ρ ρ' ((ie ρ S1).toS ρ _) ((ip ρ' Z1).toS ρ' _)
      refine .toS er1 s1 (hie c Z1 S1 ρ ρ' S1.next er1 s1 (Nat.le_refl _)) fun w w' S2 Z2 x2 s2 q2 => ?_
      obtain rfl : w = w' := q2
      have er2 := er1.mono s1 x2
      obtain ⟨o, a1, a2⟩ := s2.cr _ h2
      cases w with
      | int m =>
        cases o with
        | lst xs =>
          unfold setIx
          dsimp only
          rw [a1, a2]
          dsimp only
          cases ixN xs.length m with
          | none => trivial
          | some n =>
            have kl := s2.wf _ _ a2
            have jl := s2.wz _ _ a1
            have inj : ∀ p ∈ c, (p.1 = j ↔ p.2 = k) := fun p hp => s2.inj p hp _ h2
            refine ⟨ρ, _, c, rfl, ⟨Nat.le_refl _, fun q _ f _ => put_ne fun z => f _ h2 z.symm⟩, .refl, .refl, ⟨fun p hp => ?_, s2.inj, fun q o h => ?_, fun q o h => ?_⟩, ⟨er2.len, er2.len', fun l kd e => ?_, er2.na⟩⟩
            · by_cases hk : p.2 = k
              · rw [hk, (inj p hp).mpr hk]; exact ⟨_, put_at, put_at⟩
              · obtain ⟨o, b1, b2⟩ := s2.cr p hp
                exact ⟨o, by rw [put_ne fun z => hk ((inj p hp).mp z)]; exact b1, by rw [put_ne hk]; exact b2⟩
            · by_cases hq : q = k
              · rw [hq]; exact kl
              · rw [put_ne hq] at h; exact s2.wf q o h
            · by_cases hq : q = j
              · rw [hq]; exact jl
              · rw [put_ne hq] at h; exact s2.wz q o h
            · exact (er2.rel l kd e).mono s2 fun k2 u ⟨f, o, b1, b2⟩ => ⟨f, o, by rw [put_ne fun z => f _ h2 z.symm]; exact b1, b2⟩
        | _ =>
          have : setIx (.loc j) (.int m) v Z2 = none := by unfold setIx; simp only [a1]
          rw [this]; trivial
      | _ => trivial
end
end PM

/-! PP, part e: comprehensions, what is walked, try -/
namespace PM
open PySem PySem.Spec L2
def RIe : RelK ItV (List Val) := fun c _ S iv xs => iv.items = xs ∧ ((∀ S', iv.src S') ∨ ∃ k o, k < S.next ∧ Free c k ∧ S.objs k = some o ∧ ∀ S', S'.objs k = some o → iv.src S')
def LIe (κ : List Kd) (it : IM) (ip : IP) : Prop := LE RIe κ it ip
section
variable {κ : List Kd} {it : IM} {ip : IP} {e p a b pa pb : EM}
theorem LI.le (h : LI κ it ip) : LIe κ it ip := fun c Z S ρ ρ' n er s hn => by
  have := h c Z S ρ ρ' er s
  revert this
  cases ip ρ' Z with
  | st => intro _; trivial
  | ex i es Z1 => exact id
  | ok xs Z1 =>
    rintro ⟨v, S1, e, x, s1, q1, q2⟩
    refine ⟨v, S1, e, x, s1, q1, ?_⟩
    rcases q2 with q | ⟨k, o, a, b, _, d, f⟩
    · exact .inl q
    · exact .inr ⟨k, o, a, b, d, f⟩
/-- a variable: a list lent or owned -/
theorem lie_var (i : Nat) {kd : Kd} (hi : κ[i]? = some kd) (hk : kd ≠ .c) : LIe κ (iSeq (eVar i)) (iSeqP (eVar i)) := fun c Z S ρ ρ' n er st hn =>
  (le_varQ i hi hk c Z S ρ ρ' n er st hn).bind fun v v' S1 Z1 x s1 q => by
    cases q' : itemsP v' with
    | none => trivial
    | some xs =>
      rcases q with rfl | ⟨k, rfl, f, o, h1, h2⟩
      · cases v <;> first | (cases q'; exact .ok s1 ⟨rfl, .inl fun _ => trivial⟩) | (cases q'; done)
      · cases o with
        | lst ys =>
          cases h2; cases q'
          unfold seqIt
          dsimp only
          rw [h1]
          exact .ok s1 ⟨rfl, .inr ⟨k, _, s1.wf _ _ h1, f, h1, fun _ h => h⟩⟩
        | dk l ks vs => cases l <;> cases h2 <;> cases q'
        | dt l ks vs => cases l <;> cases h2 <;> cases q'
        | ins c' vs => cases h2; cases q'
def iRange1P (a : EM) : IP := fun ρ S => (a ρ S).bind fun v S1 => match v with
  | .int j => if -4611686018427387904 ≤ j ∧ j < 4611686018427387904 then .ok (rangeL 0 j.toNat) S1 else .st
  | _ => .st
def iRange2P (a b : EM) : IP := fun ρ S => (a ρ S).bind fun v S1 => (b ρ S1).bind fun w S2 => match v, w with
  | .int i, .int j => if -4611686018427387904 ≤ i ∧ i < 4611686018427387904 ∧ -4611686018427387904 ≤ j ∧ j < 4611686018427387904 then .ok (rangeL i (j - i).toNat) S2 else .st
  | _, _ => .st
theorem li_range1 (h : LE RV κ a pa) : LI κ (iRange1 a) (iRange1P pa) := fun c Z S ρ ρ' er st => (h c Z S ρ ρ' S.next er st (Nat.le_refl _)).bind fun v v' S1 Z1 x s1 q => by
  obtain rfl : v = v' := q
  cases v with
  | int j =>
    dsimp only
    rw [p62]
    by_cases l : -4611686018427387904 ≤ j ∧ j < 4611686018427387904
    · rw [if_pos l, if_pos l]; exact .ok s1 ⟨rfl, .inl fun _ => trivial⟩
    · rw [if_neg l, if_neg l]; trivial
  | _ => trivial
theorem li_range2 (h : LE RV κ a pa) (h2 : LE RV κ b pb) : LI κ (iRange2 a b) (iRange2P pa pb) := fun c Z S ρ ρ' er st => (h c Z S ρ ρ' S.next er st (Nat.le_refl _)).bind fun v v' S1 Z1 x s1 q =>
  (h2 c Z1 S1 ρ ρ' S.next (er.mono st x) s1 x.le).bind fun w w' S2 Z2 x2 s2 q2 => by
    obtain rfl : v = v' := q
    obtain rfl : w = w' := q2
    cases v <;> first | trivial | skip
    cases w <;> first | trivial | skip
    rename_i i j
    dsimp only
    rw [p62]
    by_cases l : -4611686018427387904 ≤ i ∧ i < 4611686018427387904 ∧ -4611686018427387904 ≤ j ∧ j < 4611686018427387904
    · rw [if_pos l, if_pos l]; exact .ok s2 ⟨rfl, .inl fun _ => trivial⟩
    · rw [if_neg l, if_neg l]; trivial
/-- from the end -/
def revP (v : Val) : Option (List Val) := match v with
  | .lst xs => some xs.reverse | .fz xs => some xs.reverse | _ => none
def iRevP (f : EM) : IP := fun ρ S => (f ρ S).bind fun v S1 => match revP v with
  | some xs => .ok xs S1
  | none => .st
theorem li_rev (h : LE RV κ e p) : LI κ (PM.iRev e) (iRevP p) := fun c Z S ρ ρ' er st => (h c Z S ρ ρ' S.next er st (Nat.le_refl _)).bind fun v v' S1 Z1 x s1 q => by
  obtain rfl : v = v' := q
  cases v <;> first | (exact .ok s1 ⟨rfl, .inl fun _ => trivial⟩) | trivial
def enumP (v : Val) : Option (List Val) := match v with
  | .lst xs => some (zipE xs) | .fz xs => some (zipE xs) | _ => none
def iEnumP (f : EM) : IP := fun ρ S => (f ρ S).bind fun v S1 => match enumP v with
  | some xs => .ok xs S1
  | none => .st
theorem li_enum (h : LE RV κ e p) : LI κ (iEnumM e) (iEnumP p) := fun c Z S ρ ρ' er st => (h c Z S ρ ρ' S.next er st (Nat.le_refl _)).bind fun v v' S1 Z1 x s1 q => by
  obtain rfl : v = v' := q
  cases v <;> first | (exact .ok s1 ⟨rfl, .inl fun _ => trivial⟩) | trivial
/-! ### list comprehensions -/
def lcGoP (tg : Tgt) (tst : BM) (elt : EM) (ρ0 : Ev) : List Val → Sto → Res (List Val)
  | [], S => .ok [] S
  | v :: vs, S => match tg.set v ρ0 with
    | some ρ1 => (noEx (tst ρ1 S)).bind fun k S1 => if k then (noEx (elt ρ1 S1)).bind fun u S2 => (lcGoP tg tst elt ρ0 vs S2).bind fun us S3 => .ok (u :: us) S3 else lcGoP tg tst elt ρ0 vs S1
    | none => .st
def eLcP (it : IP) (tg : Tgt) (tst : BM) (elt : EM) (ws : List Nat) : EM := fun ρ S => (it ρ S).bind fun xs S1 => (lcGoP tg tst elt (wipeE ρ ws) xs S1).bind fun us S2 => if us.length ≤ sizeLine then .ok (.lst us) S2 else .st
theorem EvR.wipe {c : Cs} {S : Sto} {ρ ρ' : Ev} (er : EvR κ c S ρ ρ') : ∀ {ws : List Nat}, (∀ i ∈ ws, κ[i]? = some .s) → EvR κ c S (wipeE ρ ws) (wipeE ρ' ws)
  | [], _ => er
  | w :: ws, h => (er.wipe (ws := ws) fun i hi => h i (List.mem_cons_of_mem _ hi)).set_s (h w List.mem_cons_self) none
variable {tg : Tgt} {tst tst' : BM} {elt elt' : EM} {ws : List Nat}
theorem noEx_ok {α : Type} {r : Res α} {a : α} {S : Sto} (h : noEx r = .ok a S) : r = .ok a S := by
  cases r <;> cases h; rfl
theorem bind_ok {α β : Type} {r : Res α} {g : α → Sto → Res β} {b : β} {S : Sto} (h : r.bind g = .ok b S) : ∃ a S1, r = .ok a S1 ∧ g a S1 = .ok b S := by
  cases r with
  | ok a S1 => exact ⟨a, S1, rfl, h⟩
  | ex => cases h
  | st => cases h
theorem XF.putN {c : Cs} {S0 S : Sto} {n0 : Nat} {o : Ob} (x : XF c S0 S) (h : S0.next ≤ n0) : XF c S0 (S.put n0 o) := ⟨x.le, fun k l f => by rw [put_ne (by omega)]; exact x.eq k l f⟩
theorem St.putN {c : Cs} {Z S : Sto} {n0 : Nat} {o : Ob} (s : St c Z S) (f : Free c n0) (l : n0 < S.next) : St c Z (S.put n0 o) := by
  refine ⟨fun p hp => ?_, s.inj, fun q o' h => ?_, s.wz⟩
  · obtain ⟨o', h1, h2⟩ := s.cr p hp
    exact ⟨o', h1, by rw [put_ne (f p hp)]; exact h2⟩
  · by_cases hq : q = n0
    · rw [hq]; exact l
    · rw [put_ne hq] at h; exact s.wf q o' h
theorem lcGo_ok (ht : allS κ tg.slots = true) (h1 : LE RV κ tst tst') (h2 : LE RV κ elt elt') {c : Cs} {Za S0 : Sto} {ρ0 ρ0' : Ev} {n0 : Nat} {src : Sto → Prop} (s0 : St c Za S0) (er : EvR κ c S0 ρ0 ρ0') (hn : S0.next ≤ n0) (f0 : Free c n0)
    (hs : (∀ S', src S') ∨ ∃ k o, k < S0.next ∧ Free c k ∧ S0.objs k = some o ∧ ∀ S', S'.objs k = some o → src S') :
    ∀ {vs : List Val} {acc us : List Val} {Z S Z1 : Sto}, XF c S0 S → St c Z S → n0 < S.next → S.objs n0 = some (.lst acc) → lcGoP tg tst' elt' ρ0' vs Z = .ok us Z1 → acc.length + us.length ≤ sizeLine →
      ∃ S1, lcGo src tg tst elt n0 ρ0 vs S = .ok () S1 ∧ XF c S0 S1 ∧ St c Z1 S1 ∧ n0 < S1.next ∧ S1.objs n0 = some (.lst (acc ++ us))
  | [], acc, us, Z, S, Z1, x, s, l, o, e, _ => by
    unfold lcGoP at e
    cases e
    unfold lcGo
    have : src S := by
      rcases hs with hs | ⟨k, ob, a, b, d, q⟩
      · exact hs S
      · exact q S ((x.eq k a b).trans d)
    rw [if_pos this]
    exact ⟨S, rfl, x, s, l, by rw [List.append_nil]; exact o⟩
  | v :: vs, acc, us, Z, S, Z1, x, s, l, o, e, hl => by
    unfold lcGoP at e
    unfold lcGo
    have : src S := by
      rcases hs with hs | ⟨k, ob, a, b, d, q⟩
      · exact hs S
      · exact q S ((x.eq k a b).trans d)
    rw [if_pos this]
    cases q : tg.set v ρ0' with
    | none => rw [q] at e; cases e
    | some ρ1' =>
      rw [q] at e
      obtain ⟨ρ1, t1, t2, _⟩ := tgt_ok (allS_ok ht) er q
      rw [t1]
      dsimp only at e ⊢
      obtain ⟨k, Z2, e1, e⟩ := bind_ok e
      have q1 := h1 c Z S ρ1 ρ1' S.next (t2.mono s0 x) s (Nat.le_refl _)
      rw [noEx_ok e1] at q1
      obtain ⟨k2, S2, r1, x2, s2, rfl⟩ := q1
      rw [r1]
      show ∃ S1, (if k2 = true then _ else _ : Res Unit) = _ ∧ _
      have o2 : S2.objs n0 = some (.lst acc) := (x2.eq n0 l f0).trans o
      have l2 := Nat.lt_of_lt_of_le l x2.le
      cases k2 with
      | false =>
        rw [if_neg Bool.false_ne_true] at e ⊢
        exact lcGo_ok ht h1 h2 s0 er hn f0 hs (x.trans x2) s2 l2 o2 e hl
      | true =>
        rw [if_pos rfl] at e ⊢
        obtain ⟨u, Z3, e2, e⟩ := bind_ok e
        obtain ⟨us2, Z4, e3, e4⟩ := bind_ok e
        cases e4
        have q2 := h2 c Z2 S2 ρ1 ρ1' S2.next (t2.mono s0 (x.trans x2)) s2 (Nat.le_refl _)
        rw [noEx_ok e2] at q2
        obtain ⟨u2, S3, r2, x3, s3, rfl⟩ := q2
        rw [r2]
        have o3 : S3.objs n0 = some (.lst acc) := (x3.eq n0 l2 f0).trans o2
        have l3 := Nat.lt_of_lt_of_le l2 x3.le
        show ∃ S1, (match S3.objs n0 with | some (.lst acc) => _ | _ => _ : Res Unit) = _ ∧ _
        rw [o3]
        dsimp only
        simp only [List.length_cons] at hl
        rw [if_pos (by omega)]
        have := lcGo_ok ht h1 h2 s0 er hn f0 hs (acc := acc ++ [u2]) (((x.trans x2).trans x3).putN hn) (s3.putN f0 l3) l3 put_at e3 (by simp; omega)
        obtain ⟨S4, a1, a2, a3, a4, a5⟩ := this
        exact ⟨S4, a1, a2, a3, a4, by rw [a5, List.append_assoc]; rfl⟩
theorem fresh_free {c : Cs} {Z S : Sto} (s : St c Z S) : Free c S.next := fun p hp e => by
  obtain ⟨o, _, h⟩ := s.cr p hp
  have := s.wf _ _ h
  omega
theorem St.al {c : Cs} {Z S : Sto} {o : Ob} (s : St c Z S) : XF c S (S.alloc o) ∧ St c Z (S.alloc o) := by
  refine ⟨⟨Nat.le_succ _, fun k hk _ => alloc_ne (Nat.ne_of_lt hk)⟩, fun p hp => ?_, s.inj, fun k o' h => ?_, s.wz⟩
  · obtain ⟨o', h1, h2⟩ := s.cr p hp
    exact ⟨o', h1, by rw [alloc_ne (Nat.ne_of_lt (s.wf _ _ h2))]; exact h2⟩
  · by_cases hk : k = S.next
    · rw [hk]; exact Nat.lt_succ_self _
    · rw [alloc_ne hk] at h; exact Nat.lt_succ_of_lt (s.wf _ _ h)
theorem noEx_nx {α : Type} {r : Res α} {i : Nat} {es : List Val} {Z : Sto} : noEx r ≠ .ex i es Z := by
  cases r <;> intro h <;> cases h
theorem lcGoP_nx {ρ0 : Ev} {i : Nat} {es : List Val} {Z2 : Sto} : ∀ {vs : List Val} {Z : Sto}, lcGoP tg tst elt ρ0 vs Z ≠ .ex i es Z2
  | [], Z, h => by cases h
  | v :: vs, Z, h => by
    unfold lcGoP at h
    split at h
    · rename_i ρ1 _
      cases e1 : noEx (tst ρ1 Z) with
      | ok k Z3 =>
        rw [e1] at h
        cases k with
        | false => exact lcGoP_nx h
        | true =>
          cases e2 : noEx (elt ρ1 Z3) with
          | ok u Z4 =>
            have h : ((noEx (elt ρ1 Z3)).bind fun u S2 => (lcGoP tg tst elt ρ0 vs S2).bind fun us S3 => .ok (u :: us) S3) = .ex i es Z2 := h
            rw [e2] at h
            have h : ((lcGoP tg tst elt ρ0 vs Z4).bind fun us S3 => .ok (u :: us) S3) = .ex i es Z2 := h
            cases e3 : lcGoP tg tst elt ρ0 vs Z4 with
            | ok us Z5 => rw [e3] at h; cases h
            | ex a b d => exact lcGoP_nx e3
            | st => rw [e3] at h; cases h
          | ex => exact absurd e2 noEx_nx
          | st =>
            have h : ((noEx (elt ρ1 Z3)).bind fun u S2 => (lcGoP tg tst elt ρ0 vs S2).bind fun us S3 => .ok (u :: us) S3) = .ex i es Z2 := h
            rw [e2] at h; cases h
      | ex => exact absurd e1 noEx_nx
      | st => rw [e1] at h; cases h
    · cases h
theorem lc_sim (hi : LIe κ it ip) (ht : allS κ tg.slots = true) (hw : allS κ ws = true) (h1 : LE RV κ tst tst') (h2 : LE RV κ elt elt') {c : Cs} {Z S : Sto} {ρ ρ' : Ev} {n : Nat} (er : EvR κ c S ρ ρ') (s : St c Z S) (hn : n ≤ S.next) {R : RelK Val Val} {bx : Bool}
    (hend : ∀ {S1 Z1 : Sto} {k : Nat} {us : List Val}, XF c S S1 → St c Z1 S1 → n ≤ k → S.next ≤ k → k < S1.next → Free c k → S1.objs k = some (.lst us) → Sim c S n R (lcEnd bx k S1) (.ok (.lst us) Z1)) :
    Sim c S n R (eLc bx it tg tst elt ws ρ S) (eLcP ip tg tst' elt' ws ρ' Z) := by
  unfold eLc eLcP
  have := hi c Z S ρ ρ' n er s hn
  revert this
  cases ip ρ' Z with
  | st => intro _; trivial
  | ex i es Z1 => rintro ⟨S1, e, x, s1⟩; rw [e]; exact ⟨S1, rfl, x, s1⟩
  | ok xs Z1 =>
    rintro ⟨iv, S1, e, x, s1, rfl, hs⟩
    rw [e]
    show Sim c S n R ((lcGo _ _ _ _ _ _ _ _).bind _) ((lcGoP _ _ _ _ _ _).bind _)
    cases q : lcGoP tg tst' elt' (wipeE ρ' ws) iv.items Z1 with
    | st => trivial
    | ex i es Z2 => exact absurd q lcGoP_nx
    | ok us Z2 =>
      show Sim c S n R _ (if us.length ≤ sizeLine then _ else _)
      by_cases l : us.length ≤ sizeLine
      · rw [if_pos l]
        obtain ⟨xa, sa⟩ := s1.al (o := .lst [])
        have er1 := (er.mono s x).wipe (ws := ws) (allS_ok hw)
        obtain ⟨S3, g1, g2, g3, g4, g5⟩ := lcGo_ok ht h1 h2 s1 er1 (Nat.le_refl _) (fresh_free s1) hs (acc := []) xa sa (Nat.lt_succ_self _) alloc_at q (by simpa using l)
        rw [g1]
        show Sim c S n R (lcEnd bx S1.next S3) _
        exact hend (x.trans g2) g3 (Nat.le_trans hn x.le) x.le g4 (fresh_free s1) (by simpa using g5)
      · rw [if_neg l]; trivial
theorem le_lc (hi : LIe κ it ip) (ht : allS κ tg.slots = true) (hw : allS κ ws = true) (h1 : LE RV κ tst tst') (h2 : LE RV κ elt elt') : LE RV κ (eLc false it tg tst elt ws) (eLcP ip tg tst' elt' ws) := fun c Z S ρ ρ' n er s hn =>
  lc_sim hi ht hw h1 h2 er s hn fun {S1 Z1 k us} x s1 l l0 l2 f o => by
    unfold lcEnd; rw [o]
    exact ⟨_, _, rfl, ⟨x.le, fun j lj fj => by rw [drop_ne (by omega)]; exact x.eq j lj fj⟩, s1.drop f, rfl⟩
theorem le_lcN (hi : LIe κ it ip) (ht : allS κ tg.slots = true) (hw : allS κ ws = true) (h1 : LE RV κ tst tst') (h2 : LE RV κ elt elt') : LE RF κ (eLc true it tg tst elt ws) (eLcP ip tg tst' elt' ws) := fun c Z S ρ ρ' n er s hn =>
  lc_sim hi ht hw h1 h2 er s hn fun {S1 Z1 k us} x s1 l l0 l2 f o => by
    unfold lcEnd; rw [o]
    exact ⟨_, _, rfl, x, s1, k, rfl, l, f, _, o, rfl⟩
/-! ### list(range(..)), slices, join -/
def eListRP (a b : EM) : EM := fun ρ S => (a ρ S).bind fun v S1 => (b ρ S1).bind fun w S2 => match v, w with
  | .int i, .int j => if -4611686018427387904 ≤ i ∧ i < 4611686018427387904 ∧ -4611686018427387904 ≤ j ∧ j < 4611686018427387904 ∧ (j - i).toNat ≤ 16777216 then .ok (.lst (rangeL i (j - i).toNat)) S2 else .st
  | _, _ => .st
theorem listR_sim {R : RelK Val Val} {bx : Bool} (h : LE RV κ a pa) (h2 : LE RV κ b pb) (hm : ∀ {c Z S n us}, St c Z S → n ≤ S.next → Sim c S n R (mkL bx us S) (.ok (.lst us) Z)) : LE R κ (eListR bx a b) (eListRP pa pb) := fun c Z S ρ ρ' n er st hn => (h c Z S ρ ρ' n er st hn).bind fun v v' S1 Z1 x s1 q =>
  (h2 c Z1 S1 ρ ρ' n (er.mono st x) s1 (Nat.le_trans hn x.le)).bind fun w w' S2 Z2 x2 s2 q2 => by
    obtain rfl : v = v' := q
    obtain rfl : w = w' := q2
    cases v <;> first | trivial | skip
    cases w <;> first | trivial | skip
    rename_i i j
    dsimp only
    rw [p62, show (2 : Nat) ^ 24 = 16777216 by decide +kernel]
    by_cases l : -4611686018427387904 ≤ i ∧ i < 4611686018427387904 ∧ -4611686018427387904 ≤ j ∧ j < 4611686018427387904 ∧ (j - i).toNat ≤ 16777216
    · rw [if_pos l, if_pos l]; exact hm s2 (Nat.le_trans hn (x.trans x2).le)
    · rw [if_neg l, if_neg l]; trivial
theorem le_listR (h : LE RV κ a pa) (h2 : LE RV κ b pb) : LE RV κ (eListR false a b) (eListRP pa pb) := listR_sim h h2 fun s _ => .ok s rfl
theorem le_listRN (h : LE RV κ a pa) (h2 : LE RV κ b pb) : LE RF κ (eListR true a b) (eListRP pa pb) := listR_sim h h2 fun s hn => new_ok s hn rfl
variable {lo hi plo phi : OM}
theorem vCut_l {bx : Bool} {v : Val} {S : Sto} {l u : Option Int} {xs : List Val} (h : lstOf S v = some xs) : vCut bx v l u S = mkL bx (cutG xs l u) S := by
  unfold vCut
  cases v <;> first | (cases h; done) | (simp only [h])
theorem le_cut (h : LE RQ κ a pa) (hl : LE RV κ lo plo) (hh : LE RV κ hi phi) : LE RV κ (eCut false a lo hi) (eCutP pa plo phi) := fun c Z S ρ ρ' n er st hn => (h c Z S ρ ρ' n er st hn).bind fun v v' S1 Z1 x s1 q =>
  (hl c Z1 S1 ρ ρ' n (er.mono st x) s1 (Nat.le_trans hn x.le)).bind fun l l' S2 Z2 x2 s2 q2 => (hh c Z2 S2 ρ ρ' n (er.mono st (x.trans x2)) s2 (Nat.le_trans hn (x.trans x2).le)).bind fun u u' S3 Z3 x3 s3 q3 => by
    obtain rfl : l = l' := q2
    obtain rfl : u = u' := q3
    have q := (q.mono s1 x2).mono s2 x3
    by_cases hT : ∃ xs, v' = .tup xs
    · obtain ⟨xs, rfl⟩ := hT
      obtain rfl := vq_s q rfl
      exact .ok s3 rfl
    · cases e : lstOf Z0 v' with
      | none =>
        have : vCut false v' l u Z0 = .st := by unfold vCut; cases v' <;> first | (exact absurd ⟨_, rfl⟩ hT) | (simp only [e])
        rw [this]; trivial
      | some xs => rw [vCut_l e, vCut_l (lst_q q e)]; exact .ok s3 rfl
theorem le_cutN (h : LE RQ κ a pa) (hl : LE RV κ lo plo) (hh : LE RV κ hi phi) : LE RF κ (eCut true a lo hi) (fun ρ S => (eCutP pa plo phi ρ S).bind fun v S1 => match v with | .lst xs => .ok (.lst xs) S1 | _ => .st) := fun c Z S ρ ρ' n er st hn => by
  unfold eCutP
  have as : ∀ {α β γ : Type} (r : Res α) (f : α → Sto → Res β) (g : β → Sto → Res γ), (r.bind f).bind g = r.bind fun a S => (f a S).bind g := fun r f g => by cases r <;> rfl
  simp only [as]
  exact (h c Z S ρ ρ' n er st hn).bind fun v v' S1 Z1 x s1 q =>
    (hl c Z1 S1 ρ ρ' n (er.mono st x) s1 (Nat.le_trans hn x.le)).bind fun l l' S2 Z2 x2 s2 q2 => (hh c Z2 S2 ρ ρ' n (er.mono st (x.trans x2)) s2 (Nat.le_trans hn (x.trans x2).le)).bind fun u u' S3 Z3 x3 s3 q3 => by
      obtain rfl : l = l' := q2
      obtain rfl : u = u' := q3
      have q := (q.mono s1 x2).mono s2 x3
      by_cases hT : ∃ xs, v' = .tup xs
      · obtain ⟨xs, rfl⟩ := hT; trivial
      · cases e : lstOf Z0 v' with
        | none =>
          have : vCut false v' l u Z0 = .st := by unfold vCut; cases v' <;> first | (exact absurd ⟨_, rfl⟩ hT) | (simp only [e])
          rw [this]; trivial
        | some xs => rw [vCut_l e, vCut_l (lst_q q e)]; exact new_ok s3 (Nat.le_trans hn ((x.trans x2).trans x3).le) rfl
/-- methods that change nothing -/
def eBMP (chk : Val → Sto → Bool) (op : Val → List Val → Sto → Res Val) (o : EM) (a : AM) : EM := fun ρ S => (o ρ S).bind fun v S1 => if chk v Z0 then (a ρ S1).bind fun vs S2 => (op v vs Z0).onto S2 else .st
def RsM (chk : Val → Sto → Bool) (op : Val → List Val → Sto → Res Val) : Prop := ∀ c S v v' vs vs' u Z1, VQ c S v v' → VQs c S vs vs' → op v' vs' Z0 = .ok u Z1 → op v vs S = .ok u S
theorem le_bm {chk : Val → Sto → Bool} {op : Val → List Val → Sto → Res Val} {r r' : AM} (ok : RsM chk op) (hc : ∀ c S v v', VQ c S v v' → chk v' Z0 = true → chk v S = true) (nx : ∀ v vs S, NX (op v vs S)) (ho : LE RQ κ e p) (ha : LE RQs κ r r') : LE RV κ (eBM chk op e r) (eBMP chk op p r') := fun c Z S ρ ρ' n er st hn =>
  (ho c Z S ρ ρ' n er st hn).bind fun v v' S1 Z1 x s1 q => sim_guard (hc _ _ _ _ q) <| (ha c Z1 S1 ρ ρ' n (er.mono st x) s1 (Nat.le_trans hn x.le)).bind fun w w' S2 Z2 x2 s2 q2 =>
    sim_op s2 (nx _ _ _) fun u Z3 eo => ok c S2 v v' w w' u Z3 (q.mono s1 x2) q2 eo
/-! ### try -/
def oErr (o : Option Val) : Bool := match o with
  | some v => noErr v
  | none => true
def suiteEndP (i : Nat) : SRes → SRes
  | .rt v S => if noErr v = true then .rt v S else .st
  | .nx ρ S => if (ρ.set i none).all oErr = true then .nx (ρ.set i none) S else .st
  | _ => .st
def sTryP (bd : SM) (i : Nat) (off : List Nat) (hs : List (Nat × SM)) : SM := fun ρ S => match bd ρ S with
  | .ex c vs ρ' S' => match hs.lookup c with
    | some s => suiteEndP i (s (ρ'.set i (some (.err c vs))) S')
    | none => if off.contains c then .ex c vs ρ' S' else .st
  | r => r
/-- a suite that leaves the store as it is -/
def Qs (s : SM) : Prop := ∀ ρ S, (∀ v S1, s ρ S = .rt v S1 → S1 = S) ∧ (∀ ρ1 S1, s ρ S = .nx ρ1 S1 → S1 = S)
def Qe {α : Type} (e : Ev → Sto → Res α) : Prop := ∀ ρ S v S1, e ρ S = .ok v S1 → S1 = S
/-- suites of a try, one by one -/
inductive Hs (κ : List Kd) (rk : RK) : List (Nat × SM) → List (Nat × SM) → Prop
  | nil : Hs κ rk [] []
  | cons {n : Nat} {s s' : SM} {l l' : List (Nat × SM)} : LS κ rk s s' → Qs s → Hs κ rk l l' → Hs κ rk ((n, s) :: l) ((n, s') :: l')
theorem Hs.look {rk : RK} {n : Nat} : ∀ {l l' : List (Nat × SM)}, Hs κ rk l l' → (l.lookup n = none ∧ l'.lookup n = none) ∨ ∃ s s', l.lookup n = some s ∧ l'.lookup n = some s' ∧ LS κ rk s s' ∧ Qs s
  | _, _, .nil => .inl ⟨rfl, rfl⟩
  | _, _, .cons (n := m) (s := s) (s' := s') a q b => by
    by_cases h : n = m
    · subst h; exact .inr ⟨s, s', by simp [List.lookup], by simp [List.lookup], a, q⟩
    · have : (n == m) = false := by simpa using h
      simp only [List.lookup, this]
      exact b.look
theorem slr_noErr {c : Cs} {S : Sto} {a b : Option Val} {v : Val} : ∀ {kd : Kd}, SlR c S kd a b → oErr b = true → a = some v → noErr v = true
  | .s, h, e, ha => by rw [← (show a = b from h), ha] at e; exact e
  | .f, h, e, ha => by
    rcases h with h | ⟨k, u, e1, _⟩
    · rw [← h, ha] at e; exact e
    · rw [e1] at ha; cases ha; unfold noErr; rfl
  | .o, h, e, ha => by
    rcases h with ⟨_, h | ⟨k, h⟩⟩ | ⟨k, u, h, _⟩ <;> (rw [h] at ha; cases ha; try (unfold noErr; rfl))
  | .p, h, e, ha => by
    rcases h with ⟨_, h | ⟨k, h⟩⟩ | ⟨k, u, h, _⟩ <;> (rw [h] at ha; cases ha; try (unfold noErr; rfl))
  | .c, h, e, ha => by
    rcases h with ⟨_, h | ⟨k, h⟩⟩ | ⟨j, k, h, _⟩ <;> (rw [h] at ha; cases ha; try (unfold noErr; rfl))
theorem ls_try {rk : RK} {bd bd' : SM} {i : Nat} {off : List Nat} {hs hs' : List (Nat × SM)} (hrk : rk = .v) (hi : κ[i]? = some .s) (hb : LS κ rk bd bd') (hh : Hs κ rk hs hs') : LS κ rk (sTry bd i off hs) (sTryP bd' i off hs') := fun c Z S ρ ρ' er st => by
  subst hrk
  have := hb c Z S ρ ρ' er st
  unfold sTry sTryP
  revert this
  cases e : bd' ρ' Z with
  | st => intro _; trivial
  | nx => rintro ⟨ρ1, S1, c1, e1, q⟩; rw [e1]; exact ⟨ρ1, S1, c1, rfl, q⟩
  | bk => rintro ⟨ρ1, S1, c1, e1, q⟩; rw [e1]; exact ⟨ρ1, S1, c1, rfl, q⟩
  | ct => rintro ⟨ρ1, S1, c1, e1, q⟩; rw [e1]; exact ⟨ρ1, S1, c1, rfl, q⟩
  | rt => rintro ⟨v, S1, c1, e1, q⟩; rw [e1]; exact ⟨v, S1, c1, rfl, q⟩
  | ex n vs ρ1' Z1 =>
    rintro ⟨ρ1, S1, c1, e1, q⟩
    rw [e1]
    dsimp only
    rcases hh.look (n := n) with ⟨a, b⟩ | ⟨s, s', a, b, l, qs⟩
    · rw [a, b]
      dsimp only
      by_cases ho : off.contains n = true
      · rw [if_pos ho, if_pos ho]; exact ⟨ρ1, S1, c1, rfl, q⟩
      · rw [if_neg ho, if_neg ho]; trivial
    · rw [a, b]
      dsimp only
      have er1 := q.ev.set_s hi (some (.err n vs))
      have n1 : NxR κ c S ρ ρ' (ρ1.set i (some (.err n vs))) S1 (ρ1'.set i (some (.err n vs))) Z1 c1 := ⟨q.sf, q.ef.trans (Nat.le_trans q.sf.le (Nat.le_refl _)) (.set_s hi) |> fun z => ⟨fun k h => (z.own k h), z.pa⟩, q.cx, q.st, er1⟩
      have := l c1 Z1 S1 _ _ er1 q.st
      have qq := qs (ρ1.set i (some (.err n vs))) S1
      revert this
      cases e2 : s' (ρ1'.set i (some (.err n vs))) Z1 with
      | st => intro _; trivial
      | bk => intro _; trivial
      | ct => intro _; trivial
      | ex => intro _; trivial
      | rt v' Z2 =>
        rintro ⟨v, S2, c2, e3, sf, cx, s2, rfl⟩
        have : S2 = S1 := qq.1 v S2 e3
        subst this
        rw [e3]
        unfold suiteEnd suiteEndP
        by_cases hv : noErr v = true
        · simp only [hv, true_and, if_true]
          exact .after n1 (r := .rt v S2) (r' := .rt v Z2) ⟨v, S2, c2, rfl, sf, cx, s2, rfl⟩
        · simp only [hv]; trivial
      | nx ρ2' Z2 =>
        rintro ⟨ρ2, S2, c2, e3, q2⟩
        have : S2 = S1 := qq.2 ρ2 S2 e3
        subst this
        rw [e3]
        unfold suiteEndP
        dsimp only
        by_cases hv : (ρ2'.set i none).all oErr = true
        · rw [if_pos hv]
          have n2 := n1.trans q2
          have er3 := q2.ev.set_s hi none
          have ok : ∀ (j : Nat) (v : Val), (ρ2.set i none)[j]? = some (some v) → noErr v = true := fun j v h => by
            have hj := get_lt h
            have h := lk_some.mpr h
            have hk : j < κ.length := by rw [List.length_set, q2.ev.len] at hj; exact hj
            have r := er3.rel j κ[j] (List.getElem?_eq_getElem hk)
            refine slr_noErr r ?_ h
            have hl : j < (ρ2'.set i none).length := by rw [List.length_set, q2.ev.len']; exact hk
            have := List.all_eq_true.mp hv (ρ2'.set i none)[j] (List.getElem_mem hl)
            rw [lk_get, List.getElem?_eq_getElem hl]
            simpa using this
          unfold suiteEnd
          dsimp only
          rw [if_pos ⟨ok, rfl⟩]
          refine ⟨_, S2, c2, rfl, n2.sf, n2.ef.trans n2.sf.le (.set_s hi), n2.cx, n2.st, er3⟩
        · rw [if_neg hv]; trivial
theorem le_isErr {i : Nat} (hi : κ[i]? = some .s) {v : Val} {b : Bool} : LE RV κ (eIsErr i (eC v) b) (eIsErr i (eC v) b) := fun c Z S ρ ρ' n er st hn => by
  have h : lk ρ i = lk ρ' i := er.rel i _ hi
  by_cases q : ∃ n, lk ρ' i = some (.err n [])
  · obtain ⟨n, q⟩ := q
    unfold eIsErr
    rw [lk_some.mp q, lk_some.mp (h.trans q)]
    exact .ok st rfl
  · have : eIsErr i (eC v) b ρ' Z = .st := by
      unfold eIsErr
      split
      · rename_i n e; exact absurd ⟨n, lk_some.mpr e⟩ q
      · rfl
    rw [this]; trivial
/-! what leaves the store as it is -/
variable {ta tb : BM} {s t : SM} {r : AM}
theorem q_var (i : Nat) : Qe (eVar i) := fun ρ S v S1 h => by
  rw [eVar_lk] at h
  cases e : lk ρ i <;> rw [e] at h <;> cases h; rfl
theorem q_c {v : Val} : Qe (eC v) := fun ρ S w S1 h => by cases h; rfl
theorem q_and (h : Qe a) (h2 : Qe b) : Qe (eAnd a b) := fun ρ S v S1 e => by
  obtain ⟨w, S2, e1, e'⟩ := bind_ok e; clear e; have e := e'; clear e'
  have := h _ _ _ _ e1; subst this
  split at e
  · exact h2 _ _ _ _ e
  · cases e; rfl
  · cases e
theorem q_or (h : Qe a) (h2 : Qe b) : Qe (eOr a b) := fun ρ S v S1 e => by
  obtain ⟨w, S2, e1, e'⟩ := bind_ok e; clear e; have e := e'; clear e'
  have := h _ _ _ _ e1; subst this
  split at e
  · cases e; rfl
  · exact h2 _ _ _ _ e
  · cases e
theorem q_not (h : Qe a) : Qe (eNot a) := fun ρ S v S1 e => by
  obtain ⟨w, S2, e1, e'⟩ := bind_ok e; clear e; have e := e'; clear e'
  have := h _ _ _ _ e1; subst this
  split at e
  · cases e; rfl
  · cases e
theorem q_tB (h : Qe a) : Qe (tB a) := fun ρ S v S1 e => by
  obtain ⟨w, S2, e1, e'⟩ := bind_ok e; clear e; have e := e'; clear e'
  have := h _ _ _ _ e1; subst this
  split at e
  · cases e; rfl
  · cases e
theorem q_tTru (h : Qe a) : Qe (tTru a) := fun ρ S v S1 e => by
  obtain ⟨w, S2, e1, e'⟩ := bind_ok e; clear e; have e := e'; clear e'
  have := h _ _ _ _ e1; subst this
  split at e
  · cases e; rfl
  · cases e
theorem q_tand (h : Qe ta) (h2 : Qe tb) : Qe (tAndM ta tb) := fun ρ S v S1 e => by
  obtain ⟨w, S2, e1, e'⟩ := bind_ok e; clear e; have e := e'; clear e'
  have := h _ _ _ _ e1; subst this
  split at e
  · exact h2 _ _ _ _ e
  · cases e; rfl
theorem q_tnot (h : Qe ta) : Qe (tNotM ta) := fun ρ S v S1 e => by
  obtain ⟨w, S2, e1, e'⟩ := bind_ok e; clear e; have e := e'; clear e'
  have := h _ _ _ _ e1; subst this
  cases e; rfl
theorem q_isErr {i : Nat} {v : Val} {b : Bool} : Qe (eIsErr i (eC v) b) := fun ρ S w S1 e => by
  unfold eIsErr at e
  split at e
  · cases e; rfl
  · cases e
theorem q_nil : Qe aNil := fun ρ S v S1 h => by cases h; rfl
theorem q_cons (h : Qe a) (h2 : Qe r) : Qe (aCons a r) := fun ρ S v S1 e => by
  obtain ⟨w, S2, e1, e'⟩ := bind_ok e; clear e; have e := e'; clear e'
  have := h _ _ _ _ e1; subst this
  obtain ⟨w2, S3, e2, e'⟩ := bind_ok e; clear e; have e := e'; clear e'
  have := h2 _ _ _ _ e2; subst this
  cases e; rfl
theorem q_tup (h : Qe r) : Qe (eTup r) := fun ρ S v S1 e => by
  obtain ⟨w, S2, e1, e'⟩ := bind_ok e; clear e; have e := e'; clear e'
  have := h _ _ _ _ e1; subst this
  split at e
  · cases e; rfl
  · cases e
theorem q_attr {c i : Nat} (h : Qe a) : Qe (eAttr c i a) := fun ρ S v S1 e => by
  obtain ⟨w, S2, e1, e'⟩ := bind_ok e; clear e; have e := e'; clear e'
  have := h _ _ _ _ e1; subst this
  split at e
  · split at e
    · split at e
      · cases e; rfl
      · cases e
    · cases e
  · cases e
theorem qs_ret (h : Qe e) : Qs (sRet e) := fun ρ S => by
  unfold sRet
  cases q : e ρ S with
  | ok v S2 =>
    have := h _ _ _ _ q
    subst this
    exact ⟨fun v S1 z => (by cases z; rfl), fun ρ1 S1 z => by cases z⟩
  | ex => exact ⟨fun v S1 z => (by cases z), fun ρ1 S1 z => by cases z⟩
  | st => exact ⟨fun v S1 z => (by cases z), fun ρ1 S1 z => by cases z⟩
theorem qs_next : Qs sNext := fun ρ S => ⟨fun v S1 z => (by cases z), fun ρ1 S1 z => by cases z; rfl⟩
theorem qs_if (h : Qe ta) (h1 : Qs s) (h2 : Qs t) : Qs (sIf ta s t) := fun ρ S => by
  unfold sIf
  cases q : ta ρ S with
  | ok v S2 =>
    have := h _ _ _ _ q
    subst this
    cases v with
    | true => exact h1 ρ S2
    | false => exact h2 ρ S2
  | ex => exact ⟨fun v S1 z => (by cases z), fun ρ1 S1 z => by cases z⟩
  | st => exact ⟨fun v S1 z => (by cases z), fun ρ1 S1 z => by cases z⟩
theorem qs_seq (h1 : Qs s) (h2 : Qs t) : Qs (sSeq s t) := fun ρ S => by
  unfold sSeq
  cases q : s ρ S with
  | nx ρ1 S2 =>
    have := (h1 ρ S).2 _ _ q
    subst this
    exact h2 ρ1 S2
  | rt v S2 => exact ⟨fun v S1 z => (h1 ρ S).1 _ _ (q.trans z), fun ρ1 S1 z => by cases z⟩
  | ex => exact ⟨fun v S1 z => (by cases z), fun ρ1 S1 z => by cases z⟩
  | bk => exact ⟨fun v S1 z => (by cases z), fun ρ1 S1 z => by cases z⟩
  | ct => exact ⟨fun v S1 z => (by cases z), fun ρ1 S1 z => by cases z⟩
  | st => exact ⟨fun v S1 z => (by cases z), fun ρ1 S1 z => by cases z⟩
/-! join -/
theorem rm_join : RsM isStr vJoin := fun c S v v' vs vs' u Z1 h h2 e => by
  cases v' <;> first | (unfold vJoin at e; split at e <;> first | (cases e; done) | (rename_i q _; cases q; done) | (rename_i q; cases q; done)) | skip
  obtain rfl := vq_s h rfl
  match vs', h2 with
  | [], h2 => cases e
  | [w'], h2 =>
    obtain ⟨w, rfl, q⟩ := vqs1 h2
    by_cases hT : ∃ xs, w' = .tup xs
    · obtain ⟨xs, rfl⟩ := hT
      obtain rfl := vq_s q rfl
      unfold vJoin at e ⊢
      dsimp only at e ⊢
      split at e
      · split at e
        · rename_i l; cases e; rw [if_pos l]
        · cases e
      · cases e
    · have hn : ∀ xs, w' ≠ .tup xs := fun xs h => hT ⟨xs, h⟩
      have eq : ∀ {s : Str} {w : Val} {S : Sto}, (∀ xs, w ≠ .tup xs) → vJoin (.str s) [w] S = (match (lstOf S w).bind strsOf with
          | some zs => if (zs.map (·.length)).sum + zs.length * s.length ≤ 16777216 then .ok (.str (Txt.join s zs)) S else .st
          | none => .st) := fun {s w S} h => by
        unfold vJoin
        cases w <;> first | rfl | exact absurd rfl (h _)
      rw [eq hn] at e
      rw [eq (vq_nt q hn)]
      cases p : lstOf Z0 w' with
      | none => rw [p] at e; cases e
      | some xs =>
        rw [p] at e; rw [lst_q q p]
        cases p2 : strsOf xs with
        | none => simp only [Option.bind, p2] at e; cases e
        | some zs =>
          simp only [Option.bind, p2] at e ⊢
          split at e
          · rename_i l; cases e; rw [if_pos l]
          · cases e
  | _ :: _ :: _, h2 => unfold vJoin at e; split at e <;> first | (cases e; done) | (rename_i q _; cases q; done) | (rename_i q; cases q; done)
theorem isStr_q (c : Cs) (S : Sto) (v v' : Val) (h : VQ c S v v') (e : isStr v' Z0 = true) : isStr v S = true := by
  cases v' <;> first | (cases e; done) | (obtain rfl := vq_s h rfl; rfl)
theorem nx_join : ∀ v vs S, NX (vJoin v vs S) := by
  intro v vs S; unfold vJoin; split
  · split
    · split <;> trivial
    · trivial
  · split
    · split <;> trivial
    · trivial
  · trivial
end
end PM

/-! PP, part g: what the printed lifts name beside; plain reasoning -/
namespace PM
open PySem PySem.Spec L2
abbrev wMax : Nat := 1000000000000
def vAddN (v w : Val) (S : Sto) : Res Val := match v, w with
    | .lst xs, .lst ys => if xs.length + ys.length ≤ sizeLine then .ok (.lst (xs ++ ys)) S else .st
    | _, _ => .st
theorem FnOk.never {P : Program} {w : World} {K : PySem.W.Frag} {mg : Str → Option Value} {base : Heap} {CX : CXT} {k : Nat} {f : Addr} {fd : FuncData} {ps : List Str} {sp : Sp} (h : ∀ vs H Q E, ¬ sp vs H Q E) : FnOk P w K mg base CX k f fd ps sp :=
  ⟨fun vs H Q E q => (h vs H Q E q).elim, fun _ _ _ H _ _ vs Q E _ _ _ _ q => (h vs H Q E q).elim⟩
def eCutN (f : EM) (lo hi : OM) : EM := fun ρ S => (eCutP f lo hi ρ S).bind fun v S1 => match v with | .lst xs => .ok (.lst xs) S1 | _ => .st
/-- a body that returns -/
def NN (b : SM) : Prop := ∀ ρ Z ρ' Z', b ρ Z ≠ .nx ρ' Z'
theorem nn {b : SM} (h : NN b) : ∀ ρ Z ρ' Z', b ρ Z ≠ .nx ρ' Z' := h
theorem nn_ret {e : EM} : NN (sRet e) := fun ρ Z ρ' Z' h => by
  unfold sRet at h
  cases q : e ρ Z <;> rw [q] at h <;> cases h
theorem nn_raise {c : Nat} : NN (sRaise c) := fun ρ Z ρ' Z' h => by cases h
theorem nn_seq {s t : SM} (h : NN t) : NN (sSeq s t) := fun ρ Z ρ' Z' q => by
  unfold sSeq at q
  cases e : s ρ Z with
  | nx ρ1 Z1 => rw [e] at q; exact h _ _ _ _ q
  | _ => rw [e] at q; cases q
theorem nn_if {t : BM} {a b : SM} (h : NN a) (h2 : NN b) : NN (sIf t a b) := fun ρ Z ρ' Z' q => by
  unfold sIf at q
  cases e : t ρ Z with
  | ok c Z1 =>
    rw [e] at q
    cases c with
    | true => exact h _ _ _ _ q
    | false => exact h2 _ _ _ _ q
  | ex => rw [e] at q; cases q
  | st => rw [e] at q; cases q
section
variable {κ : List Kd} {rk : RK} {e1 e2 p1 p2 : EM}
/-- i, j = a, b: owned or not -/
theorem ls_parOO (i j : Nat) (hi : κ[i]? = some .o) (hj : κ[j]? = some .o) (hne : i ≠ j) (h1 : LE RF κ e1 p1) (h2 : LE RF κ e2 p2) : LS κ rk (sPar i j (aCons e1 (aCons e2 aNil))) (sPar i j (aCons p1 (aCons p2 aNil))) := fun c Z S ρ ρ' er st => by
  unfold sPar aCons aNil
  have q1 := h1 c Z S ρ ρ' S.next er st (Nat.le_refl _)
  revert q1
  cases p1 ρ' Z with
  | st => intro _; trivial
  | ex n vs Z1 => rintro ⟨S1, e, x, s1⟩; rw [e]; exact ⟨ρ, S1, c, rfl, .ofX er st x s1⟩
  | ok v' Z1 =>
    rintro ⟨v, S1, e, x, s1, k1, rfl, hk1, vl1⟩
    rw [e]
    have er1 := er.mono st x
    have q2 := h2 c Z1 S1 ρ ρ' S1.next er1 s1 (Nat.le_refl _)
    show SSim κ rk c S ρ ρ' (((e2 ρ S1).bind _ |>.bind _).toS ρ _) (((p2 ρ' Z1).bind _ |>.bind _).toS ρ' _)
    revert q2
    cases p2 ρ' Z1 with
    | st => intro _; trivial
    | ex n vs Z2 => rintro ⟨S2, e, x2, s2⟩; rw [e]; exact ⟨ρ, S2, c, rfl, .ofX er st (x.trans x2) s2⟩
    | ok w' Z2 =>
      rintro ⟨w, S2, e, x2, s2, k2, rfl, hk2, vl2⟩
      rw [e]
      have er2 := er1.mono s1 x2
      have l1 := vl1.lt s1
      have a1 := er2.set_o hi rfl (vl1.mono s1 x2) fun j _ => by
        intro u; have := (er.us_vl u).lt st; omega
      have a2 := a1.set_o hj rfl vl2 fun l hl u => by
        by_cases h : i = l
        · subst h
          obtain ⟨q, _⟩ := u
          rw [lk_same (by rw [er.len]; exact get_lt hi)] at q
          cases q; omega
        · rw [lk_ne h, lk_ne h] at u
          have := (er.us_vl u).lt st
          have := x.le
          omega
      have ef1 : EF κ S ρ ρ' (ρ.set i (some (.loc k1))) (ρ'.set i (some v')) := .set_o hk1 hi er.len
      have ef2 : EF κ S (ρ.set i (some (.loc k1))) (ρ'.set i (some v')) ((ρ.set i (some (.loc k1))).set j (some (.loc k2))) ((ρ'.set i (some v')).set j (some w')) := .set_o (Nat.le_trans x.le hk2) hj (by rw [List.length_set]; exact er.len)
      exact ⟨_, S2, c, rfl, (x.trans x2).sf, ef1.trans (Nat.le_refl _) ef2, .refl, s2, a2⟩
theorem ls_parOS (i j : Nat) (hi : κ[i]? = some .o) (hj : κ[j]? = some .s) (hne : i ≠ j) (h1 : LE RF κ e1 p1) (h2 : LE RV κ e2 p2) : LS κ rk (sPar i j (aCons e1 (aCons e2 aNil))) (sPar i j (aCons p1 (aCons p2 aNil))) := fun c Z S ρ ρ' er st => by
  unfold sPar aCons aNil
  have q1 := h1 c Z S ρ ρ' S.next er st (Nat.le_refl _)
  revert q1
  cases p1 ρ' Z with
  | st => intro _; trivial
  | ex n vs Z1 => rintro ⟨S1, e, x, s1⟩; rw [e]; exact ⟨ρ, S1, c, rfl, .ofX er st x s1⟩
  | ok v' Z1 =>
    rintro ⟨v, S1, e, x, s1, k1, rfl, hk1, vl1⟩
    rw [e]
    have er1 := er.mono st x
    have q2 := h2 c Z1 S1 ρ ρ' S1.next er1 s1 (Nat.le_refl _)
    show SSim κ rk c S ρ ρ' (((e2 ρ S1).bind _ |>.bind _).toS ρ _) (((p2 ρ' Z1).bind _ |>.bind _).toS ρ' _)
    revert q2
    cases p2 ρ' Z1 with
    | st => intro _; trivial
    | ex n vs Z2 => rintro ⟨S2, e, x2, s2⟩; rw [e]; exact ⟨ρ, S2, c, rfl, .ofX er st (x.trans x2) s2⟩
    | ok w' Z2 =>
      rintro ⟨w, S2, e, x2, s2, rfl⟩
      rw [e]
      have er2 := er1.mono s1 x2
      have a1 := er2.set_o hi rfl (vl1.mono s1 x2) fun j _ => by
        intro u; have := (er.us_vl u).lt st; omega
      have ef1 : EF κ S ρ ρ' (ρ.set i (some (.loc k1))) (ρ'.set i (some v')) := .set_o hk1 hi er.len
      exact ⟨_, S2, c, rfl, (x.trans x2).sf, ef1.trans (Nat.le_refl _) (.set_s hj), .refl, s2, a1.set_s hj _⟩
theorem ls_parSO (i j : Nat) (hi : κ[i]? = some .s) (hj : κ[j]? = some .o) (hne : i ≠ j) (h1 : LE RV κ e1 p1) (h2 : LE RF κ e2 p2) : LS κ rk (sPar i j (aCons e1 (aCons e2 aNil))) (sPar i j (aCons p1 (aCons p2 aNil))) := fun c Z S ρ ρ' er st => by
  unfold sPar aCons aNil
  have q1 := h1 c Z S ρ ρ' S.next er st (Nat.le_refl _)
  revert q1
  cases p1 ρ' Z with
  | st => intro _; trivial
  | ex n vs Z1 => rintro ⟨S1, e, x, s1⟩; rw [e]; exact ⟨ρ, S1, c, rfl, .ofX er st x s1⟩
  | ok v' Z1 =>
    rintro ⟨v, S1, e, x, s1, rfl⟩
    rw [e]
    have er1 := er.mono st x
    have q2 := h2 c Z1 S1 ρ ρ' S1.next er1 s1 (Nat.le_refl _)
    show SSim κ rk c S ρ ρ' (((e2 ρ S1).bind _ |>.bind _).toS ρ _) (((p2 ρ' Z1).bind _ |>.bind _).toS ρ' _)
    revert q2
    cases p2 ρ' Z1 with
    | st => intro _; trivial
    | ex n vs Z2 => rintro ⟨S2, e, x2, s2⟩; rw [e]; exact ⟨ρ, S2, c, rfl, .ofX er st (x.trans x2) s2⟩
    | ok w' Z2 =>
      rintro ⟨w, S2, e, x2, s2, k2, rfl, hk2, vl2⟩
      rw [e]
      have er2 := (er1.mono s1 x2).set_s hi (some v)
      have a2 := er2.set_o hj rfl vl2 fun l hl u => by
        by_cases h : i = l
        · subst h
          rw [lk_same (by rw [er.len]; exact get_lt hi), lk_same (by rw [er.len']; exact get_lt hi)] at u
          exact not_us_same u
        · rw [lk_ne h, lk_ne h] at u
          have := (er.us_vl u).lt st
          have := x.le
          omega
      have ef2 : EF κ S (ρ.set i (some v)) (ρ'.set i (some v)) ((ρ.set i (some v)).set j (some (.loc k2))) ((ρ'.set i (some v)).set j (some w')) := .set_o (Nat.le_trans x.le hk2) hj (by rw [List.length_set]; exact er.len)
      exact ⟨_, S2, c, rfl, (x.trans x2).sf, (EF.set_s hi).trans (Nat.le_refl _) ef2, .refl, s2, a2⟩
end
/-! ### plain reasoning -/
section
variable {X : XP} {ρ : Ev} {S : Sto} {P : Val → Sto → Prop} {D : En}
@[simp ↓] theorem rn_onto {r : Res Val} {Z : Sto} {kk : Kp (P, X)} : Rn (r.onto Z) P X kk = Rn r (fun v _ => P v Z) (fun c vs _ => X c vs Z) := by cases r <;> rfl
@[simp ↓] theorem e_binP {op : Val → Val → Sto → Res Val} {a b : EM} {kk : Kp (P, X)} : Rn (eBinP op a b ρ S) P X kk = Rn ((a ρ S).bind fun v S1 => (b ρ S1).bind fun w S2 => (op v w Z0).onto S2) P X := nr
@[simp ↓] theorem e_unP {op : Val → Sto → Res Val} {a : EM} {kk : Kp (P, X)} : Rn (eUnP op a ρ S) P X kk = Rn ((a ρ S).bind fun v S1 => (op v Z0).onto S1) P X := nr
@[simp ↓] theorem e_biP {op : List Val → Sto → Res Val} {a : AM} {kk : Kp (P, X)} : Rn (eBIP op a ρ S) P X kk = Rn ((a ρ S).bind fun vs S1 => (op vs Z0).onto S1) P X := nr
@[simp ↓] theorem e_bmP {chk : Val → Sto → Bool} {op : Val → List Val → Sto → Res Val} {o : EM} {a : AM} {kk : Kp (P, X)} : Rn (eBMP chk op o a ρ S) P X kk = Rn ((o ρ S).bind fun v S1 => if chk v Z0 then (a ρ S1).bind fun vs S2 => (op v vs Z0).onto S2 else .st) P X := nr
@[simp ↓] theorem e_attrP {c i : Nat} {o : EM} {kk : Kp (P, X)} : Rn (eAttrP c i o ρ S) P X kk = Rn ((o ρ S).bind fun v S1 => match insOf Z0 v with
  | some (c', vs) => if c' = c then vr vs[i]? S1 else .st
  | none => .st) P X := nr
@[simp ↓] theorem e_methP {n c : Nat} {F : FM} {o : EM} {a : AM} {kk : Kp (P, X)} : Rn (eMethP n c F o a ρ S) P X kk = Rn ((o ρ S).bind fun v S1 => if isInst c Z0 v then (a ρ S1).bind fun vs S2 => if (v :: vs).length = n then noEx (F (v :: vs) S2) else .st else .st) P X := nr
@[simp ↓] theorem e_methXP {n c : Nat} {F : FM} {o : EM} {a : AM} {kk : Kp (P, X)} : Rn (eMethXP n c F o a ρ S) P X kk = Rn ((o ρ S).bind fun v S1 => if isInst c Z0 v then (a ρ S1).bind fun vs S2 => if (v :: vs).length = n then F (v :: vs) S2 else .st else .st) P X := nr
@[simp ↓] theorem e_makeP {n c : Nat} {F : FM} {a : AM} {kk : Kp (P, X)} : Rn (eMakeP n c F a ρ S) P X kk = Rn ((a ρ S).bind fun vs S1 => if vs.length + 1 = n then mkP (noEx (F (.ins c [] :: vs) S1)) else .st) P X := nr
@[simp ↓] theorem e_makeXP {n c : Nat} {F : FM} {a : AM} {kk : Kp (P, X)} : Rn (eMakeXP n c F a ρ S) P X kk = Rn ((a ρ S).bind fun vs S1 => if vs.length + 1 = n then mkP (F (.ins c [] :: vs) S1) else .st) P X := nr
@[simp ↓] theorem rn_mkP {r : Res Val} {kk : Kp (P, X)} : Rn (mkP r) P X kk = Rn r (fun v Z => match v with | .tup [.non, u] => P u Z | _ => False) X := by
  cases r with
  | ok v Z =>
    by_cases h : ∃ u, v = .tup [.non, u]
    · obtain ⟨u, rfl⟩ := h; rfl
    · have h1 : mkP (.ok v Z) = .st := by
        unfold mkP
        split
        · rename_i q; cases q; exact absurd ⟨_, rfl⟩ h
        · rfl
        · rename_i q; cases q
        · rfl
      rw [h1, rn_ok]
      split
      · exact absurd ⟨_, rfl⟩ h
      · rfl
  | ex => rfl
  | st => rfl
@[simp ↓] theorem e_cutP {f : EM} {lo hi : OM} {kk : Kp (P, X)} : Rn (eCutP f lo hi ρ S) P X kk = Rn ((f ρ S).bind fun v S1 => (lo ρ S1).bind fun l S2 => (hi ρ S2).bind fun u S3 => (vCut false v l u Z0).onto S3) P X := nr
@[simp ↓] theorem e_cutN {f : EM} {lo hi : OM} {kk : Kp (P, X)} : Rn (eCutN f lo hi ρ S) P X kk = Rn ((eCutP f lo hi ρ S).bind fun v S1 => match v with | .lst xs => .ok (.lst xs) S1 | _ => .st) P X := nr
@[simp ↓] theorem e_listRP {a b : EM} {kk : Kp (P, X)} : Rn (eListRP a b ρ S) P X kk = Rn ((a ρ S).bind fun v S1 => (b ρ S1).bind fun w S2 => match v, w with
  | .int i, .int j => if -4611686018427387904 ≤ i ∧ i < 4611686018427387904 ∧ -4611686018427387904 ≤ j ∧ j < 4611686018427387904 ∧ (j - i).toNat ≤ 16777216 then .ok (.lst (rangeL i (j - i).toNat)) S2 else .st
  | _, _ => .st) P X := nr
@[simp ↓] theorem e_chainP {o o' : Val → Val → Sto → Res Val} {a b c : EM} {kk : Kp (P, X)} : Rn (eChainP o o' a b c ρ S) P X kk = Rn ((a ρ S).bind fun v S1 => (b ρ S1).bind fun w S2 => ((o v w Z0).onto S2).bind fun k S3 => match k with
  | .bl true => (c ρ S3).bind fun z S4 => (o' w z Z0).onto S4
  | .bl false => .ok (.bl false) S3
  | _ => .st) P X := nr
@[simp ↓] theorem e_truP {f : EM} {P : Bool → Sto → Prop} {kk : Kp (P, X)} : Rn (tTruP f ρ S) P X kk = Rn ((f ρ S).bind fun v S1 => match truOf Z0 v with | some c => .ok c S1 | none => .st) P X := nr
@[simp ↓] theorem e_iseqP {f : EM} {P : List Val → Sto → Prop} {kk : Kp (P, X)} : Rn (iSeqP f ρ S) P X kk = Rn ((f ρ S).bind fun v S1 => match itemsP v with | some xs => .ok xs S1 | none => .st) P X := nr
@[simp ↓] theorem e_irevP {f : EM} {P : List Val → Sto → Prop} {kk : Kp (P, X)} : Rn (iRevP f ρ S) P X kk = Rn ((f ρ S).bind fun v S1 => match revP v with | some xs => .ok xs S1 | none => .st) P X := nr
@[simp ↓] theorem e_ienumP {f : EM} {P : List Val → Sto → Prop} {kk : Kp (P, X)} : Rn (iEnumP f ρ S) P X kk = Rn ((f ρ S).bind fun v S1 => match enumP v with | some xs => .ok xs S1 | none => .st) P X := nr
@[simp ↓] theorem e_irange1P {a : EM} {P : List Val → Sto → Prop} {kk : Kp (P, X)} : Rn (iRange1P a ρ S) P X kk = Rn ((a ρ S).bind fun v S1 => match v with
  | .int j => if -4611686018427387904 ≤ j ∧ j < 4611686018427387904 then .ok (rangeL 0 j.toNat) S1 else .st
  | _ => .st) P X := nr
@[simp ↓] theorem e_irange2P {a b : EM} {P : List Val → Sto → Prop} {kk : Kp (P, X)} : Rn (iRange2P a b ρ S) P X kk = Rn ((a ρ S).bind fun v S1 => (b ρ S1).bind fun w S2 => match v, w with
  | .int i, .int j => if -4611686018427387904 ≤ i ∧ i < 4611686018427387904 ∧ -4611686018427387904 ≤ j ∧ j < 4611686018427387904 then .ok (rangeL i (j - i).toNat) S2 else .st
  | _, _ => .st) P X := nr
@[simp] theorem items_t {xs : List Val} : itemsP (.tup xs) = some xs := nr
@[simp] theorem items_l {xs : List Val} : itemsP (.lst xs) = some xs := nr
@[simp] theorem items_f {xs : List Val} : itemsP (.fz xs) = some xs := nr
@[simp] theorem rev_l {xs : List Val} : revP (.lst xs) = some xs.reverse := nr
@[simp] theorem enum_l {xs : List Val} : enumP (.lst xs) = some (zipE xs) := nr
@[simp ↓] theorem v_addLN {xs ys : List Val} {Z : Sto} : vAddN (.lst xs) (.lst ys) Z = if xs.length + ys.length ≤ sizeLine then .ok (.lst (xs ++ ys)) Z else .st := nr
@[simp ↓] theorem v_addL {xs ys : List Val} {Z : Sto} : vAdd false (.lst xs) (.lst ys) Z = if xs.length + ys.length ≤ sizeLine then .ok (.lst (xs ++ ys)) Z else .st := nr
/-! statements -/
@[simp ↓] theorem s_appP {j : Nat} {e : EM} {kk : Kp D} : Sn (sAppP j e ρ S) D kk = Sn (lsP (lk ρ j) fun xs => (e ρ S).toS ρ fun u S1 => if xs.length < sizeLine then .nx (ρ.set j (some (.lst (xs ++ [u])))) S1 else .st) D := nr
@[simp ↓] theorem s_extP {j : Nat} {e : EM} {kk : Kp D} : Sn (sExtP j e ρ S) D kk = Sn (lsP (lk ρ j) fun xs => (e ρ S).toS ρ fun u S1 => lsP (some u) fun ys => if xs.length + ys.length ≤ sizeLine then .nx (ρ.set j (some (.lst (xs ++ ys)))) S1 else .st) D := nr
@[simp ↓] theorem s_lsP {xs : List Val} {f : List Val → SRes} {kk : Kp D} : Sn (lsP (some (.lst xs)) f) D kk = Sn (f xs) D := nr
@[simp ↓] theorem s_setIxP {j : Nat} {i e : EM} {kk : Kp D} : Sn (sSetIxP j i e ρ S) D kk = Sn ((e ρ S).toS ρ fun u S1 => lsP (lk ρ j) fun xs => (i ρ S1).toS ρ fun w S2 => match w with
  | .int m => (match ixN xs.length m with
    | some n => .nx (ρ.set j (some (.lst (xs.set n u)))) S2
    | none => .st)
  | _ => .st) D := nr
@[simp ↓] theorem s_attrP {c i j : Nat} {e : EM} {kk : Kp D} : Sn (sAttrP c i j e ρ S) D kk = Sn ((e ρ S).toS ρ fun u S1 => match lk ρ j with
  | some (.ins c' vs) => if c' = c then (if i < vs.length then .nx (ρ.set j (some (.ins c (vs.set i u)))) S1 else if i = vs.length then .nx (ρ.set j (some (.ins c (vs ++ [u])))) S1 else .st) else .st
  | _ => .st) D := nr
@[simp ↓] theorem s_move {j i : Nat} {kk : Kp D} : Sn (sMove j i ρ S) D kk = Sn ((vr (lk ρ i) S).toS ρ fun v S1 => .nx ((ρ.set i none).set j (some v)) S1) D := nr
@[simp ↓] theorem s_cell {i : Nat} {e : EM} {kk : Kp D} : Sn (sCell i e ρ S) D kk = Sn ((e ρ S).toS ρ fun v S1 => lsP (some v) fun xs => .nx (ρ.set i (some (.loc S1.next))) (S1.alloc (.lst xs))) D := nr
@[simp ↓] theorem s_augP {i : Nat} {op : Val → Val → Sto → Res Val} {e : EM} {kk : Kp D} : Sn (sAugP i op e ρ S) D kk = Sn ((vr (lk ρ i) S).toS ρ fun v _ => (e ρ S).toS ρ fun w S1 => ((op v w Z0).onto S1).toS ρ fun z S2 => .nx (ρ.set i (some z)) S2) D := nr
@[simp ↓] theorem s_forP {it : IP} {tg : Tgt} {b : SM} {kk : Kp D} : Sn (sForP it tg b ρ S) D kk = Sn ((it ρ S).toS ρ fun xs S1 => forP tg b xs ρ S1) D := nr
theorem rn_runBP {i n : Nat} {b : SM} {vs : List Val} {kk : Kp (P, X)} : Rn (runBP i n b vs S) P X kk = Sn (b (vs.map Option.some ++ List.replicate (n - vs.length) none) S) ⟨fun ρ S => Rn (vr (lk ρ i) S) (fun u S => P (.tup [.non, u]) S) X0, P, fun _ _ => False, fun _ _ => False, fun c vs _ S => X c vs S⟩ := by
  unfold runBP
  cases b (vs.map Option.some ++ List.replicate (n - vs.length) none) S with
  | nx ρ S1 => show _ = Rn (vr (lk ρ i) S1) _ _; cases e : lk ρ i <;> simp [Rn, vr, e]
  | _ => rfl
end
/-! ### loops -/
section
variable {tg : Tgt} {b : SM} {N : Ev → Sto → Prop} {R : Val → Sto → Prop} {B C : Ev → Sto → Prop} {E : Nat → List Val → Ev → Sto → Prop}
theorem forP_nil {ρ : Ev} {S : Sto} {D : En} {kk : Kp D} : Sn (forP tg b [] ρ S) D kk = D.nx ρ S := nr
/-- a turn, the next turns -/
theorem forP_cons {v : Val} {vs : List Val} {ρ ρ1 : Ev} {S : Sto} (e : tg.set v ρ = some ρ1) (h : Sn (b ρ1 S) ⟨fun ρ S => Sn (forP tg b vs ρ S) ⟨N, R, B, C, E⟩, R, N, fun ρ S => Sn (forP tg b vs ρ S) ⟨N, R, B, C, E⟩, E⟩) : Sn (forP tg b (v :: vs) ρ S) ⟨N, R, B, C, E⟩ := by
  unfold forP
  rw [e]
  dsimp only
  cases eb : b ρ1 S <;> (rw [eb] at h; exact h)
theorem sn_forPM {α : Type} {f : α → Val} {xs : List α} {ρ : Ev} {S : Sto} (I : List α → Ev → Sto → Prop) (init : I xs ρ S)
    (step : ∀ v r ρ S, v ∈ xs → I (v :: r) ρ S → ∃ ρ1, tg.set (f v) ρ = some ρ1 ∧ Sn (b ρ1 S) ⟨I r, R, N, I r, E⟩) (fin : ∀ ρ S, I [] ρ S → N ρ S) : Sn (forP tg b (xs.map f) ρ S) ⟨N, R, B, C, E⟩ := by
  have : ∀ (ys : List α) (ρ : Ev) (S : Sto), (∀ y ∈ ys, y ∈ xs) → I ys ρ S → Sn (forP tg b (ys.map f) ρ S) ⟨N, R, B, C, E⟩ := by
    intro ys
    induction ys with
    | nil => exact fun ρ S _ h => fin ρ S h
    | cons y ys ih =>
      intro ρ S hy h
      obtain ⟨ρ1, e, q⟩ := step y ys ρ S (hy y List.mem_cons_self) h
      refine forP_cons e (q.imp ?_ ?_ ?_ ?_ ?_)
      · exact fun ρ S z => ih ρ S (fun z hz => hy z (List.mem_cons_of_mem _ hz)) z
      · exact fun _ _ z => z
      · exact fun _ _ z => z
      · exact fun ρ S z => ih ρ S (fun z hz => hy z (List.mem_cons_of_mem _ hz)) z
      · exact fun _ _ _ _ z => z
  exact this xs ρ S (fun _ h => h) init
theorem rangeL_map (lo : Int) (n : Nat) : rangeL lo n = (List.range n).map fun (i : Nat) => Val.int (lo + (i : Int)) := nr
theorem sn_forPR {lo : Int} {n : Nat} {ρ : Ev} {S : Sto} (I : Nat → Ev → Sto → Prop) (init : I 0 ρ S)
    (step : ∀ i ρ S, i < n → I i ρ S → ∃ ρ1, tg.set (.int (lo + (i : Int))) ρ = some ρ1 ∧ Sn (b ρ1 S) ⟨I (i + 1), R, N, I (i + 1), E⟩) (fin : ∀ ρ S, I n ρ S → N ρ S) :
    Sn (forP tg b (rangeL lo n) ρ S) ⟨N, R, B, C, E⟩ := by
  have : ∀ (m i : Nat) (ρ : Ev) (S : Sto), i + m = n → I i ρ S → Sn (forP tg b ((List.range' i m).map fun (i : Nat) => Val.int (lo + (i : Int))) ρ S) ⟨N, R, B, C, E⟩ := by
    intro m
    induction m with
    | zero => intro i ρ S hi h; rw [List.range'_zero, List.map_nil]; exact fin ρ S (by rw [← hi]; exact h)
    | succ m ih =>
      intro i ρ S hi h
      rw [List.range'_succ, List.map_cons]
      obtain ⟨ρ1, e, q⟩ := step i ρ S (by omega) h
      refine forP_cons e (q.imp ?_ ?_ ?_ ?_ ?_)
      · exact fun ρ S z => ih (i + 1) ρ S (by omega) z
      · exact fun _ _ z => z
      · exact fun _ _ z => z
      · exact fun ρ S z => ih (i + 1) ρ S (by omega) z
      · exact fun _ _ _ _ z => z
  rw [rangeL_map, List.range_eq_range']
  exact this n 0 ρ S (by omega) init
/-- a while by a measure -/
theorem sn_while {t : BM} {s : SM} (M : Ev → Sto → Nat) (I : Ev → Sto → Prop)
    (step : ∀ ρ S, I ρ S → Rn (t ρ S) (fun c S1 => (c = true → Sn (s ρ S1) ⟨fun ρ' S' => I ρ' S' ∧ M ρ' S' < M ρ S, R, N, fun ρ' S' => I ρ' S' ∧ M ρ' S' < M ρ S, E⟩) ∧ (c = false → N ρ S1)) (fun c vs S => E c vs ρ S)) :
    ∀ {n : Nat} {ρ : Ev} {S : Sto}, I ρ S → M ρ S < n → Sn (whileM n t s ρ S) ⟨N, R, B, C, E⟩ := by
  intro n
  induction n with
  | zero => exact fun _ h => absurd h (Nat.not_lt_zero _)
  | succ n ih =>
    intro ρ S hI hM
    have := step ρ S hI
    unfold whileM
    rw [sn_toS]
    refine this.imp (fun c S1 h => ?_) (fun _ _ _ z => z)
    cases c with
    | false => simpa using h.2 rfl
    | true =>
      have h := h.1 rfl
      simp only [if_true]
      cases eb : s ρ S1 with
      | nx ρ' S' => rw [eb] at h; exact ih h.1 (by have := h.2; omega)
      | ct ρ' S' => rw [eb] at h; exact ih h.1 (by have := h.2; omega)
      | bk => rw [eb] at h; exact h
      | rt => rw [eb] at h; exact h
      | ex => rw [eb] at h; exact h
      | st => rw [eb] at h; exact h
end
/-! ### list comprehensions -/
section
variable {it : IP} {tg : Tgt} {tst : BM} {elt : EM} {ws : List Nat} {ρ : Ev} {S : Sto} {P : Val → Sto → Prop} {X : XP}
/-- each item one value -/
theorem lcGoP_map {α : Type} {f g : α → Val} {ρ0 : Ev} : ∀ {xs : List α}, (∀ x ∈ xs, ∃ ρ1, tg.set (f x) ρ0 = some ρ1 ∧ elt ρ1 S = .ok (g x) S) → lcGoP tg tYesM elt ρ0 (xs.map f) S = .ok (xs.map g) S
  | [], _ => rfl
  | x :: xs, h => by
    obtain ⟨ρ1, e1, e2⟩ := h x List.mem_cons_self
    rw [List.map_cons, List.map_cons]
    unfold lcGoP
    rw [e1]
    show ((noEx (elt ρ1 S)).bind _ : Res (List Val)) = _
    rw [e2]
    show (lcGoP tg tYesM elt ρ0 (xs.map f) S).bind _ = _
    rw [lcGoP_map fun y hy => h y (List.mem_cons_of_mem _ hy)]; rfl
theorem eLcP_map {α : Type} {f g : α → Val} {xs : List α} (hit : it ρ S = .ok (xs.map f) S) (hl : xs.length ≤ sizeLine) (he : ∀ x ∈ xs, ∃ ρ1, tg.set (f x) (wipeE ρ ws) = some ρ1 ∧ elt ρ1 S = .ok (g x) S) : eLcP it tg tYesM elt ws ρ S = .ok (.lst (xs.map g)) S := by
  unfold eLcP
  rw [hit]
  show (lcGoP _ _ _ _ _ _).bind _ = _
  rw [lcGoP_map he]
  show (if (xs.map g).length ≤ sizeLine then _ else _) = _
  rw [if_pos (by simpa using hl)]
/-- .. with a test -/
theorem lcGoP_filter {α : Type} {f g : α → Val} {t : α → Bool} {ρ0 : Ev} : ∀ {xs : List α}, (∀ x ∈ xs, ∃ ρ1, tg.set (f x) ρ0 = some ρ1 ∧ tst ρ1 S = .ok (t x) S ∧ (t x = true → elt ρ1 S = .ok (g x) S)) → lcGoP tg tst elt ρ0 (xs.map f) S = .ok ((xs.filter t).map g) S
  | [], _ => rfl
  | x :: xs, h => by
    obtain ⟨ρ1, e1, e2, e3⟩ := h x List.mem_cons_self
    rw [List.map_cons]
    unfold lcGoP
    rw [e1]
    dsimp only
    rw [e2]
    have ih := lcGoP_filter (xs := xs) fun y hy => h y (List.mem_cons_of_mem _ hy)
    cases ht : t x with
    | false =>
      show lcGoP tg tst elt ρ0 (xs.map f) S = _
      rw [ih, List.filter_cons, ht]; rfl
    | true =>
      show ((noEx (elt ρ1 S)).bind _ : Res (List Val)) = _
      rw [e3 ht]
      show ((lcGoP tg tst elt ρ0 (xs.map f) S).bind _ : Res (List Val)) = _
      rw [ih, List.filter_cons, ht]; rfl
theorem eLcP_filter {α : Type} {f g : α → Val} {t : α → Bool} {xs : List α} (hit : it ρ S = .ok (xs.map f) S) (hl : xs.length ≤ sizeLine) (he : ∀ x ∈ xs, ∃ ρ1, tg.set (f x) (wipeE ρ ws) = some ρ1 ∧ tst ρ1 S = .ok (t x) S ∧ (t x = true → elt ρ1 S = .ok (g x) S)) : eLcP it tg tst elt ws ρ S = .ok (.lst ((xs.filter t).map g)) S := by
  unfold eLcP
  rw [hit]
  show (lcGoP _ _ _ _ _ _).bind _ = _
  rw [lcGoP_filter he]
  show (if ((xs.filter t).map g).length ≤ sizeLine then _ else _) = _
  rw [if_pos (by rw [List.length_map]; exact Nat.le_trans (List.length_filter_le _ _) hl)]
end
/-- an exact answer -/
theorem rn_eq {α : Type} {r : Res α} {a : α} {S : Sto} (h : Rn r (fun v S' => v = a ∧ S' = S) X0) : r = .ok a S := by
  obtain ⟨v, S', e, rfl, rfl⟩ := h.get
  exact e
theorem rn_eqx {α : Type} {r : Res α} {c : Nat} {vs : List Val} {S : Sto} (h : Rn r (fun _ _ => False) (fun c' vs' S' => c' = c ∧ vs' = vs ∧ S' = S)) : r = .ex c vs S := by
  cases r with
  | ok => exact h.elim
  | ex => obtain ⟨rfl, rfl, rfl⟩ := h; rfl
  | st => exact h.elim
theorem lf_fun {κ : List Kd} {F G : FM} (h : LF κ .v F G) {vs : List Val} {v : Val} {Z1 : Sto} (hv : EvR κ [] S0 (vs.map some) (vs.map some)) (e : G vs Z0 = .ok v Z1) : ∃ S1, F vs S0 = .ok v S1 := by
  have := h [] Z0 S0 vs vs hv { cr := fun p hp => (nomatch hp), inj := fun p hp => (nomatch hp), wf := fun k o h => (nomatch h), wz := fun k o h => (nomatch h) }
  rw [e] at this
  obtain ⟨w, S1, e1, _, _, q⟩ := this
  exact ⟨S1, by rw [e1, show w = v from q]⟩
end PM

/-! PP, part h: plain reasoning: equality of data -/
namespace PM
open PySem PySem.Spec L2
/-- data without truth values, of a bounded depth: what compares as it stands -/
def nc : Nat → Val → Bool
  | _, .non => true
  | _, .int _ => true
  | _, .str x => PyData.strOk x
  | k + 1, .tup xs => xs.all (nc k)
  | k + 1, .lst xs => xs.all (nc k)
  | _, _ => false
section
variable {k : Nat} {xs : List Val}
@[simp] theorem nc_non : nc k .non = true := by cases k <;> rfl
@[simp] theorem nc_int {i : Int} : nc k (.int i) = true := by cases k <;> rfl
@[simp] theorem nc_str {x : Str} : nc k (.str x) = PyData.strOk x := by cases k <;> rfl
@[simp] theorem nc_tup : nc (k + 1) (.tup xs) = xs.all (nc k) := rfl
@[simp] theorem nc_lst : nc (k + 1) (.lst xs) = xs.all (nc k) := rfl
end
mutual
theorem nc_dat : ∀ {k : Nat} {v : Val}, nc k v = true → ∃ d, v.dat = some d ∧ lay k d = true
  | _, .non, _ => ⟨_, dat_non, lay_none⟩
  | _, .int i, _ => ⟨_, dat_int, lay_int i⟩
  | _, .str x, h => ⟨_, dat_str, lay_str (by simpa using h)⟩
  | k + 1, .tup xs, h => by
    obtain ⟨ds, e, q⟩ := nc_dats (k := k) (vs := xs) (by simpa using h)
    exact ⟨.tuple ds, by rw [dat_tup, e]; rfl, lay_tuple q⟩
  | k + 1, .lst xs, h => by
    obtain ⟨ds, e, q⟩ := nc_dats (k := k) (vs := xs) (by simpa using h)
    exact ⟨.list ds, by rw [dat_lst, e]; rfl, lay_list q⟩
  | 0, .tup _, h => by cases h
  | 0, .lst _, h => by cases h
  | 0, .bl _, h => by cases h
  | _ + 1, .bl _, h => by cases h
  | 0, .ty _, h => by cases h
  | _ + 1, .ty _, h => by cases h
  | 0, .fz _, h => by cases h
  | _ + 1, .fz _, h => by cases h
  | 0, .kt _, h => by cases h
  | _ + 1, .kt _, h => by cases h
  | 0, .dk _ _, h => by cases h
  | _ + 1, .dk _ _, h => by cases h
  | 0, .dt _ _, h => by cases h
  | _ + 1, .dt _ _, h => by cases h
  | 0, .ins _ _, h => by cases h
  | _ + 1, .ins _ _, h => by cases h
  | 0, .err _ _, h => by cases h
  | _ + 1, .err _ _, h => by cases h
  | 0, .cls _, h => by cases h
  | _ + 1, .cls _, h => by cases h
  | 0, .loc _, h => by cases h
  | _ + 1, .loc _, h => by cases h
theorem nc_dats : ∀ {k : Nat} {vs : List Val}, (∀ v ∈ vs, nc k v = true) → ∃ ds, Val.dats vs = some ds ∧ ∀ d ∈ ds, lay k d = true
  | _, [], _ => ⟨[], dats_nil, fun _ h => nomatch h⟩
  | k, v :: vs, h => by
    obtain ⟨d, e1, q1⟩ := nc_dat (h v List.mem_cons_self)
    obtain ⟨ds, e2, q2⟩ := nc_dats fun w hw => h w (List.mem_cons_of_mem _ hw)
    exact ⟨d :: ds, dats_cons e1 e2, fun z hz => by
      rcases List.mem_cons.mp hz with rfl | hz
      · exact q1
      · exact q2 z hz⟩
end
mutual
/-- the data tell the value -/
theorem nc_eqv : ∀ {j k : Nat} {v w : Val} {d e : PyData}, nc j v = true → nc k w = true → v.dat = some d → w.dat = some e → (PyData.eqv d e = true ↔ v = w)
  | j, k, v, w, d, e, hv, hw, e1, e2 => by
    cases v with
    | non =>
      rw [dat_non] at e1; cases e1
      cases w with
      | non => rw [dat_non] at e2; cases e2; simp [PyData.eqv]
      | int => rw [dat_int] at e2; cases e2; simp [PyData.eqv]
      | str => rw [dat_str] at e2; cases e2; simp [PyData.eqv]
      | tup => rw [dat_tup] at e2; obtain ⟨es, h2, rfl⟩ := Option.map_eq_some_iff.mp e2; simp [PyData.eqv]
      | lst => rw [dat_lst] at e2; obtain ⟨es, h2, rfl⟩ := Option.map_eq_some_iff.mp e2; simp [PyData.eqv]
      | _ => cases k <;> cases hw
    | int i =>
      rw [dat_int] at e1; cases e1
      cases w with
      | non => rw [dat_non] at e2; cases e2; simp [PyData.eqv]
      | int => rw [dat_int] at e2; cases e2; simp [PyData.eqv]
      | str => rw [dat_str] at e2; cases e2; simp [PyData.eqv]
      | tup => rw [dat_tup] at e2; obtain ⟨es, h2, rfl⟩ := Option.map_eq_some_iff.mp e2; simp [PyData.eqv]
      | lst => rw [dat_lst] at e2; obtain ⟨es, h2, rfl⟩ := Option.map_eq_some_iff.mp e2; simp [PyData.eqv]
      | _ => cases k <;> cases hw
    | str x =>
      rw [dat_str] at e1; cases e1
      cases w with
      | non => rw [dat_non] at e2; cases e2; simp [PyData.eqv]
      | int => rw [dat_int] at e2; cases e2; simp [PyData.eqv]
      | str => rw [dat_str] at e2; cases e2; simp [PyData.eqv]
      | tup => rw [dat_tup] at e2; obtain ⟨es, h2, rfl⟩ := Option.map_eq_some_iff.mp e2; simp [PyData.eqv]
      | lst => rw [dat_lst] at e2; obtain ⟨es, h2, rfl⟩ := Option.map_eq_some_iff.mp e2; simp [PyData.eqv]
      | _ => cases k <;> cases hw
    | tup xs =>
      rw [dat_tup] at e1; obtain ⟨ds, h1, rfl⟩ := Option.map_eq_some_iff.mp e1
      cases w with
      | tup ys =>
        rw [dat_tup] at e2; obtain ⟨es, h2, rfl⟩ := Option.map_eq_some_iff.mp e2
        cases j with
        | zero => cases hv
        | succ j =>
          cases k with
          | zero => cases hw
          | succ k =>
            have := nc_eqvs (by simpa using hv) (by simpa using hw) h1 h2
            unfold PyData.eqv
            rw [this]; simp
      | non => rw [dat_non] at e2; cases e2; simp [PyData.eqv]
      | int => rw [dat_int] at e2; cases e2; simp [PyData.eqv]
      | str => rw [dat_str] at e2; cases e2; simp [PyData.eqv]
      | lst => rw [dat_lst] at e2; obtain ⟨es, h2, rfl⟩ := Option.map_eq_some_iff.mp e2; simp [PyData.eqv]
      | _ => cases k <;> cases hw
    | lst xs =>
      rw [dat_lst] at e1; obtain ⟨ds, h1, rfl⟩ := Option.map_eq_some_iff.mp e1
      cases w with
      | lst ys =>
        rw [dat_lst] at e2; obtain ⟨es, h2, rfl⟩ := Option.map_eq_some_iff.mp e2
        cases j with
        | zero => cases hv
        | succ j =>
          cases k with
          | zero => cases hw
          | succ k =>
            have := nc_eqvs (by simpa using hv) (by simpa using hw) h1 h2
            unfold PyData.eqv
            rw [this]; simp
      | non => rw [dat_non] at e2; cases e2; simp [PyData.eqv]
      | int => rw [dat_int] at e2; cases e2; simp [PyData.eqv]
      | str => rw [dat_str] at e2; cases e2; simp [PyData.eqv]
      | tup => rw [dat_tup] at e2; obtain ⟨es, h2, rfl⟩ := Option.map_eq_some_iff.mp e2; simp [PyData.eqv]
      | _ => cases k <;> cases hw
    | _ => cases j <;> cases hv
theorem nc_eqvs : ∀ {j k : Nat} {vs ws : List Val} {ds es : List PyData}, (∀ v ∈ vs, nc j v = true) → (∀ w ∈ ws, nc k w = true) → Val.dats vs = some ds → Val.dats ws = some es → (PyData.eqvAll ds es = true ↔ vs = ws)
  | _, _, [], [], _, _, _, _, h1, h2 => by rw [dats_nil] at h1 h2; cases h1; cases h2; simp [PyData.eqvAll]
  | _, _, [], w :: ws, _, _, _, hw, h1, h2 => by
    rw [dats_nil] at h1; cases h1
    obtain ⟨d, q1, _⟩ := nc_dat (hw w List.mem_cons_self)
    obtain ⟨ds, q2, _⟩ := nc_dats fun z hz => hw z (List.mem_cons_of_mem _ hz)
    rw [dats_cons q1 q2] at h2; cases h2; simp [PyData.eqvAll]
  | _, _, v :: vs, [], _, _, hv, _, h1, h2 => by
    rw [dats_nil] at h2; cases h2
    obtain ⟨d, q1, _⟩ := nc_dat (hv v List.mem_cons_self)
    obtain ⟨ds, q2, _⟩ := nc_dats fun z hz => hv z (List.mem_cons_of_mem _ hz)
    rw [dats_cons q1 q2] at h1; cases h1; simp [PyData.eqvAll]
  | _, _, v :: vs, w :: ws, _, _, hv, hw, h1, h2 => by
    obtain ⟨d, q1, _⟩ := nc_dat (hv v List.mem_cons_self)
    obtain ⟨ds, q2, _⟩ := nc_dats fun z hz => hv z (List.mem_cons_of_mem _ hz)
    rw [dats_cons q1 q2] at h1; cases h1
    obtain ⟨e, q3, _⟩ := nc_dat (hw w List.mem_cons_self)
    obtain ⟨es, q4, _⟩ := nc_dats fun z hz => hw z (List.mem_cons_of_mem _ hz)
    rw [dats_cons q3 q4] at h2; cases h2
    unfold PyData.eqvAll
    rw [Bool.and_eq_true, nc_eqv (hv v List.mem_cons_self) (hw w List.mem_cons_self) q1 q3, nc_eqvs (fun z hz => hv z (List.mem_cons_of_mem _ hz)) (fun z hz => hw z (List.mem_cons_of_mem _ hz)) q2 q4]
    simp
end
theorem datS_nc {k : Nat} {v : Val} {S : Sto} (h : nc k v = true) : datS S v = v.dat := by
  unfold datS
  cases v <;> first | rfl | (cases k <;> cases h)
open Classical in
theorem v_eqN {v w : Val} {S : Sto} (hv : nc 60 v = true) (hw : nc 60 w = true) : vEq v w S = .ok (.bl (decide (v = w))) S := by
  obtain ⟨d, e1, q1⟩ := nc_dat hv
  obtain ⟨e, e2, q2⟩ := nc_dat hw
  unfold vEq
  rw [datS_nc hv, datS_nc hw, e1, e2]
  dsimp only
  rw [if_pos ⟨shaped_of q1 (by decide), shaped_of q2 (by decide)⟩]
  congr 2
  exact Bool.eq_iff_iff.mpr ((nc_eqv hv hw e1 e2).trans (by simp))
open Classical in
theorem v_neN {v w : Val} {S : Sto} (hv : nc 60 v = true) (hw : nc 60 w = true) : vNe v w S = .ok (.bl (!decide (v = w))) S := by
  obtain ⟨d, e1, q1⟩ := nc_dat hv
  obtain ⟨e, e2, q2⟩ := nc_dat hw
  unfold vNe
  rw [datS_nc hv, datS_nc hw, e1, e2]
  dsimp only
  rw [if_pos ⟨shaped_of q1 (by decide), shaped_of q2 (by decide)⟩]
  congr 3
  exact Bool.eq_iff_iff.mpr ((nc_eqv hv hw e1 e2).trans (by simp))
theorem v_eqR {v : Val} {S : Sto} (hv : nc 60 v = true) : vEq v v S = .ok (.bl true) S := by rw [v_eqN hv hv]; simp
theorem v_neR {v : Val} {S : Sto} (hv : nc 60 v = true) : vNe v v S = .ok (.bl false) S := by rw [v_neN hv hv]; simp
theorem any_eqv {k j : Nat} {v : Val} {d : PyData} (hv : nc k v = true) (e : v.dat = some d) : ∀ {ws : List Val} {es : List PyData}, (∀ w ∈ ws, nc j w = true) → Val.dats ws = some es → ((es.any fun z => PyData.eqv z d) = true ↔ v ∈ ws)
  | [], es, _, h => by rw [dats_nil] at h; cases h; simp
  | w :: ws, es, hw, h => by
    obtain ⟨d2, q1, _⟩ := nc_dat (hw w List.mem_cons_self)
    obtain ⟨ds, q2, _⟩ := nc_dats fun z hz => hw z (List.mem_cons_of_mem _ hz)
    rw [dats_cons q1 q2] at h; cases h
    rw [List.any_cons, Bool.or_eq_true, any_eqv hv e (fun z hz => hw z (List.mem_cons_of_mem _ hz)) q2, nc_eqv (hw w List.mem_cons_self) hv q1 e, List.mem_cons]
    exact or_congr_left eq_comm
open Classical in
/-- v in a list -/
theorem v_inL {ng : Bool} {v : Val} {ws : List Val} {S : Sto} (hv : nc 60 v = true) (hw : ∀ w ∈ ws, nc 59 w = true) : vInW ng v (.lst ws) S = .ok (.bl (ng != decide (v ∈ ws))) S := by
  obtain ⟨d, e1, q1⟩ := nc_dat hv
  have hl : nc 60 (.lst ws) = true := by rw [nc_lst]; exact List.all_eq_true.mpr hw
  obtain ⟨ds, e2, q2⟩ := nc_dats hw
  unfold vInW
  dsimp only
  rw [datS_nc hv, datS_nc hl, e1, dat_lst, e2]
  dsimp only [Option.map]
  rw [if_pos ⟨shaped_of q1 (by decide), shaped_of (lay_list q2) (by decide)⟩]
  have b : (ds.any fun z => PyData.eqv z d) = decide (v ∈ ws) := Bool.eq_iff_iff.mpr ((any_eqv hv e1 hw e2).trans (by simp))
  rw [b]
  cases ng <;> simp
/-- flat values -/
def fl : Val → Bool
  | .non => true | .int _ => true | .str x => PyData.strOk x | _ => false
theorem fl_nc {v : Val} (h : fl v = true) : nc 0 v = true := by cases v <;> first | rfl | (cases h; done) | exact h
theorem fl_flatD {v : Val} {d : PyData} (h : fl v = true) (e : v.dat = some d) : flatD d = true := by
  cases v <;> first | (rw [dat_non] at e; cases e; rfl) | (rw [dat_int] at e; cases e; rfl) | (rw [dat_str] at e; cases e; rfl) | cases h
open Classical in
theorem v_inT {ng : Bool} {v : Val} {ws : List Val} {S : Sto} (hv : fl v = true) (hw : ∀ w ∈ ws, fl w = true) : vInW ng v (.tup ws) S = .ok (.bl (ng != decide (v ∈ ws))) S := by
  obtain ⟨d, e1, q1⟩ := nc_dat (fl_nc hv)
  obtain ⟨ds, e2, q2⟩ := nc_dats fun w h => fl_nc (hw w h)
  have q3 : ds.all flatD = true := by
    clear q2
    induction ws generalizing ds with
    | nil => rw [dats_nil] at e2; cases e2; rfl
    | cons w ws ih =>
      obtain ⟨d2, p1, _⟩ := nc_dat (fl_nc (hw w List.mem_cons_self))
      obtain ⟨ds2, p2, _⟩ := nc_dats fun z hz => fl_nc (hw z (List.mem_cons_of_mem w hz))
      rw [dats_cons p1 p2] at e2; cases e2
      rw [List.all_cons, fl_flatD (hw w List.mem_cons_self) p1, ih (fun z hz => hw z (List.mem_cons_of_mem _ hz)) _ p2]; rfl
  unfold vInW
  dsimp only
  rw [datS_nc (fl_nc hv), e1, e2]
  dsimp only
  rw [if_pos ⟨fl_flatD hv e1, q3⟩]
  have b : (ds.any fun z => PyData.eqv z d) = decide (v ∈ ws) := Bool.eq_iff_iff.mpr ((any_eqv (fl_nc hv) e1 (fun w h => fl_nc (hw w h)) e2).trans (by simp))
  rw [b]
  cases ng <;> simp
theorem cut_takeI {α : Type} {xs : List α} {i : Int} (h : 0 ≤ i) : cutG xs none (some i) = xs.take i.toNat := by
  obtain ⟨n, rfl⟩ := Int.eq_ofNat_of_zero_le h
  exact cut_take
theorem cut_dropI {α : Type} {xs : List α} {i : Int} (h : 0 ≤ i) : cutG xs (some i) none = xs.drop i.toNat := by
  obtain ⟨n, rfl⟩ := Int.eq_ofNat_of_zero_le h
  exact cut_drop
theorem atI_I {α : Type} {xs : List α} {i : Int} (h : 0 ≤ i) : atI xs i = xs[i.toNat]? := by
  obtain ⟨n, rfl⟩ := Int.eq_ofNat_of_zero_le h
  exact atI_n
@[simp] theorem cut_s {α : Type} {xs : List α} {n : Nat} : cutG xs none (some ((n : Int) + 1)) = xs.take (n + 1) := cut_take (m := n + 1)
/-- branches on a truth value -/
def bK (v : Val) (A B : Prop) : Prop := match v with
  | .bl true => A
  | .bl false => B
  | _ => False
@[simp ↓ high] theorem bK_t {A B : Prop} : bK (.bl true) A B = A := nr
@[simp ↓ high] theorem bK_f {A B : Prop} : bK (.bl false) A B = B := nr
@[simp ↓] theorem bK_d {b : Bool} {A B : Prop} : bK (.bl b) A B = ((b = true → A) ∧ (b = false → B)) := by cases b <;> simp
section
variable {X : XP} {ρ : Ev} {S : Sto} {P : Val → Sto → Prop}
@[simp ↓ high] theorem e_and2 {a b : EM} {kk : Kp (P, X)} : Rn (eAnd a b ρ S) P X kk = Rn (a ρ S) (fun v S1 => bK v (Rn (b ρ S1) P X) (P (.bl false) S1)) X := by
  unfold eAnd; rw [rn_bind]; refine Rn_ext fun v S1 => ?_; cases v <;> first | rfl | (rename_i b; cases b <;> rfl)
@[simp ↓ high] theorem e_or2 {a b : EM} {kk : Kp (P, X)} : Rn (eOr a b ρ S) P X kk = Rn (a ρ S) (fun v S1 => bK v (P (.bl true) S1) (Rn (b ρ S1) P X)) X := by
  unfold eOr; rw [rn_bind]; refine Rn_ext fun v S1 => ?_; cases v <;> first | rfl | (rename_i b; cases b <;> rfl)
@[simp ↓ high] theorem e_chainP2 {o o' : Val → Val → Sto → Res Val} {a b c : EM} {kk : Kp (P, X)} : Rn (eChainP o o' a b c ρ S) P X kk = Rn (a ρ S) (fun v S1 => Rn (b ρ S1) (fun w S2 => Rn ((o v w Z0).onto S2) (fun k S3 => bK k (Rn (c ρ S3) (fun z S4 => Rn ((o' w z Z0).onto S4) P X) X) (P (.bl false) S3)) X) X) X := by
  unfold eChainP
  rw [rn_bind]; refine Rn_ext fun v S1 => ?_
  rw [rn_bind]; refine Rn_ext fun w S2 => ?_
  rw [rn_bind]; refine Rn_ext fun k S3 => ?_
  cases k <;> first | rfl | skip
  rename_i b
  cases b
  · rfl
  · show Rn (Res.bind _ _) P X = Rn _ _ _
    rw [rn_bind]
end
@[simp ↓] theorem v_isN0 {S : Sto} : vIsN .non .non S = .ok (.bl true) S := nr
@[simp ↓] theorem v_isNT {xs : List Val} {S : Sto} : vIsN (.tup xs) .non S = .ok (.bl false) S := nr
@[simp ↓] theorem v_isNL {xs : List Val} {S : Sto} : vIsN (.lst xs) .non S = .ok (.bl false) S := nr
@[simp ↓] theorem v_isNI {i : Int} {S : Sto} : vIsN (.int i) .non S = .ok (.bl false) S := nr
@[simp ↓] theorem v_isNO {c : Nat} {vs : List Val} {S : Sto} : vIsN (.ins c vs) .non S = .ok (.bl false) S := nr
@[simp ↓] theorem v_notN0 {S : Sto} : vNotN .non .non S = .ok (.bl false) S := nr
@[simp ↓] theorem v_notNT {xs : List Val} {S : Sto} : vNotN (.tup xs) .non S = .ok (.bl true) S := nr
@[simp ↓] theorem v_notNL {xs : List Val} {S : Sto} : vNotN (.lst xs) .non S = .ok (.bl true) S := nr
@[simp ↓] theorem v_notNI {i : Int} {S : Sto} : vNotN (.int i) .non S = .ok (.bl true) S := nr
@[simp ↓] theorem v_notNO {c : Nat} {vs : List Val} {S : Sto} : vNotN (.ins c vs) .non S = .ok (.bl true) S := nr
end PM

/-! PP, part i: tuples and lists of whole numbers -/
namespace PM
open PySem PySem.Spec L2
def iv (xs : List Int) : Val := .tup (xs.map Val.int)
def il (xs : List Int) : Val := .lst (xs.map Val.int)
def oi (o : Option Int) : Option Val := o.map Val.int
section
variable {S : Sto} {a b i j : Int} {l k : List Int} {bx : Bool}
@[simp] theorem oi_s : oi (some a) = some (.int a) := nr
@[simp] theorem oi_n : oi none = none := nr
@[simp ↓] theorem v_lenIv : vLen [iv l] S = .ok (.int (l.length : Nat)) S := by unfold iv; rw [v_lenT, List.length_map]
@[simp ↓] theorem v_lenIl : vLen [il l] S = .ok (.int (l.length : Nat)) S := by unfold il; rw [v_lenL, List.length_map]
@[simp ↓] theorem v_ixIv : vIx (iv l) (.int i) S = vr (oi (atI l i)) S := by unfold iv oi; rw [v_ixT, atI_map]
@[simp ↓] theorem v_ixIl : vIx (il l) (.int i) S = vr (oi (atI l i)) S := by unfold il oi; rw [v_ixL, atI_map]
theorem v_tT {xs ys : List Val} (h : xs.length + ys.length ≤ sizeLine) : vAdd bx (.tup xs) (.tup ys) S = .ok (.tup (xs ++ ys)) S := by rw [v_addT, if_pos h]
@[simp] theorem sizeLine_eq : sizeLine = 16777216 := by decide +kernel
@[simp ↓] theorem v_consIv (h : l.length ≤ 1000000) : vAdd bx (.tup [.int a]) (iv l) S = .ok (iv (a :: l)) S := by
  unfold iv; rw [v_addT, if_pos (by simp; omega)]; simp
@[simp ↓] theorem v_snocIv (h : l.length ≤ 1000000) : vAdd bx (iv l) (.tup [.int a]) S = .ok (iv (l ++ [a])) S := by
  unfold iv; rw [v_addT, if_pos (by simp; omega)]; simp
@[simp ↓] theorem v_addIv (h : l.length + k.length ≤ 1000000) : vAdd bx (iv l) (iv k) S = .ok (iv (l ++ k)) S := by
  unfold iv; rw [v_addT, if_pos (by simp; omega)]; simp
@[simp ↓] theorem v_addIl (h : l.length + k.length ≤ 1000000) : vAdd false (il l) (il k) S = .ok (il (l ++ k)) S := by
  unfold il; rw [v_addL, if_pos (by simp; omega)]; simp
@[simp ↓ high] theorem sn_guard {c : Prop} [Decidable c] {r : SRes} {D : En} {kk : Kp D} : Sn (if c then r else .st) D kk = (c ∧ Sn r D) := by
  by_cases h : c <;> simp [h, Sn]
@[simp] theorem truIv : truOf S (iv l) = some (!l.isEmpty) := by unfold iv; rw [truT]; cases l <;> rfl
@[simp] theorem truIl : truOf S (il l) = some (!l.isEmpty) := by unfold il; rw [truL]; cases l <;> rfl
theorem cutG_map {α β : Type} {f : α → β} {xs : List α} {lo hi : Option Int} : cutG (xs.map f) lo hi = (cutG xs lo hi).map f := by
  unfold cutG; rw [List.length_map, List.map_take, List.map_drop]
@[simp ↓] theorem v_cutIv {lo hi : Option Int} : vCut bx (iv l) lo hi S = .ok (iv (cutG l lo hi)) S := by unfold iv; rw [v_cutT, cutG_map]
@[simp ↓] theorem v_cutIl {lo hi : Option Int} : vCut false (il l) lo hi S = .ok (il (cutG l lo hi)) S := by unfold il; rw [v_cutL, cutG_map]; rfl
@[simp] theorem items_iv : itemsP (iv l) = some (l.map Val.int) := nr
@[simp] theorem items_il : itemsP (il l) = some (l.map Val.int) := nr
@[simp] theorem rev_il : revP (il l) = some (l.reverse.map Val.int) := by unfold il; rw [rev_l, List.map_reverse]
@[simp ↓] theorem v_tupIv : vTuple [iv l] S = .ok (iv l) S := nr
@[simp ↓] theorem v_tupIl : vTuple [il l] S = .ok (iv l) S := nr
@[simp ↓] theorem v_listIv : vList false [iv l] S = .ok (il l) S := nr
@[simp ↓] theorem v_listIl : vList false [il l] S = .ok (il l) S := nr
@[simp ↓] theorem v_revIl : vRevL false (il l) S = .ok (il l.reverse) S := by unfold il; rw [v_revL, List.map_reverse]; rfl
@[simp ↓] theorem v_isiIv {n : Tg} : vIsi [iv l, .ty n] S = .ok (.bl (isA .tup n)) S := nr
@[simp ↓] theorem v_isiIl {n : Tg} : vIsi [il l, .ty n] S = .ok (.bl (isA .lst n)) S := nr
@[simp] theorem nc_iv {k : Nat} : nc (k + 1) (iv l) = true := by unfold iv; rw [nc_tup, List.all_map]; simp [Function.comp_def]
@[simp] theorem nc_il {k : Nat} : nc (k + 1) (il l) = true := by unfold il; rw [nc_lst, List.all_map]; simp [Function.comp_def]
theorem map_int_inj : ∀ {l k : List Int}, l.map Val.int = k.map Val.int → l = k
  | [], [], _ => rfl
  | [], _ :: _, h => by cases h
  | _ :: _, [], h => by cases h
  | a :: l, b :: k, h => by
    rw [List.map_cons, List.map_cons] at h
    obtain ⟨h1, h2⟩ := List.cons.inj h
    cases h1
    rw [map_int_inj h2]
@[simp] theorem iv_inj : iv l = iv k ↔ l = k := ⟨fun h => map_int_inj (Val.tup.inj h), fun h => by rw [h]⟩
@[simp] theorem il_inj : il l = il k ↔ l = k := ⟨fun h => map_int_inj (Val.lst.inj h), fun h => by rw [h]⟩
@[simp] theorem iv_nil : Val.tup [] = iv [] := nr
@[simp] theorem il_nil : Val.lst [] = il [] := nr
@[simp ↓] theorem v_isNIv : vIsN (iv l) .non S = .ok (.bl false) S := nr
@[simp ↓] theorem v_notNIv : vNotN (iv l) .non S = .ok (.bl true) S := nr
@[simp] theorem noErr_iv : noErr (iv l) = true := by
  unfold iv noErr
  induction l with
  | nil => rfl
  | cons a l ih => rw [List.map_cons]; unfold noErrs; rw [ih]; rfl
@[simp ↓] theorem s_lsPil {f : List Val → SRes} {D : En} {kk : Kp D} : Sn (lsP (some (il l)) f) D kk = Sn (f (l.map Val.int)) D := nr
theorem lst_snoc : Val.lst (l.map Val.int ++ [Val.int a]) = il (l ++ [a]) := by unfold il; rw [List.map_append]; rfl
end
/-! great bounds, where omega meets a raw number -/
theorem bN {n k : Nat} (h : n ≤ 100000) (hk : 100000 ≤ k := by decide) : n ≤ k := Nat.le_trans h hk
theorem bNl {n k : Nat} (h : n ≤ 100000) (hk : 100000 < k := by decide) : n < k := Nat.lt_of_le_of_lt h hk
theorem bI {n k : Int} (h : n ≤ 100000) (hk : 100000 ≤ k := by decide) : n ≤ k := Int.le_trans h hk
theorem bIl {n k : Int} (h : n ≤ 100000) (hk : 100000 < k := by decide) : n < k := Int.lt_of_le_of_lt h hk
/-- the law's own def -/
theorem lf_law {F G : FM} (h : LF [.s] .v F G) {v : Val} (e : G [v] Z0 = .ok (.bl true) Z0) : ∃ S', F [v] S0 = .ok (.bl true) S' :=
  lf_fun h ⟨rfl, rfl, fun i kd hk => by
    cases i with
    | zero => simp at hk; subst hk; exact rfl
    | succ i => simp at hk, fun i j kd k _ hk ho _ => by
    cases i with
    | zero => simp at hk; subst hk; cases ho
    | succ i => simp at hk⟩ e
/-! try -/
section
variable {ρ : Ev} {S : Sto} {N : Ev → Sto → Prop} {R : Val → Sto → Prop} {B C : Ev → Sto → Prop} {E : Nat → List Val → Ev → Sto → Prop} {X : XP}
@[simp ↓] theorem sn_tryP {bd : SM} {i : Nat} {off : List Nat} {hs : List (Nat × SM)} {kk : Kp (⟨N, R, B, C, E⟩ : En)} :
    Sn (sTryP bd i off hs ρ S) ⟨N, R, B, C, E⟩ kk = Sn (bd ρ S) ⟨N, R, B, C, fun c vs ρ' S' => match hs.lookup c with
      | some s => Sn (suiteEndP i (s (ρ'.set i (some (.err c vs))) S')) ⟨N, R, B, C, E⟩
      | none => off.contains c = true ∧ E c vs ρ' S'⟩ := by
  unfold sTryP
  cases bd ρ S with
  | ex c vs ρ' S' =>
    rw [sn_ex]
    dsimp only
    cases hs.lookup c with
    | some s => rfl
    | none =>
      dsimp only
      by_cases h : off.contains c = true
      · rw [if_pos h]; simp only [h, true_and]; rfl
      · rw [if_neg h, sn_st]; simp only [h, Bool.false_eq_true, false_and]
  | _ => rfl
@[simp ↓] theorem sn_suiteP {r : SRes} {i : Nat} {kk : Kp (⟨N, R, B, C, E⟩ : En)} : Sn (suiteEndP i r) ⟨N, R, B, C, E⟩ kk = Sn r ⟨fun ρ S => (ρ.set i none).all oErr = true ∧ N (ρ.set i none) S, fun v S => noErr v = true ∧ R v S, fun _ _ => False, fun _ _ => False, fun _ _ _ _ => False⟩ := by
  cases r with
  | rt v S =>
    rw [sn_rt]; unfold suiteEndP; dsimp only
    by_cases h : noErr v = true
    · rw [if_pos h, sn_rt]; simp [h]
    · rw [if_neg h, sn_st]; simp [h]
  | nx ρ S =>
    rw [sn_nx]; unfold suiteEndP; dsimp only
    by_cases h : (ρ.set i none).all oErr = true
    · rw [if_pos h, sn_nx]; simp only [h, true_and]
    · rw [if_neg h, sn_st]; simp [h]
  | bk => rfl
  | ct => rfl
  | ex => rfl
  | st => rfl
@[simp ↓] theorem e_isErrP {i : Nat} {v : Val} {b : Bool} {P : Val → Sto → Prop} {kk : Kp (P, X)} : Rn (eIsErr i (eC v) b ρ S) P X kk = (∃ n, lk ρ i = some (.err n []) ∧ P (.bl b) S) := by
  by_cases q : ∃ n, lk ρ i = some (.err n [])
  · obtain ⟨n, q⟩ := q
    unfold eIsErr
    rw [lk_some.mp q]
    show P (.bl b) S = _
    rw [q]; simp
  · have : eIsErr i (eC v) b ρ S = .st := by
      unfold eIsErr
      split
      · rename_i n e; exact absurd ⟨n, lk_some.mpr e⟩ q
      · rfl
    rw [this, rn_st]
    refine propext ⟨False.elim, fun ⟨n, h, _⟩ => q ⟨n, h⟩⟩
end
theorem sz {n : Nat} (h : n ≤ 1000000) : n ≤ sizeLine := by have : sizeLine = 2 ^ 24 := rfl; omega
theorem szl {n : Nat} (h : n < 1000000) : n < sizeLine := by have : sizeLine = 2 ^ 24 := rfl; omega
end PM

set_option maxHeartbeats 1000000
/-! tuple(reversed(tuple)), at the library's level -/
namespace RT
open PySem PySem.Spec PyProof.Rows L2
theorem nolen_rt : typeLookup (.type "reversed") "__len__" = pure none := by rw [typeLookup_type, builtinLookup_eq_fast]; kernel_rfl
theorem hint_rt : typeLookup (.type "reversed") "__length_hint__" = pure (some (.builtin "reversed.__length_hint__")) := by rw [typeLookup_type, builtinLookup_eq_fast]; kernel_rfl
theorem slot_rt_hint : Slot "reversed" "__length_hint__" "reversed.__length_hint__" :=
  .of (owner := "reversed") (n := "__length_hint__") (by rw [typeLookup_type, builtinLookup_eq_fast]; kernel_rfl) (by decide +kernel) (by decide +kernel) (by decide +kernel)
    (by first | exact .inl (by decide +kernel) | exact .inr (by decide +kernel)) (by rw [isSubtype_type]; kernel_rfl)
theorem entry_rt_hint : entryFor table "reversed.__length_hint__" = some Builtin.«reversed.__length_hint__» := entryFor_of_tree (by kernel_rfl)
theorem args_rt_hint (a : Value) : argsOk "reversed.__length_hint__" ⟨[a], []⟩ := by
  unfold argsOk; rw [signature?_of (id := "reversed.__length_hint__") (n := ['_', '_', 't', 'n', 'i', 'h', '_', 'h', 't', 'g', 'n', 'e', 'l', '_', '_']) (o := ['d', 'e', 's', 'r', 'e', 'v', 'e', 'r']) (by kernel_rfl) owner_rt]; kernel_rfl
theorem tupAt {h h' : Heap} {a : Addr} {xs : Array Value} (x : IsTup h a xs) (e : ∀ o, h.get? a = some o → h'.get? a = some o) : IsTup h' a xs := let ⟨o, ho, r⟩ := x; ⟨o, e _ ho, r⟩
section
variable {prog : Program} {w : World} {A : Around} {E : Value → Shared → Prop} {s : Shared}
theorem hint_ok {it t : Addr} {items : Array Value} {Q : Bool → Shared → Prop} (hit : IsRt s.heap it t ((items.size : Int) - 1)) (ht : IsTup s.heap t items) (hsz : items.size ≤ sizeLine)
    (hQ : ∀ (b : Bool) (tk : Nat), s.toks ≤ tk → Q b { s with toks := tk }) : wpAny (model prog w) A (Builtin.List.listLengthHint (.ref it)) Q E s := by
  obtain ⟨o, ho, hc, hd⟩ := id hit
  have hl63 := line63
  rw [sizeLine_eq] at hsz
  unfold Builtin.List.listLengthHint
  refine wpAny_bind (wpAny_specialOf hit.typeIs nolen_rt ?_)
  show wpAny _ A (specialOf (Value.ref it) (Str.ofString "__length_hint__") >>= _) _ _ _
  refine wpAny_bind (wpAny_specialOf hit.typeIs hint_rt ?_)
  generalize hid : ("reversed.__length_hint__" : String) = id0
  wp_delta
  rw [show splitId id0 = some ("reversed", "__length_hint__") from by subst hid; decide +kernel]
  subst hid
  refine wpAny_bind (wpAny_isInstance (b := true) hit.typeIs (by rw [isSubtype_type]; kernel_rfl) ?_)
  rw [if_neg (by decide)]
  try dsimp only
  rw [if_neg (by decide +kernel)]
  refine wpAny_bind (wpAny_rule ?_)
  simp only [slot_rt_hint.bind]
  refine wpAny_bind (wpAny_pure ?_)
  refine wpAny_bind (wpAny_attempt (wpAny_call_entry slot_rt_hint hit.typeIs entry_rt_hint ?_ (args_rt_hint _)))
  unfold Builtin.«reversed.__length_hint__»
  refine wpAny_bind (wpAny_of_eq (a := Value.ref it) rfl ?_)
  refine wpAny_bind (wpAny_field ho hd (x := .ref t) rfl ?_)
  try dsimp only
  try rw [if_neg (by decide)]
  try dsimp only
  refine wpAny_bind (len_tuple ht (by omega) ?_)
  refine wpAny_bind (wpAny_of_eq (a := some ((items.size : Nat) : Int)) rfl ?_)
  try dsimp only
  refine wpAny_bind (wpAny_field (s := { s with toks := s.toks + 1 + 1 }) ho hd (x := rawInt ((items.size : Int) - 1)) rfl ?_)
  show wpAny _ _ (if (items.size : Int) < (items.size : Int) - 1 + 1 then _ else _) _ _ _
  rw [if_neg (by omega)]
  unfold retInt
  refine wpAny_bind (wpAny_mkInt ?_)
  refine wpAny_pure ⟨_, rfl, ?_⟩
  try dsimp only
  refine wpAny_bind (wpAny_of_eq (a := some ((items.size : Int) - 1 + 1)) rfl ?_)
  try dsimp only
  have h1 : Builtin.List.listFitsIndex ((items.size : Int) - 1 + 1) = true := by unfold Builtin.List.listFitsIndex; simp; omega
  rw [if_neg (by rw [h1]; decide), if_neg (by omega)]
  have h2 : Builtin.List.listTooLong ((items.size : Int) - 1 + 1).toNat = false := by unfold Builtin.List.listTooLong; rw [sizeLine_eq]; simp; omega
  rw [if_neg (by rw [h2]; decide)]
  exact wpAny_pure (hQ _ _ (by omega))
theorem Walks.tupRev {prog : Program} {w : World} {A : Around} (hh : A.handled = none) (I l : Addr) (hne : l ≠ I) (items : Array Value) (hsz : items.size ≤ sizeLine) :
    Walks prog w A I [I, l] [I] items.size (fun i v => items[items.size - 1 - i]? = some v) (fun i h => i ≤ items.size ∧ IsRt h I l ((items.size : Int) - 1 - (i : Int)) ∧ IsTup h l items) where
  sub := fun b hb => by simp at hb; simp [hb]
  frame := fun _ _ _ x hk => ⟨x.1, x.2.1.at fun o e => hk I (by simp) o e, tupAt x.2.2 fun o e => hk l (by simp) o e⟩
  item := fun i s Q E hi x hQ => by
    have e : (items.size : Int) - 1 - (i : Int) = ((items.size - 1 - i : Nat) : Int) := by omega
    have hit := x.2.1
    rw [e] at hit
    have hx : items[items.size - 1 - i]? = some (items[items.size - 1 - i]'(by omega)) := Array.getElem?_eq_getElem (by omega)
    refine next_rt_item hit x.2.2 hx hsz fun h' hit' hs' => ?_
    have e2 : ((items.size - 1 - i : Nat) : Int) - 1 = (items.size : Int) - 1 - ((i + 1 : Nat) : Int) := by omega
    rw [e2] at hit'
    exact hQ _ h' _ hx ⟨hi, hit', tupAt x.2.2 fun o eo => (hs'.2 l hne).trans eo⟩ fun b o hb eo => hs'.extBut b o (fun h => hb (by simp [h])) eo
  done := fun s Q E x hQ => by
    have e : (items.size : Int) - 1 - (items.size : Int) = -1 := by omega
    have hit := x.2.1
    rw [e] at hit
    exact next_rt_end hh hit fun h' he' => hQ h' s.toks fun b o hb eo => he' b o (fun h => hb (by simp [h])) eo
  self := fun _ _ _ _ x hQ => iter_rt x.2.1 hQ
theorem collect_revT {it l : Addr} {items : Array Value} {Q : List Value → Shared → Prop} (hh : A.handled = none) (hit : IsRt s.heap it l ((items.size : Int) - 1)) (hl : IsTup s.heap l items) (hne : l ≠ it) (hn : items.size ≤ sizeLine)
    (hQ : ∀ (h' : Heap) (tk : Nat) (acc : Array Value), (∀ b o, b ≠ it → s.heap.get? b = some o → h'.get? b = some o) → ItemsOf (fun i v => items[items.size - 1 - i]? = some v) acc items.size → Q acc.toList { s with heap := h', toks := tk }) :
    wpAny (model prog w) A (collect (.ref it)) Q E s := by
  have W := (Walks.tupRev (prog := prog) (w := w) (A := A.in1) hh it l hne items hn).toS
  obtain ⟨oi, hoi, _⟩ := id hit
  obtain ⟨ol, hol, _⟩ := id hl
  have hSi : s.heap.objs.size ≠ it := Nat.ne_of_gt (Heap.lt_size hoi)
  have hSl : s.heap.objs.size ≠ l := Nat.ne_of_gt (Heap.lt_size hol)
  have hSf : s.heap.objs.size ∉ [it, l] := by simp only [List.mem_cons, List.not_mem_nil, or_false, not_or]; exact ⟨hSi, hSl⟩
  unfold collect
  refine wpAny_bind (wpAny_runValue (codeAny_builtin F.entry_proto_collect ?_))
  rw [Around.under_plainId F.plain_proto_collect _]
  show wpAny _ A.in1 (newList [] >>= fun l' => again (.builtin "list.__iadd__" ⟨[l', .ref it], []⟩)) _ _ s
  refine wpAny_bind (wpAny_newObj_type ?_)
  refine wpAny_pure ⟨plainId_quiet F.plain_list_iadd _, codeAny_builtin F.entry_list_iadd ?_⟩
  rw [Around.under_plainId F.plain_list_iadd _]
  have hS₁ : (s.heap.push { cls := .type "list", data := .seq ([] : List Value).toArray }).get? s.heap.objs.size = some { cls := .type "list", data := .seq ([] : List Value).toArray } := Heap.get?_push_size _ rfl
  have hit1 : IsRt (s.heap.push { cls := .type "list", data := .seq ([] : List Value).toArray }) it l ((items.size : Int) - 1) := hit.at fun o e => Heap.get?_push_of_some _ e
  have hl1 : IsTup (s.heap.push { cls := .type "list", data := .seq ([] : List Value).toArray }) l items   := tupAt hl fun o e => Heap.get?_push_of_some _ e
  have hT : ({ s with heap := s.heap.push { cls := .type "list", data := .seq ([] : List Value).toArray } } : Shared).TypeIs (.ref it) "reversed" := IsRt.typeIs (s := { s with heap := s.heap.push { cls := .type "list", data := .seq ([] : List Value).toArray } }) hit1
  have h1 : Builtin.List.listSameRef (.ref s.heap.objs.size) (.ref it) = false := by simp [Builtin.List.listSameRef, hSi]
  show wpAny _ A.in1 (Builtin.List.listExtendWith (.ref s.heap.objs.size) (.ref it) (.ref s.heap.objs.size)) _ _ _
  unfold Builtin.List.listExtendWith
  refine wpAny_bind (wpAny_typeOf hT ?_)
  rw [if_neg (by rw [h1]; decide)]
  refine wpAny_bind (iter_rt (s := { s with heap := s.heap.push { cls := .type "list", data := .seq ([] : List Value).toArray } }) hit1 ?_)
  refine wpAny_bind (wpAny_holding ?_)
  refine hint_ok (s := { s with heap := s.heap.push { cls := .type "list", data := .seq ([] : List Value).toArray } }) hit1 hl1 hn fun room tk htk => ?_
  have e0 : ((items.size : Nat) : Int) - 1 - ((0 : Nat) : Int) = (items.size : Int) - 1 := by omega
  cases room with
  | false =>
    try dsimp only
    rw [if_neg (by decide +kernel)]
    refine wpAny_pure ⟨plainId_quiet F.plain_extend_loop _, codeAny_extend_loopS W hn _ hSf _ items.size 0 _ _ _ rfl (Nat.zero_le _) ⟨Nat.zero_le _, by rw [e0]; exact hit1, hl1⟩ hS₁ (ItemsOf.nil _) fun s' acc' c' hm hS' hacc => ?_⟩
    show wpAny _ A (load s.heap.objs.size >>= _) _ _ s'
    refine wpAny_bind (wpAny_load hS' ?_)
    refine wpAny_pure ?_
    rw [Moved.eq_with hm]
    refine hQ s'.heap s'.toks acc' (fun b o hb e => hm.heap b o (fun hmem => ?_) (Heap.get?_push_of_some _ e)) hacc
    rcases List.mem_cons.mp hmem with e' | hmem
    · exact absurd (Heap.lt_size e) (by rw [e']; exact Nat.lt_irrefl _)
    · exact hb (List.mem_singleton.mp hmem)
  | true =>
    try dsimp only
    rw [if_pos (by rfl)]
    refine wpAny_bind (wpAny_rule ?_)
    refine wpAny_bind ?_
    show wpAny _ A.in1 (updateSeq s.heap.objs.size (·.push .none) >>= fun _ => updateSeq s.heap.objs.size (·.pop)) _ _ _
    refine wpAny_bind (wpAny_updateSeq hS₁ rfl ?_)
    have hS₂ := Heap.get?_update_self (Obj.mapSeq (·.push Value.none)) hS₁ rfl
    refine wpAny_updateSeq hS₂ rfl ?_
    have hS₃ := Heap.get?_update_self (Obj.mapSeq (·.pop)) hS₂ rfl
    have oth : ∀ b o, b ≠ s.heap.objs.size → (s.heap.push { cls := .type "list", data := .seq ([] : List Value).toArray }).get? b = some o →
        (((s.heap.push { cls := .type "list", data := .seq ([] : List Value).toArray }).update s.heap.objs.size (Obj.mapSeq (·.push Value.none))).update s.heap.objs.size (Obj.mapSeq (·.pop))).get? b = some o :=
      fun b o hb e => (Heap.get?_update_other _ _ (Ne.symm hb)).trans ((Heap.get?_update_other _ _ (Ne.symm hb)).trans e)
    refine wpAny_pure ⟨plainId_quiet F.plain_extend_loop _, codeAny_extend_loopS W hn _ hSf _ items.size 0 _ _ _ rfl (Nat.zero_le _) ⟨Nat.zero_le _, by rw [e0]; exact (hit1.at fun o e => oth _ _ (Ne.symm hSi) e), (tupAt hl1 fun o e => oth _ _ (Ne.symm hSl) e)⟩ hS₃ (ItemsOf.nil _) fun s' acc' c' hm hS' hacc => ?_⟩
    show wpAny _ A (load s.heap.objs.size >>= _) _ _ s'
    refine wpAny_bind (wpAny_load hS' ?_)
    refine wpAny_pure ?_
    rw [Moved.eq_with hm]
    refine hQ s'.heap s'.toks acc' (fun b o hb e => hm.heap b o (fun hmem => ?_) (oth b o (Nat.ne_of_lt (Heap.lt_size e)) (Heap.get?_push_of_some _ e))) hacc
    rcases List.mem_cons.mp hmem with e' | hmem
    · exact absurd (Heap.lt_size e) (by rw [e']; exact Nat.lt_irrefl _)
    · exact hb (List.mem_singleton.mp hmem)
theorem code_tuple_new_revT {it l : Addr} {items : Array Value} {Q₁ : Value → Shared → Prop} (hh : A.handled = none) (hit : IsRt s.heap it l ((items.size : Int) - 1)) (hl : IsTup s.heap l items) (hne : l ≠ it) (hn : items.size ≤ sizeLine)
    (h : ∀ (h' : Heap) (tk : Nat) (acc : Array Value), (∀ b o, b ≠ it → s.heap.get? b = some o → h'.get? b = some o) → ItemsOf (fun i v => items[items.size - 1 - i]? = some v) acc items.size →
      Q₁ (.ref h'.objs.size) { s with heap := h'.push { cls := .type "tuple", data := .seq acc }, toks := tk }) :
    codeAny (model prog w) A (.call (.builtin "tuple.__new__") ⟨[.type "tuple", .ref it], []⟩) (wants Q₁ E) s := by
  refine codeAny_of_tree ?_
  show wpAny _ A.in1 (do checkBuiltinCall "tuple.__new__" ⟨[.type "tuple", .ref it], []⟩; again (.builtin "tuple.__new__" ⟨[.type "tuple", .ref it], []⟩)) _ _ s
  refine wpAny_bind (wpAny_of_eq (F.newCall_tuple_1 _) (wpAny_pure ⟨plainId_quiet F.plain_tuple_new _, codeAny_builtin F.entry_tuple_new ?_⟩))
  rw [Around.under_plainId F.plain_tuple_new _]
  have hsub := sub_tuple_self
  have hinit := init_tuple_lookup
  have hmh := madeHere_tuple
  have hTI : s.TypeIs (.ref it) "reversed" := hit.typeIs
  have hh1 : A.in1.handled = none := hh
  wp_walk using wpAny_typeOf hTI, collect_revT (A := A.in1) hh1 hit hl hne hn
  intro h' tk acc hk hacc
  show wpAny _ _ (Builtin.Tuple.tupleExact acc.toList.toArray >>= fun v => ret v) _ _ _
  unfold Builtin.Tuple.tupleExact
  refine wpAny_bind (wpAny_newObj_type ?_ (by show acc.toList.toArray.size ≤ sizeLine; simp only [Array.toArray_toList]; rw [hacc.1]; exact hn))
  refine wpAny_pure ?_
  have e : acc.toList.toArray = acc := by simp
  rw [e]
  exact h h' tk acc hk hacc
theorem call_tuple_revT {it l : Addr} {items : Array Value} {Q : Value → Shared → Prop} (hh : A.handled = none) (hit : IsRt s.heap it l ((items.size : Int) - 1)) (hl : IsTup s.heap l items) (hne : l ≠ it) (hn : items.size ≤ sizeLine)
    (hQ : ∀ (h' : Heap) (tk : Nat) (acc : Array Value), (∀ b o, b ≠ it → s.heap.get? b = some o → h'.get? b = some o) → ItemsOf (fun i v => items[items.size - 1 - i]? = some v) acc items.size →
      Q (.ref h'.objs.size) { s with heap := h'.push { cls := .type "tuple", data := .seq acc }, toks := tk }) :
    wpAny (model prog w) A (call (.type "tuple") [.ref it]) Q E s := by
  refine callType_codes (Q₁ := fun obj s₁ => s₁.TypeIs obj "tuple" ∧ Q obj s₁) F.called_tuple (F.typeCall_tuple_1 _) F.entry_object_init
    (code_tuple_new_revT (A := A.in1) hh hit hl hne hn fun h' tk acc hk hacc => ⟨⟨_, Heap.get?_push_size _ rfl, rfl⟩, hQ h' tk acc hk hacc⟩) fun obj s₁ h₁ => ?_
  exact ⟨h₁.1, F.args_object_init_2 obj _, object_init_meets F.called_tuple.init.lookup F.called_tuple.made (by decide) prog w A.in1 _ s₁ ⟨h₁.1, rfl, h₁.2⟩⟩
end
/-- tuple(reversed(x)), x a list or a tuple: a new tuple -/
def tTupRevA (K : PySem.W.Frag) (te : TE) : TE := fun σ H Q => te σ H fun v H1 => ∃ (a : Addr) (xs : List V), v = .ref a ∧ (SqL K H1 a xs ∨ SqT K H1 a xs) ∧ ∀ q, H1 q = none → Q (.ref q) (upd H1 q (.tup xs.reverse))
section
variable {X : Cx}
theorem pe_tupRevA {e : Expr} {te : TE} {p p2 pos pos2 : Pos} (hc : X.calm = true) (hg : Gl X "tuple") (hm : X.mg "tuple" = none) (hg2 : Gl X "reversed") (hm2 : X.mg "reversed" = none) (he : PE X e te)
    (hs : starEach [e] X.env = (false, eval e X.env) :: starEach [] X.env := by rfl)
    (hs2 : starEach [.Call (.Name "reversed" p2) [e] [] pos2] X.env = (false, eval (.Call (.Name "reversed" p2) [e] [] pos2) X.env) :: starEach [] X.env := by rfl) :
    PE X (.Call (.Name "tuple" p) [.Call (.Name "reversed" p2) [e] [] pos2] [] pos) (tTupRevA X.K te) := by
  refine ⟨fun pins s σ H Q I h => ?_⟩
  refine Call_ (ld_blt I hg hm boot_tuple (PyProof.Rows.callWith_type1 (args_cons (Call_ (ld_blt I hg2 hm2 PyProof.Rows.boot_reversed (PyProof.Rows.callWith_type1 (args_cons (thn (he.run pins s σ H _ I h) fun u s1 ⟨v, H1, I1, r1, q1⟩ => args_nil ?_) hs) hs rfl))) hs2) hs2 rfl))
  obtain ⟨a, xs, ev, hq, q⟩ := q1
  subst ev
  obtain rfl : u = Value.ref a := r1
  rcases hq with hq | hq
  · obtain ⟨its, rv, p', hz⟩ := I1.list hq
    refine call_reversed_list p'.isList (args_nil ?_)
    have k0 : ∀ b o, s1.heap.get? b = some o → (s1.heap.push (revObj a ((its.toArray.size : Int) - 1))).get? b = some o := fun b o e => Heap.get?_push_of_some _ e
    have I2 : Inv X pins σ H1 { s1 with heap := s1.heap.push (revObj a ((its.toArray.size : Int) - 1)) } := I1.kept (t' := s1.toks) k0
    obtain ⟨f0, f1, f2, f3, f4, f5⟩ := I1.fpOk (H' := H1) (b := s1.heap.objs.size) (Nat.le_refl _) (I1.hok.fresh (Nat.le_refl _))
    have hl := p'.isList
    obtain ⟨ol, hol, _⟩ := id hl
    have hne : a ≠ s1.heap.objs.size := Nat.ne_of_lt (Heap.lt_size hol)
    have hn : its.toArray.size ≤ sizeLine := by rw [List.size_toArray, ← rv.length]; exact hz
    refine call_tuple_rev (s := { s1 with heap := s1.heap.push (revObj a ((its.toArray.size : Int) - 1)) }) (I1.ok.hd hc) ⟨_, Heap.get?_push_size _ rfl, rfl, rfl⟩ (hl.push _) hne hn fun h' tk acc hk hi => ?_
    have I3 : Inv X pins σ H1 { s1 with heap := h', toks := tk } := I2.turned (t' := tk) (fun b o hb e => hk b o hb e) f0 f1 f3 f4 f5
    refine ⟨.ref h'.objs.size, upd H1 h'.objs.size (.tup xs.reverse), I3.laid (t' := tk) (fun c o e => Heap.get?_push_of_some _ e) (Nat.le_refl _) (show ObjOk X.prog X.w _ _ _ (.tup xs.reverse) from ⟨by rw [List.length_reverse]; exact hz, acc.toList, vals_rev rv hi, ?_⟩), rfl, q _ (I3.hok.fresh (Nat.le_refl _))⟩
    rw [Array.toArray_toList]
    exact IsTup.new _ _
  · obtain ⟨its, rv, p', hz⟩ := I1.tuple hq
    have hl := p'
    have hn63 := line63
    have hn : its.toArray.size ≤ sizeLine := by rw [List.size_toArray, ← rv.length]; exact hz
    refine call_reversed_tup p' (fun A E Q k => len_tuple p' (by simp only [List.size_toArray] at hn ⊢ <;> omega) k) (args_nil ?_)
    have k0 : ∀ b o, s1.heap.get? b = some o → (s1.heap.push (rtObj a ((its.toArray.size : Int) - 1))).get? b = some o := fun b o e => Heap.get?_push_of_some _ e
    have I2 : Inv X pins σ H1 { s1 with heap := s1.heap.push (rtObj a ((its.toArray.size : Int) - 1)), toks := s1.toks + 1 + 1 } := I1.kept (t' := s1.toks + 1 + 1) k0
    obtain ⟨f0, f1, f2, f3, f4, f5⟩ := I1.fpOk (H' := H1) (b := s1.heap.objs.size) (Nat.le_refl _) (I1.hok.fresh (Nat.le_refl _))
    obtain ⟨ol, hol, _⟩ := id hl
    have hne : a ≠ s1.heap.objs.size := Nat.ne_of_lt (Heap.lt_size hol)
    refine call_tuple_revT (s := { s1 with heap := s1.heap.push (rtObj a ((its.toArray.size : Int) - 1)), toks := s1.toks + 1 + 1 }) (I1.ok.hd hc) ⟨_, Heap.get?_push_size _ rfl, rfl, rfl⟩ (tupAt hl fun o e => Heap.get?_push_of_some _ e) hne hn fun h' tk acc hk hi => ?_
    have I3 : Inv X pins σ H1 { s1 with heap := h', toks := tk } := I2.turned (t' := tk) (fun b o hb e => hk b o hb e) f0 f1 f3 f4 f5
    refine ⟨.ref h'.objs.size, upd H1 h'.objs.size (.tup xs.reverse), I3.laid (t' := tk) (fun c o e => Heap.get?_push_of_some _ e) (Nat.le_refl _) (show ObjOk X.prog X.w _ _ _ (.tup xs.reverse) from ⟨by rw [List.length_reverse]; exact hz, acc.toList, vals_rev rv hi, ?_⟩), rfl, q _ (I3.hok.fresh (Nat.le_refl _))⟩
    rw [Array.toArray_toList]
    exact IsTup.new _ _
end
end RT

/-! PM, part s: tuple(reversed(a list or a tuple)) -/
namespace PM
open PySem PySem.Spec L2
def vTupRev (v : Val) (S : Sto) : Res Val := match v with
  | .tup xs => .ok (.tup xs.reverse) S
  | v => match lstOf S v with
    | some xs => .ok (.tup xs.reverse) S
    | none => .st
theorem vTupRev_l {v : Val} {S : Sto} (h : ∀ xs, v ≠ .tup xs) : vTupRev v S = (match lstOf S v with | some xs => .ok (.tup xs.reverse) S | none => .st) := by
  unfold vTupRev
  cases v <;> first | rfl | exact absurd rfl (h _)
theorem m_tupRev {T : Tbl} {X : Cx} {Ew : XW} {e : Expr} {f : EM} {p p2 pos pos2 : Pos} (hc : X.calm = true) (hg : Gl X "tuple") (hm : X.mg "tuple" = none) (hg2 : Gl X "reversed") (hm2 : X.mg "reversed" = none) (he : PEm T X Ew e f)
    (hs : starEach [e] X.env = (false, eval e X.env) :: starEach [] X.env := by rfl)
    (hs2 : starEach [.Call (.Name "reversed" p2) [e] [] pos2] X.env = (false, eval (.Call (.Name "reversed" p2) [e] [] pos2) X.env) :: starEach [] X.env := by rfl) :
    PEm T X Ew (.Call (.Name "tuple" p) [.Call (.Name "reversed" p2) [e] [] pos2] [] pos) (eUn vTupRev f) := by
  refine PE.to (RT.pe_tupRevA hc hg hm hg2 hm2 he hs hs2) fun σ H Q h => ?_
  obtain ⟨W, ρ, S, s, er, h⟩ := h
  refine ⟨W, ρ, S, s, er, RP.bind h fun W1 S1 H1 v l1 s1 h1 x vx => ?_⟩
  have fin : ∀ (PX : Hp → Value → Option Addr → Prop) (xs : List Val) (ys : List V), VRs X.K T W1 xs ys → RP X.K T W1 (.ok (.tup xs.reverse) S1) (VP X.K T Q) PX → ∀ q, H1 q = none → Q (.ref q) (upd H1 q (.tup ys.reverse)) := fun PX xs ys r h2 p hp =>
    h2 _ _ (.add (s1.free hp)) (s1.add hp) _ (.tup (.inl upd_same) (r.reverse.mono (.add (s1.free hp))))
  by_cases hT : ∃ xs, v = .tup xs
  · obtain ⟨xs, rfl⟩ := hT
    cases vx with
    | tup hy r => exact ⟨_, _, rfl, .inr (TQ_sq s1.sub hy), fin _ xs _ r h1⟩
  · rw [vTupRev_l fun xs h => hT ⟨xs, h⟩] at h1
    cases e : lstOf S1 v with
    | none => rw [e] at h1; exact False.elim h1
    | some xs =>
      rw [e] at h1
      obtain ⟨a, ys, rfl, hy, r⟩ := lstOf_ok s1 vx e
      exact ⟨a, ys, rfl, .inl hy, fin _ xs ys r h1⟩
theorem rs_tupRev : Rs1 vTupRev := fun c S v v' u Z1 h e => by
  by_cases hT : ∃ xs, v' = .tup xs
  · obtain ⟨xs, rfl⟩ := hT
    obtain rfl := vq_s h rfl; cases e; rfl
  · have hn : ∀ xs, v' ≠ .tup xs := fun xs h => hT ⟨xs, h⟩
    rw [vTupRev_l hn] at e
    rw [vTupRev_l (vq_nt h hn)]
    cases q : lstOf Z0 v' with
    | none => rw [q] at e; cases e
    | some xs => rw [q] at e; rw [lst_q h q]; cases e; rfl
theorem nx_tupRev : ∀ v S, NX (vTupRev v S) := by
  intro v S; unfold vTupRev; split
  · trivial
  · split <;> trivial
@[simp ↓] theorem v_tupRevT {xs : List Val} {S : Sto} : vTupRev (.tup xs) S = .ok (.tup xs.reverse) S := nr
@[simp ↓] theorem v_tupRevL {xs : List Val} {S : Sto} : vTupRev (.lst xs) S = .ok (.tup xs.reverse) S := nr
end PM

set_option pp.maxSteps 900
/-! PP, part j: a cell of one number; laws with a cell -/
namespace PM
open PySem PySem.Spec L2
/-- the store with one cell, a list of one number -/
def cl (p : Nat) : Sto := ⟨1, fun j => if j = 0 then some (.lst [.int p]) else none⟩
theorem cl_put {p q : Nat} : (cl p).put 0 (.lst [.int (q : Nat)]) = cl q := by
  unfold cl Sto.put
  congr 1
  funext j
  by_cases h : j = 0 <;> simp [h]
theorem cl_new : Z0.alloc (.lst [.int 0]) = cl 0 := by
  unfold cl Sto.alloc
  congr 1
@[simp ↓] theorem cl_ix {p : Nat} {S : Sto} (h : S = cl p) : vIx (.loc 0) (.int 0) S = .ok (.int p) S := by subst h; rfl
theorem cl_set {p q : Nat} : setIx (.loc 0) (.int 0) (.int (q : Nat)) (cl p) = some (cl q) := by
  rw [← cl_put (p := p) (q := q)]; rfl
theorem v_bestIv {f : Int → Int → Int} {n : Int} {l : List Int} {S : Sto} : vBest f [iv (n :: l)] S = .ok (.int (l.foldl f n)) S := v_bestT
theorem v_bestIl {f : Int → Int → Int} {n : Int} {l : List Int} {S : Sto} : vBest f [il (n :: l)] S = .ok (.int (l.foldl f n)) S := v_bestL
theorem foldl_max_pos : ∀ {l : List Int} {n : Int}, (0 < l.foldl max n) ↔ (0 < n ∨ ∃ x ∈ l, 0 < x)
  | [], n => by simp
  | a :: l, n => by
    rw [List.foldl_cons, foldl_max_pos]
    have : 0 < max n a ↔ 0 < n ∨ 0 < a := by omega
    rw [this, or_assoc]
    simp only [List.mem_cons, exists_eq_or_imp]
@[simp ↓] theorem v_neBB {b : Bool} {S : Sto} : vNe (.bl b) (.bl b) S = .ok (.bl false) S := by cases b <;> rfl
@[simp ↓] theorem v_eqBB {b : Bool} {S : Sto} : vEq (.bl b) (.bl b) S = .ok (.bl true) S := by cases b <;> rfl
@[simp] theorem z_next : Z0.next = 0 := nr
theorem lf_lawZ {F G : FM} (h : LF [.s] .v F G) {v : Val} {Z : Sto} (e : G [v] Z0 = .ok (.bl true) Z) : ∃ S', F [v] S0 = .ok (.bl true) S' :=
  lf_fun h ⟨rfl, rfl, fun i kd hk => by
    cases i with
    | zero => simp at hk; subst hk; exact rfl
    | succ i => simp at hk, fun i j kd k _ hk ho _ => by
    cases i with
    | zero => simp at hk; subst hk; cases ho
    | succ i => simp at hk⟩ e
end PM

/-! PM, part t: `is` of truth values -/
namespace PM
open PySem PySem.Spec L2
def vIsB (v w : Val) (S : Sto) : Res Val := match v, w with
  | .bl a, .bl b => .ok (.bl (decide (a = b))) S
  | _, _ => .st
def vNotB (v w : Val) (S : Sto) : Res Val := match v, w with
  | .bl a, .bl b => .ok (.bl (!decide (a = b))) S
  | _, _ => .st
section
variable {K : PySem.W.Frag} {T : Tbl}
theorem o_isB : Op2 K T (fun x y H Q => ∃ a b, x = .bl a ∧ y = .bl b ∧ Q (.bl (decide (a = b))) H) vIsB := by
  intro W S H v w x y Q PX s vx vy q
  cases vx <;> first | (cases w <;> exact False.elim q; done) | (cases vy <;> first | exact False.elim q | exact ⟨_, _, rfl, rfl, q.now s _ (.bl _)⟩)
theorem o_notB : Op2 K T (fun x y H Q => ∃ a b, x = .bl a ∧ y = .bl b ∧ Q (.bl (!decide (a = b))) H) vNotB := by
  intro W S H v w x y Q PX s vx vy q
  cases vx <;> first | (cases w <;> exact False.elim q; done) | (cases vy <;> first | exact False.elim q | exact ⟨_, _, rfl, rfl, q.now s _ (.bl _)⟩)
end
theorem rs_isB : Rs2 vIsB := by
  refine rs2_of fun v w u Z1 e => ?_
  cases v <;> first | (cases e; done) | (cases w <;> first | (cases e; done) | (exact ⟨rfl, rfl, fun S => by cases e; rfl⟩))
theorem rs_notB : Rs2 vNotB := by
  refine rs2_of fun v w u Z1 e => ?_
  cases v <;> first | (cases e; done) | (cases w <;> first | (cases e; done) | (exact ⟨rfl, rfl, fun S => by cases e; rfl⟩))
theorem nx_isB : ∀ v w S, NX (vIsB v w S) := by (intro v w S; unfold vIsB; split <;> trivial)
theorem nx_notB : ∀ v w S, NX (vNotB v w S) := by (intro v w S; unfold vNotB; split <;> trivial)
@[simp ↓] theorem v_isB {a b : Bool} {S : Sto} : vIsB (.bl a) (.bl b) S = .ok (.bl (decide (a = b))) S := nr
@[simp ↓] theorem v_notB {a b : Bool} {S : Sto} : vNotB (.bl a) (.bl b) S = .ok (.bl (!decide (a = b))) S := nr
end PM

/-! sorted(a list of alike data, nested tuples of whole numbers and texts): a rule of the layer -/
namespace L2
open PySem PySem.Spec PyProof.Rows PySem.W
/-- sorted(xs), each item b.1 being the datum b.2 -/
def rSortedD (K : PySem.W.Frag) : List V → Hp → VK → Prop := fun vs H Q => ∃ (a : Addr) (bs : List (V × PyData)), vs = [V.ref a] ∧ SqL K H a (bs.map Prod.fst) ∧ (∀ b ∈ bs, Dp K H b.1 b.2) ∧
  AllAlike (bs.map Prod.snd) ∧ Sortable (bs.map Prod.snd) ∧ (∀ b ∈ bs, b.2.depth ≤ 60) ∧
  ∀ p, H p = none → Q (.ref p) (upd H p (.lst ((bs.mergeSort (dataLe false Prod.snd)).map Prod.fst)))
theorem vals_each : ∀ {bs : List (V × PyData)} {us : List Value}, Vals (bs.map Prod.fst) us → EachIs (fun (u : Value) (b : V × PyData) => RelV b.1 u) us bs
  | [], us, h => by cases h; exact .nil
  | b :: bs, us, h => by
    rw [List.map_cons] at h
    cases h with
    | cons r t => exact .cons r (vals_each t)
theorem each_vals : ∀ {bs : List (V × PyData)} {us : List Value}, EachIs (fun (u : Value) (b : V × PyData) => RelV b.1 u) us bs → Vals (bs.map Prod.fst) us
  | [], us, h => by cases h; exact .nil
  | b :: bs, us, h => by
    cases h with
    | cons r t => exact .cons r (each_vals t)
section
variable {X : Cx}
theorem each_reads {pins : List (Addr × Obj)} {σ : L2.St} {H : Hp} {s : Shared} (I : Inv X pins σ H s) : ∀ {bs : List (V × PyData)} {us : List Value}, EachIs (fun (u : Value) (b : V × PyData) => RelV b.1 u) us bs → (∀ b ∈ bs, Dp X.K H b.1 b.2) →
    EachIs (fun v d => ∃ as, Reads s.heap v d as) us (bs.map Prod.snd)
  | [], us, h, _ => by cases h; exact .nil
  | b :: bs, us, h, hd => by
    cases h with
    | cons r t => exact .cons (Dp.reads I b.2 b.1 _ (hd b List.mem_cons_self) r) (each_reads I t fun c hc => hd c (List.mem_cons_of_mem _ hc))
theorem cr_sortedD (hu : X.A.units + 65 < cLine) : CallR X (.builtin "sorted") (rSortedD X.K) := by
  intro pins s σ H vs us Q I r h
  obtain ⟨a, bs, rfl, hs, hd, hal, hso, hdp, q⟩ := h
  obtain ⟨its, rv, hl, hz⟩ := I.list hs
  obtain ⟨u, rfl, ru⟩ := vals1 r
  obtain rfl : u = Value.ref a := ru
  have hz' : its.length ≤ sizeLine := by rw [← rv.length]; exact hz
  have hE := vals_each rv
  have hR := each_reads I hE hd
  let h1 := sortingHeap (copyHeap s.heap its) (s.heap.objs.size + 1) its
  have hR1 : EachIs (fun v d => ∃ as, Reads h1 v d as) its (bs.map Prod.snd) := hR.mono fun v d ⟨as, r⟩ => ⟨as, PyProof.Rows.Reads.keeps (fun b o e => sorting_copy_old e) r⟩
  have S : SortsAt X.prog X.w X.A.in1.in1 { s with heap := h1 } (dataKind h1 (bs.map Prod.snd)) its :=
    SortsAt.data (s := { s with heap := h1 }) hR1 hal hso fun d hd' => by
      obtain ⟨b, hb, rfl⟩ := List.mem_map.mp hd'
      have := hdp b hb
      show X.A.units + 1 + 1 + b.2.depth < cLine
      omega
  refine sorted_vals hl.isList S hz' ?_
  have hK : KeyedOut false (bs.map Prod.snd) its (sortVals (dataKind h1 (bs.map Prod.snd)) false its its) := ⟨h1, its, hal, rfl, hR1⟩
  have hO := keyedOut_each Prod.snd hK hE
  have hV := each_vals hO
  obtain ⟨n, hn⟩ := sortedAll_at s.heap its (sortVals (dataKind h1 (bs.map Prod.snd)) false its its).toArray
  have hlen : ((bs.mergeSort (dataLe false Prod.snd)).map Prod.fst).length ≤ sizeLine := by
    rw [List.length_map, List.length_mergeSort]; rw [List.length_map] at hz; exact hz
  exact ⟨.ref _, upd H (s.heap.objs.size + 1) (.lst ((bs.mergeSort (dataLe false Prod.snd)).map Prod.fst)), I.laid (o := .lst ((bs.mergeSort (dataLe false Prod.snd)).map Prod.fst)) (t' := s.toks) (fun _ _ => sortedAll_old) (Nat.le_succ _) ⟨hlen, _, n, hV, hn⟩, rfl, q _ (I.hok.fresh (Nat.le_succ _))⟩
end
end L2

/-! PM, part u: sorted(a list of alike data) -/
namespace PM
open PySem PySem.Spec L2 PySem.W PyProof.Rows
noncomputable section
def datD (v : Val) : PyData := v.dat.getD .none
def leD : Val → Val → Bool := dataLe false datD
def sortD (vs : List Val) : List Val := vs.mergeSort leD
structure OkSD (vs : List Val) : Prop where
  dat : ∀ v ∈ vs, ∃ d, v.dat = some d
  alike : AllAlike (vs.map datD)
  sort : Sortable (vs.map datD)
  depth : ∀ v ∈ vs, (datD v).depth ≤ 60
open Classical in
def vSortD (bx : Bool) (vs : List Val) (S : Sto) : Res Val := match vs with
  | [v] => match lstOf S v with
    | some xs => if OkSD xs then mkL bx (sortD xs) S else .st
    | none => .st
  | _ => .st
section
variable {K : PySem.W.Frag} {T : Tbl} {W : Wd}
theorem VRs.zip : ∀ {vs : List Val} {xs : List V}, VRs K T W vs xs → ∃ ts : List (Val × V), ts.map Prod.fst = vs ∧ ts.map Prod.snd = xs ∧ ∀ t ∈ ts, VR K T W t.1 t.2
  | _, _, .nil => ⟨[], rfl, rfl, fun _ h => nomatch h⟩
  | v :: vs, x :: xs, .cons r t => by
    obtain ⟨ts, h1, h2, h3⟩ := VRs.zip t
    refine ⟨(v, x) :: ts, by rw [List.map_cons, h1], by rw [List.map_cons, h2], fun t ht => ?_⟩
    rcases List.mem_cons.mp ht with rfl | ht
    · exact r
    · exact h3 t ht
theorem VRs.ofZip : ∀ {ts : List (Val × V)}, (∀ t ∈ ts, VR K T W t.1 t.2) → VRs K T W (ts.map Prod.fst) (ts.map Prod.snd)
  | [], _ => .nil
  | t :: ts, h => .cons (h t List.mem_cons_self) (VRs.ofZip fun u hu => h u (List.mem_cons_of_mem _ hu))
theorem l_sortD (bx : Bool) : OpL K T (rSortedD K) (vSortD bx) := by
  intro W S H vs xs Q PX s r q
  unfold vSortD at q
  split at q
  · rename_i v
    cases r with
    | cons r1 r2 =>
      cases r2
      cases e : lstOf S v with
      | none => rw [e] at q; exact False.elim q
      | some ys =>
        rw [e] at q
        dsimp only at q
        split at q
        · rename_i ok
          obtain ⟨a, zs, rfl, hz, rz⟩ := lstOf_ok s r1 e
          obtain ⟨ts, h1, h2, h3⟩ := rz.zip
          subst h1 h2
          have hm : ∀ f : Val × V → Val × V, True := fun _ => trivial
          let g : Val × V → V × PyData := fun t => (t.2, datD t.1)
          have e1 : (ts.map g).map Prod.fst = ts.map Prod.snd := by rw [List.map_map]; rfl
          have e2 : (ts.map g).map Prod.snd = (ts.map Prod.fst).map datD := by rw [List.map_map, List.map_map]; rfl
          refine ⟨a, ts.map g, rfl, by rw [e1]; exact hz, fun b hb => ?_, by rw [e2]; exact ok.alike, by rw [e2]; exact ok.sort, fun b hb => ?_, fun p hp => ?_⟩
          · obtain ⟨t, ht, rfl⟩ := List.mem_map.mp hb
            obtain ⟨d, hd⟩ := ok.dat t.1 (List.mem_map.mpr ⟨t, ht, rfl⟩)
            show Dp K H t.2 (datD t.1)
            unfold datD
            rw [hd]
            exact Val.dat_ok s.sub (h3 t ht) hd
          · obtain ⟨t, ht, rfl⟩ := List.mem_map.mp hb
            exact ok.depth t.1 (List.mem_map.mpr ⟨t, ht, rfl⟩)
          · let L : Val × V → Val × V → Bool := dataLe false fun t => datD t.1
            have s1 : (ts.mergeSort L).map Prod.fst = sortD (ts.map Prod.fst) := List.map_mergeSort fun a _ b _ => rfl
            have s2 : (ts.mergeSort L).map g = (ts.map g).mergeSort (dataLe false Prod.snd) := List.map_mergeSort fun a _ b _ => rfl
            rw [← s2, List.map_map]
            have s3 : (Prod.fst ∘ g) = (Prod.snd : Val × V → V) := rfl
            rw [s3]
            have hV : VRs K T W (sortD (ts.map Prod.fst)) ((ts.mergeSort L).map Prod.snd) := by
              rw [← s1]
              exact VRs.ofZip fun t ht => h3 t (List.mem_mergeSort.mp ht)
            exact mkL_ok s hV hp q
        · exact False.elim q
  · exact False.elim q
end
theorem rl_sortD : RsL (vSortD false) := rsl1 (by (intro u Z e; cases e; done)) (by (intro v w vs u Z e; cases e)) fun c S v v' u Z1 h e => by
  unfold vSortD at e ⊢
  dsimp only at e ⊢
  cases q : lstOf Z0 v' with
  | none => rw [q] at e; cases e
  | some xs =>
    rw [q] at e; rw [lst_q h q]
    dsimp only at e ⊢
    split at e
    · rename_i ok
      rw [if_pos ok]
      cases e; rfl
    · cases e
theorem nx_sortD : ∀ v S, NX (vSortD false v S) := by (intro v S; unfold vSortD; repeat' (first | trivial | split))
open Classical in
theorem v_sortD {xs : List Val} {S : Sto} (h : OkSD xs) : vSortD false [.lst xs] S = .ok (.lst (sortD xs)) S := by
  show (if OkSD xs then _ else _) = _
  rw [if_pos h]; rfl
/-! the order -/
theorem leD_iff {v w : Val} : leD v w = !dataLt (datD w) (datD v) := rfl
theorem leD_trans (a b c : Val) (h1 : leD a b = true) (h2 : leD b c = true) : leD a c = true := (sortLe_total (listOrd itemOrd) false fun v => keyToks (datD v)).trans a b c h1 h2
theorem leD_total (a b : Val) : (leD a b || leD b a) = true := by
  cases h : leD a b with
  | true => rfl
  | false =>
    rw [leD_iff] at h
    have h' : dataLt (datD b) (datD a) = true := by simpa using h
    cases h2 : leD b a with
    | true => rfl
    | false =>
      rw [leD_iff] at h2
      have h2' : dataLt (datD a) (datD b) = true := by simpa using h2
      have := (listOrd itemOrd).trans _ _ _ h' h2'
      rw [(listOrd itemOrd).irrefl] at this
      cases this
end
end PM

/-! PK, part a: tuples of the module's top, also as keys -/
namespace PM
open PySem PySem.Spec L2 PyProof.Rows
/-- a name of the module's top that holds a tuple -/
def KTupN (K : PySem.W.Frag) (mg : Str → Option Value) (x : Str) (v : Val) : Prop := ∃ a, mg x = some (.ref a) ∧ ∀ T W, VR K T W v (.ref a)
theorem KTupN.mk {K : PySem.W.Frag} {mg : Str → Option Value} {x : Str} {a : Addr} {cls : Value} {od : Option Addr} {its : Array Value} {n : Nat} {sl : Array (Option Value)} {vs : List Val} {xs : List V} (hm : mg x = some (.ref a))
    (hl : K.lookup a = some ⟨cls, od, .seq its n, sl⟩) (hc : cls = .type "tuple") (hz : its.size ≤ sizeLine) (hv : Vals xs its.toList) (hr : ∀ T W, VRs K T W vs xs) : KTupN K mg x (.kt vs) :=
  ⟨a, hm, fun T W => .kt (.inr ⟨_, its, n, hl, hc, rfl, hz, hv⟩) (hr T W)⟩
/-- a tuple within a tuple of the module's top -/
theorem VR.ktIn {K : PySem.W.Frag} {T : Tbl} {W : Wd} {a : Addr} {cls : Value} {od : Option Addr} {its : Array Value} {n : Nat} {sl : Array (Option Value)} {vs : List Val} {xs : List V}
    (hl : K.lookup a = some ⟨cls, od, .seq its n, sl⟩) (hc : cls = .type "tuple") (hz : its.size ≤ sizeLine) (hv : Vals xs its.toList) (hr : VRs K T W vs xs) : VR K T W (.kt vs) (.ref a) :=
  .kt (.inr ⟨_, its, n, hl, hc, rfl, hz, hv⟩) hr
theorem m_ktv {T : Tbl} {X : Cx} {Ew : XW} {x : Str} {v : Val} {pos : Pos} (hg : Gl X x) (h : KTupN X.K X.mg x v) (hd : (x == ("__debug__" : Str)) = false := by decide) : PEm T X Ew (.Name x pos) (eC v) := by
  obtain ⟨a, e, r⟩ := h
  exact m_glob (z := .ref a) hg e rfl (fun W => r T W) hd
/-! ### what a dict holds at a key, the key perhaps a tuple of the module's top -/
def DGq (K : PySem.W.Frag) (H : Hp) (d : Addr) (key : V) (ans : Option V) : Prop :=
  DGet H d key ans ∨ ∃ kvs q t, Rd H d (.dT kvs) ∧ key = .ref t ∧ SqT K H t (q.map kV) ∧ ans = valV kvs q
theorem keyq {X : Cx} {pins : List (Addr × Obj)} {σ : L2.St} {H : Hp} {s : Shared} {t : Addr} {q : List Key} (I : Inv X pins σ H s) (h : SqT X.K H t (q.map kV)) : (tupleKind (mixKind X.prog X.w)).is s.heap q t := by
  obtain ⟨us, vs, ⟨ob, g, c, n, dd⟩, _⟩ := I.tuple h
  exact ⟨ob, us.toArray, n, g, c, dd, by simpa using items_are vs⟩
section
variable {X : Cx} {pins : List (Addr × Obj)} {σ : L2.St} {H : Hp} {s : Shared} {d : Addr} {key v x : V} {ku xu : Value} {ans : Option V} {A : Around} {E : Value → Shared → Prop}
theorem DGq.isDict (I : Inv X pins σ H s) (g : DGq X.K H d key ans) : s.TypeIs (.ref d) "dict" := by
  rcases g with g | ⟨kvs, q, t, e, _⟩
  · exact dict_typeIs I g
  · obtain ⟨_, _, _, _, dd⟩ := dt_rd I.hok e
    exact dd.typeIs
theorem q_item {Q : Value → Shared → Prop} (hu : A.units + 1 < cLine) (I : Inv X pins σ H s) (g : DGq X.K H d key (some v)) (rk : RelV key ku) (k : ∀ w' s', Inv X pins σ H s' → RelV v w' → Q w' s') : wpAny (model X.prog X.w) A (getItem (.ref d) ku) Q E s := by
  rcases g with g | ⟨kvs, q, t, e, rfl, eb, l⟩
  · exact d_getItem hu I g rk k
  · cases (show ku = Value.ref t from rk)
    obtain ⟨_, _, xs, rel, dd⟩ := dt_rd I.hok e
    obtain ⟨w', hw, rw'⟩ := RelO.some_of (v := v) (o := (atKey xs q).map (·.2)) (by rw [l]; exact rel.val q)
    obtain ⟨p, hp, rfl⟩ := Option.map_eq_some_iff.mp hw
    exact wpAny_getItem_heap (tupleKind_room_in1 hu) (keyq I eb) dd hp (k _ _ (I.tok _) rw')
theorem q_there {kvs : List (List Key × V)} {q : List Key} {xs : List (List Key × Addr × Value)} (rel : KT H kvs xs) : (valV kvs q).isSome = (atKey xs q).isSome := by
  have := (rel.val q).isSome_eq
  rwa [Option.isSome_map] at this
theorem q_in {Q : Value → Shared → Prop} (hu : A.units + 1 < cLine) (I : Inv X pins σ H s) (g : DGq X.K H d key ans) (rk : RelV key ku) (k : ∀ s', Inv X pins σ H s' → Q (.bool ans.isSome) s') : wpAny (model X.prog X.w) A (compareOp .In ku (.ref d)) Q E s := by
  rcases g with g | ⟨kvs, q, t, e, rfl, eb, l⟩
  · exact d_in hu I g rk k
  · cases (show ku = Value.ref t from rk)
    obtain ⟨_, hd, xs, rel, dd⟩ := dt_rd I.hok e
    refine wpAny_in_heap (tupleKind_room_in1 hu) (keyq I eb) hd dd ?_
    rw [← q_there rel, ← l]; exact k _ (I.tok _)
theorem q_notIn {Q : Value → Shared → Prop} (hu : A.units + 1 < cLine) (I : Inv X pins σ H s) (g : DGq X.K H d key ans) (rk : RelV key ku) (k : ∀ s', Inv X pins σ H s' → Q (.bool (!ans.isSome)) s') : wpAny (model X.prog X.w) A (compareOp .NotIn ku (.ref d)) Q E s := by
  rcases g with g | ⟨kvs, q, t, e, rfl, eb, l⟩
  · exact d_notIn hu I g rk k
  · cases (show ku = Value.ref t from rk)
    obtain ⟨_, hd, xs, rel, dd⟩ := dt_rd I.hok e
    refine wpAny_notIn_heap (tupleKind_room_in1 hu) (keyq I eb) hd dd ?_
    rw [← q_there rel, ← l]; exact k _ (I.tok _)
theorem q_get1 {Q : Value → Shared → Prop} (hu : A.units + 1 < cLine) (I : Inv X pins σ H s) (g : DGq X.K H d key ans) (rk : RelV key ku) (k : ∀ w' s', Inv X pins σ H s' → RelV (ans.getD .non) w' → Q w' s') : wpAny (model X.prog X.w) A (call (.builtin "dict.get") [.ref d, ku]) Q E s := by
  rcases g with g | ⟨kvs, q, t, e, rfl, eb, l⟩
  · exact d_get1 hu I g rk k
  · cases (show ku = Value.ref t from rk)
    obtain ⟨_, hd, xs, rel, dd⟩ := dt_rd I.hok e
    refine call_meetsIn PySem.F.slot_dict_get dd.typeIs PySem.F.entry_dict_get (PySem.F.args_dict_get_2 _ _) (meetsH_dict_get (tupleKind (mixKind X.prog X.w)) d t hd) ⟨tupleKind_room_in1 hu, q, xs, keyq I eb, dd, k _ _ (I.tok _) ?_⟩
    rw [l]; exact (rel.val q).getD rfl
theorem q_get2 {Q : Value → Shared → Prop} (hu : A.units + 1 < cLine) (I : Inv X pins σ H s) (g : DGq X.K H d key ans) (rk : RelV key ku) (rx : RelV x xu) (k : ∀ w' s', Inv X pins σ H s' → RelV (ans.getD x) w' → Q w' s') : wpAny (model X.prog X.w) A (call (.builtin "dict.get") [.ref d, ku, xu]) Q E s := by
  rcases g with g | ⟨kvs, q, t, e, rfl, eb, l⟩
  · exact d_get2 hu I g rk rx k
  · cases (show ku = Value.ref t from rk)
    obtain ⟨_, hd, xs, rel, dd⟩ := dt_rd I.hok e
    refine call_meetsIn PySem.F.slot_dict_get dd.typeIs PySem.F.entry_dict_get (PySem.F.args_dict_get_3 _ _ _) (meetsH_dict_get_default (tupleKind (mixKind X.prog X.w)) d t hd xu) ⟨tupleKind_room_in1 hu, q, xs, keyq I eb, dd, k _ _ (I.tok _) ?_⟩
    rw [l]; exact (rel.val q).getD rx
end
/-! ### the expressions -/
section
variable {X : Cx} {o i e f : Expr} {pos apos cpos : Pos} {td ty tx : TE}
theorem pq_get (hu : X.A.units + 1 < cLine) (ho : PE X o td) (hi : PE X i ty) (hs : NoSl i) : PE X (.Subscript o i pos) (fun σ H Q => td σ H fun x H1 => ty σ H1 fun y H2 => ∃ d v, x = .ref d ∧ DGq X.K H2 d y (some v) ∧ Q v H2) := by
  refine ⟨fun pins s σ H Q I h => subD_of PySem.F.slot_dict_getitem.lookup hs (thn (ho.run pins s σ H _ I h) fun u s1 ⟨x, H1, I1, rx, q1⟩ => thn (hi.run pins s1 σ H1 _ I1 q1) fun iv s2 ⟨y, H2, I2, ry, d, v, ex, g, q2⟩ => ?_)⟩
  subst ex
  cases (show u = Value.ref d from rx)
  exact ⟨g.isDict I2, q_item hu I2 g ry fun w' s3 I3 rw' => ⟨v, H2, I3, rw', q2⟩⟩
theorem pq_in (hu : X.A.units + 1 < cLine) (hi : PE X i ty) (ho : PE X o td) : PC X .In i o (fun σ H Q => ty σ H fun y H1 => td σ H1 fun x H2 => ∃ d r, x = .ref d ∧ DGq X.K H2 d y r ∧ Q (.bl r.isSome) H2) := by
  refine ⟨fun pins s σ H Q I h => thn (hi.run pins s σ H _ I h) fun iv s1 ⟨y, H1, I1, ry, q1⟩ => thn (ho.run pins s1 σ H1 _ I1 q1) fun u s2 ⟨x, H2, I2, rx, d, r, ex, g, q2⟩ => ?_⟩
  subst ex
  cases (show u = Value.ref d from rx)
  exact q_in hu I2 g ry fun s3 I3 => ⟨.bl r.isSome, H2, I3, rfl, q2⟩
theorem pq_notIn (hu : X.A.units + 1 < cLine) (hi : PE X i ty) (ho : PE X o td) : PC X .NotIn i o (fun σ H Q => ty σ H fun y H1 => td σ H1 fun x H2 => ∃ d r, x = .ref d ∧ DGq X.K H2 d y r ∧ Q (.bl (!r.isSome)) H2) := by
  refine ⟨fun pins s σ H Q I h => thn (hi.run pins s σ H _ I h) fun iv s1 ⟨y, H1, I1, ry, q1⟩ => thn (ho.run pins s1 σ H1 _ I1 q1) fun u s2 ⟨x, H2, I2, rx, d, r, ex, g, q2⟩ => ?_⟩
  subst ex
  cases (show u = Value.ref d from rx)
  exact q_notIn hu I2 g ry fun s3 I3 => ⟨.bl (!r.isSome), H2, I3, rfl, q2⟩
theorem pq_get1 (hu : X.A.units + 1 < cLine) (ho : PE X o td) (he : PE X e ty) (m : M1 X o "get" apos e cpos) :
    PE X (.Call (.Attribute o "get" apos) [e] [] cpos) (fun σ H Q => td σ H fun x H1 => ∃ d, x = .ref d ∧ IsD H1 d ∧ ty σ H1 fun y H2 => ∃ r, DGq X.K H2 d y r ∧ Q (r.getD .non) H2) := by
  refine ⟨fun pins s σ H Q I h => wpAny_Call_method m.base m.few m.line PySem.F.plainAttrs_dict PySem.F.slot_dict_get PySem.F.type_dict_get (thn (ho.run pins s σ H _ I h) fun u s1 ⟨x, H1, I1, rx, d, ex, isd, q1⟩ => ?_)⟩
  subst ex
  cases (show u = Value.ref d from rx)
  obtain ⟨t1, t2, _⟩ := isD_at I1 isd
  refine ⟨t1, t2, m.trees ▸ Calls.callWith_builtin rfl (Calls.evalArgs_plain (Calls.spliced_cons (thn (he.run pins s1 σ H1 _ I1 q1) fun iv s2 ⟨y, H2, I2, ry, r, g, q2⟩ => Calls.spliced_nil ?_)))⟩
  exact q_get1 hu I2 g ry fun w' s3 I3 rw' => ⟨_, H2, I3, rw', q2⟩
theorem pq_get2 (hu : X.A.units + 1 < cLine) (ho : PE X o td) (he : PE X e ty) (hf : PE X f tx) (m : M2 X o "get" apos e f cpos) :
    PE X (.Call (.Attribute o "get" apos) [e, f] [] cpos) (fun σ H Q => td σ H fun x H1 => ∃ d, x = .ref d ∧ IsD H1 d ∧ ty σ H1 fun y H2 => tx σ H2 fun z H3 => ∃ r, DGq X.K H3 d y r ∧ Q (r.getD z) H3) := by
  refine ⟨fun pins s σ H Q I h => wpAny_Call_method m.base m.few m.line PySem.F.plainAttrs_dict PySem.F.slot_dict_get PySem.F.type_dict_get (thn (ho.run pins s σ H _ I h) fun u s1 ⟨x, H1, I1, rx, d, ex, isd, q1⟩ => ?_)⟩
  subst ex
  cases (show u = Value.ref d from rx)
  obtain ⟨t1, t2, _⟩ := isD_at I1 isd
  refine ⟨t1, t2, m.trees ▸ Calls.callWith_builtin rfl (Calls.evalArgs_plain (Calls.spliced_cons (thn (he.run pins s1 σ H1 _ I1 q1) fun iv s2 ⟨y, H2, I2, ry, q2⟩ =>
    Calls.spliced_cons (thn (hf.run pins s2 σ H2 _ I2 q2) fun fv s3 ⟨z, H3, I3, rz, r, g, q3⟩ => Calls.spliced_nil ?_))))⟩
  exact q_get2 hu I3 g ry rz fun w' s4 I4 rw' => ⟨_, H3, I4, rw', q3⟩
end
end PM

/-! PM, part v: dicts -/
namespace PM
open PySem PySem.Spec L2
/-! ### keys, what a dict holds -/
def keysOf : List Val → Option (List Key)
  | [] => some []
  | v :: vs => match keyOf v, keysOf vs with
    | some k, some ks => some (k :: ks)
    | _, _ => none
def kVal : Key → Val
  | .inl i => .int i
  | .inr x => .str x
/-- the value that stands behind a key -/
def findK {κ α : Type} [DecidableEq κ] (k : κ) : List κ → List α → Option α
  | k' :: ks, v :: vs => if k' = k then some v else findK k ks vs
  | _, _ => none
/-- a dict's content: keys that are ints and texts, or tuples of these -/
inductive DC where
  | k (ks : List Key) (vs : List Val)
  | t (ks : List (List Key)) (vs : List Val)
def dcOf (S : Sto) : Val → Option DC
  | .dk ks vs => some (.k ks vs)
  | .dt ks vs => some (.t ks vs)
  | .loc n => match S.objs n with
    | some (.dk _ ks vs) => some (.k ks vs)
    | some (.dt _ ks vs) => some (.t ks vs)
    | _ => none
  | _ => none
/-- none: no key of this dict's kind -/
def DC.get : DC → Val → Option (Option Val)
  | .k ks vs, y => match keyOf y with
    | some q => some (findK q ks vs)
    | none => none
  | .t ks vs, .tup ys => match keysOf ys with
    | some q => some (findK q ks vs)
    | none => none
  | .t ks vs, .kt ys => match keysOf ys with
    | some q => some (findK q ks vs)
    | none => none
  | .t _ _, _ => none
def vDGet (d y : Val) (S : Sto) : Res Val := match dcOf S d with
  | some c => (match c.get y with
    | some (some v) => .ok v S
    | _ => .st)
  | none => .st
/-- y in d, y not in d -/
def vDIn (ng : Bool) (y d : Val) (S : Sto) : Res Val := match dcOf S d with
  | some c => (match c.get y with
    | some o => .ok (.bl (if ng then !o.isSome else o.isSome)) S
    | none => .st)
  | none => .st
def isDct (v : Val) (S : Sto) : Bool := (dcOf S v).isSome
/-- d.get(y), d.get(y, x) -/
def vDGetM (d : Val) (ys : List Val) (S : Sto) : Res Val := match dcOf S d, ys with
  | some c, [y] => (match c.get y with
    | some o => .ok (o.getD .non) S
    | none => .st)
  | some c, [y, x] => (match c.get y with
    | some o => .ok (o.getD x) S
    | none => .st)
  | _, _ => .st
/-- d[y] = u -/
def setKey (d y u : Val) (S : Sto) : Option Sto := match d with
  | .loc n => match S.objs n with
    | some (.dk false ks vs) => (match keyOf y with
      | some q => if ks.length < sizeLine then some (S.put n (.dk false (putS q u ks vs).1 (putS q u ks vs).2)) else none
      | none => none)
    | some (.dt false ks vs) => (match y with
      | .tup ys => (match keysOf ys with
        | some q => if ks.length < sizeLine then some (S.put n (.dt false (putS q u ks vs).1 (putS q u ks vs).2)) else none
        | none => none)
      | _ => none)
    | _ => none
  | _ => none
/-- d.setdefault(y, u), keys ints and texts -/
def vSetd (d : Val) (ys : List Val) (S : Sto) : Res Val := match d, ys with
  | .loc n, [y, u] => (match S.objs n with
    | some (.dk false ks vs) => (match keyOf y with
      | some q => if ks.length < sizeLine then (match findK q ks vs with
        | some w => .ok w S
        | none => .ok u (S.put n (.dk false (putS q u ks vs).1 (putS q u ks vs).2))) else .st
      | none => .st)
    | _ => .st)
  | _, _ => .st
def eDNew (tk : Bool) : EM := fun _ S => .ok (.loc S.next) (S.alloc (if tk then .dt false [] [] else .dk false [] []))
section
variable {K : PySem.W.Frag} {T : Tbl} {W : Wd} {S : Sto} {H : Hp}
theorem keysOf_ok : ∀ {vs : List Val} {xs : List V} {ks : List Key}, VRs K T W vs xs → keysOf vs = some ks → xs = ks.map kV
  | [], _, _, .nil, h => by cases h; rfl
  | v :: vs, _, ks, .cons r t, h => by
    unfold keysOf at h
    cases e : keyOf v with
    | none => rw [e] at h; cases h
    | some k =>
      cases e2 : keysOf vs with
      | none => rw [e, e2] at h; cases h
      | some js =>
        rw [e, e2] at h
        cases h
        rw [keyOf_ok r e, keysOf_ok t e2]; rfl
theorem kVal_ok (k : Key) : VR K T W (kVal k) (kV k) := by cases k with
  | inl i => exact .int i
  | inr x => exact .str x
theorem kVals_ok : ∀ ks : List Key, VRs K T W (ks.map kVal) (ks.map kV)
  | [] => .nil
  | k :: ks => .cons (kVal_ok k) (kVals_ok ks)
/-- the answers go together -/
inductive OV (K : PySem.W.Frag) (T : Tbl) (W : Wd) : Option Val → Option V → Prop
  | n : OV K T W none none
  | s {v : Val} {x : V} : VR K T W v x → OV K T W (some v) (some x)
theorem findK_ok {κ : Type} [DecidableEq κ] {q : κ} : ∀ {ks : List κ} {vs : List Val} {xs : List V}, ks.length = xs.length → VRs K T W vs xs → OV K T W (findK q ks vs) (valV (ks.zip xs) q)
  | [], _, _, _, _ => by simp only [findK, List.zip_nil_left, valV_nil]; exact .n
  | _ :: _, [], [], h, _ => by simp at h
  | k :: ks, v :: vs, x :: xs, h, .cons r t => by
    simp only [findK, List.zip_cons_cons]
    by_cases e : k = q
    · rw [if_pos e, valV_pos (p := (k, x)) e]; exact .s r
    · rw [if_neg e, valV_neg (p := (k, x)) e]; exact findK_ok (by simpa using h) t
def DCR (K : PySem.W.Frag) (T : Tbl) (W : Wd) (H : Hp) (a : Addr) : DC → Prop
  | .k ks vs => ∃ xs, ks.length = xs.length ∧ Rd H a (.dK (ks.zip xs)) ∧ VRs K T W vs xs
  | .t ks vs => ∃ xs, ks.length = xs.length ∧ Rd H a (.dT (ks.zip xs)) ∧ VRs K T W vs xs
theorem dcOf_ok (s : SR K T W S H) {v : Val} {x : V} (r : VR K T W v x) {c : DC} (h : dcOf S v = some c) : ∃ a, x = .ref a ∧ DCR K T W H a c := by
  cases r with
  | dk e1 e2 e3 => cases h; exact ⟨_, rfl, _, e1, .inl (s.sub _ _ e2), e3⟩
  | dt e1 e2 e3 => cases h; exact ⟨_, rfl, _, e1, .inl (s.sub _ _ e2), e3⟩
  | @loc n hn =>
    unfold dcOf at h
    cases q : S.objs n with
    | none => simp only [q] at h; cases h
    | some b =>
      have A := s.at_ n b q
      cases b with
      | dk lk ks vs =>
        simp only [q] at h; cases h
        obtain ⟨xs, e1, e2, e3⟩ := A
        refine ⟨_, rfl, xs, e1, ?_, e3⟩
        cases lk with
        | true => rw [if_pos rfl] at e2; obtain ⟨o, _, e2⟩ := e2; exact .inr ⟨o, e2⟩
        | false => rw [if_neg Bool.false_ne_true] at e2; exact .inl e2
      | dt lk ks vs =>
        simp only [q] at h; cases h
        obtain ⟨xs, e1, e2, e3⟩ := A
        refine ⟨_, rfl, xs, e1, ?_, e3⟩
        cases lk with
        | true => rw [if_pos rfl] at e2; obtain ⟨o, _, e2⟩ := e2; exact .inr ⟨o, e2⟩
        | false => rw [if_neg Bool.false_ne_true] at e2; exact .inl e2
      | lst xs => simp only [q] at h; cases h
      | ins c vs => simp only [q] at h; cases h
  | _ => cases h
theorem DCR.isD {a : Addr} : ∀ {c : DC}, DCR K T W H a c → IsD H a
  | .k _ _, ⟨_, _, h, _⟩ => .inl ⟨_, h⟩
  | .t _ _, ⟨_, _, h, _⟩ => .inr ⟨_, h⟩
/-- what a key finds -/
theorem DCR.get (hk : T.kc = []) (s : SR K T W S H) {a : Addr} {y : Val} {z : V} {o : Option Val} (ry : VR K T W y z) : ∀ {c : DC}, DCR K T W H a c → c.get y = some o → ∃ ov, DGq K H a z ov ∧ OV K T W o ov
  | .k ks vs, ⟨xs, e1, e2, e3⟩, h => by
    simp only [DC.get] at h
    cases q : keyOf y with
    | none => rw [q] at h; cases h
    | some k => rw [q] at h; cases h; exact ⟨_, .inl (.inl ⟨_, k, e2, keyOf_ok ry q, rfl⟩), findK_ok e1 e3⟩
  | .t ks vs, ⟨xs, e1, e2, e3⟩, h => by
    cases ry with
    | @tup b ys zs hb rb =>
      simp only [DC.get] at h
      cases q : keysOf ys with
      | none => rw [q] at h; cases h
      | some k =>
        rw [q] at h; cases h
        exact ⟨_, .inr ⟨_, k, b, e2, rfl, by rw [← keysOf_ok rb q]; exact TQ_sq s.sub hb, rfl⟩, findK_ok e1 e3⟩
    | @kt b ys zs hb rb =>
      simp only [DC.get] at h
      cases q : keysOf ys with
      | none => rw [q] at h; cases h
      | some k =>
        rw [q] at h; cases h
        exact ⟨_, .inr ⟨_, k, b, e2, rfl, by rw [← keysOf_ok rb q]; exact SqT_mono s.sub hb, rfl⟩, findK_ok e1 e3⟩
    | _ => cases h
theorem setKey_ok (hk : T.kc = []) {S' : Sto} {d y u : Val} {x z w : V} (s : SR K T W S H) (rd : VR K T W d x) (ry : VR K T W y z) (ru : VR K T W u w) (h : setKey d y u S = some S') : ∃ a H', x = .ref a ∧ DPut H a z w H' ∧ SR K T W S' H' := by
  cases rd with
  | @loc n hn =>
    unfold setKey at h
    dsimp only at h
    cases q : S.objs n with
    | none => rw [q] at h; cases h
    | some b =>
      have A := s.at_ n b q
      cases b with
      | dk lk ks vs =>
        cases lk with
        | true => rw [q] at h; cases h
        | false =>
          rw [q] at h
          dsimp only at h
          obtain ⟨xs, e1, e2, e3⟩ := A
          rw [if_neg Bool.false_ne_true] at e2
          cases e : keyOf y with
          | none => rw [e] at h; cases h
          | some k =>
            rw [e] at h
            dsimp only at h
            split at h
            · rename_i hl
              cases h
              obtain ⟨p1, p2⟩ := putS_vr (k := k) ru (ks := ks) e3
              obtain ⟨p3, p4⟩ := putK_S (k := k) (y := w) e1
              have hl2 : (ks.zip xs).length < sizeLine := by rw [List.length_zip, ← e1, Nat.min_self]; exact hl
              refine ⟨_, _, rfl, .inl ⟨_, k, e2, keyOf_ok ry e, hl2, rfl⟩, s.put q (o := .dK (putK (ks.zip xs) k w)) ?_⟩
              refine ⟨(putS k w ks xs).2, by rw [p1]; exact p4, ?_, p2⟩
              rw [if_neg Bool.false_ne_true, upd_same, p1, p3]
            · cases h
      | dt lk ks vs =>
        cases lk with
        | true => rw [q] at h; cases h
        | false =>
          rw [q] at h
          dsimp only at h
          obtain ⟨xs, e1, e2, e3⟩ := A
          rw [if_neg Bool.false_ne_true] at e2
          cases ry with
          | @tup b ys zs hb rb =>
            dsimp only at h
            cases e : keysOf ys with
            | none => rw [e] at h; cases h
            | some k =>
              rw [e] at h
              dsimp only at h
              split at h
              · rename_i hl
                cases h
                obtain ⟨p1, p2⟩ := putS_vr (k := k) ru (ks := ks) e3
                obtain ⟨p3, p4⟩ := putK_S (k := k) (y := w) e1
                have hl2 : (ks.zip xs).length < sizeLine := by rw [List.length_zip, ← e1, Nat.min_self]; exact hl
                have hb' : H b = some (.tup (k.map kV)) := by
                  rcases hb with hb | ⟨_, hb⟩
                  · rw [s.sub _ _ hb, keysOf_ok rb e]
                  · rw [hk] at hb; cases hb
                refine ⟨_, _, rfl, .inr ⟨_, k, b, e2, rfl, hb', hl2, rfl⟩, s.put q (o := .dT (putK (ks.zip xs) k w)) ?_⟩
                refine ⟨(putS k w ks xs).2, by rw [p1]; exact p4, ?_, p2⟩
                rw [if_neg Bool.false_ne_true, upd_same, p1, p3]
              · cases h
          | _ => cases h
      | lst xs => rw [q] at h; cases h
      | ins c vs => rw [q] at h; cases h
  | _ => cases h
end
end PM
namespace PM
open PySem PySem.Spec L2
/-! ### the rules -/
section
variable {T : Tbl} {X : Cx} {Ew : XW} {e o i value k x : Expr} {fo fi fe fk fx : EM} {pos pos' apos cpos : Pos}
theorem m_dget (hk : T.kc = []) (hu : X.A.units + 1 < cLine) (ho : PEm T X Ew o fo) (hi : PEm T X Ew i fi) (hs : NoSl i := by exact fun _ _ => rfl) : PEm T X Ew (.Subscript o i pos) (eBin vDGet fo fi) := by
  refine PE.to (pq_get hu ho hi hs) fun σ H Q ⟨W, ρ, S, s, er, h⟩ => ⟨W, ρ, S, s, er, RP.bind h fun W1 S1 H1 v l1 s1 h1 a va => ?_⟩
  refine ⟨W1, ρ, S1, s1, er.mono l1, RP.bind h1 fun W2 S2 H2 w l2 s2 h2 b vb => ?_⟩
  unfold vDGet at h2
  cases e1 : dcOf S2 v with
  | none => rw [e1] at h2; exact False.elim h2
  | some c =>
    rw [e1] at h2
    dsimp only at h2
    obtain ⟨ad, rfl, D⟩ := dcOf_ok s2 (va.mono l2) e1
    cases e2 : c.get w with
    | none => rw [e2] at h2; exact False.elim h2
    | some r =>
      rw [e2] at h2
      obtain ⟨ov, g, hov⟩ := D.get hk s2 vb e2
      cases hov with
      | n => exact False.elim h2
      | s r => exact ⟨ad, _, rfl, g, h2.now s2 _ r⟩
theorem m_din (hk : T.kc = []) (hu : X.A.units + 1 < cLine) (hi : PEm T X Ew i fi) (ho : PEm T X Ew o fo) (hm : behindInMarks .In o = false := by first | exact nobehind _ (by decide) (by decide) | rfl) : PEm T X Ew (.Compare i [.In] [o] pos) (eBin (vDIn false) fi fo) := by
  refine PE.to (pe_cmp (pq_in hu hi ho) hm) fun σ H Q ⟨W, ρ, S, s, er, h⟩ => ⟨W, ρ, S, s, er, RP.bind h fun W1 S1 H1 v l1 s1 h1 a va => ?_⟩
  refine ⟨W1, ρ, S1, s1, er.mono l1, RP.bind h1 fun W2 S2 H2 w l2 s2 h2 b vb => ?_⟩
  unfold vDIn at h2
  cases e1 : dcOf S2 w with
  | none => rw [e1] at h2; exact False.elim h2
  | some c =>
    rw [e1] at h2
    dsimp only at h2
    obtain ⟨ad, rfl, D⟩ := dcOf_ok s2 vb e1
    cases e2 : c.get v with
    | none => rw [e2] at h2; exact False.elim h2
    | some r =>
      rw [e2] at h2
      obtain ⟨ov, g, hov⟩ := D.get hk s2 (va.mono l2) e2
      refine ⟨ad, ov, rfl, g, ?_⟩
      cases hov with
      | n => exact h2.now s2 _ (.bl _)
      | s r => exact h2.now s2 _ (.bl _)
theorem m_dnotin (hk : T.kc = []) (hu : X.A.units + 1 < cLine) (hi : PEm T X Ew i fi) (ho : PEm T X Ew o fo) (hm : behindInMarks .NotIn o = false := by first | exact nobehind _ (by decide) (by decide) | rfl) : PEm T X Ew (.Compare i [.NotIn] [o] pos) (eBin (vDIn true) fi fo) := by
  refine PE.to (pe_cmp (pq_notIn hu hi ho) hm) fun σ H Q ⟨W, ρ, S, s, er, h⟩ => ⟨W, ρ, S, s, er, RP.bind h fun W1 S1 H1 v l1 s1 h1 a va => ?_⟩
  refine ⟨W1, ρ, S1, s1, er.mono l1, RP.bind h1 fun W2 S2 H2 w l2 s2 h2 b vb => ?_⟩
  unfold vDIn at h2
  cases e1 : dcOf S2 w with
  | none => rw [e1] at h2; exact False.elim h2
  | some c =>
    rw [e1] at h2
    dsimp only at h2
    obtain ⟨ad, rfl, D⟩ := dcOf_ok s2 vb e1
    cases e2 : c.get v with
    | none => rw [e2] at h2; exact False.elim h2
    | some r =>
      rw [e2] at h2
      obtain ⟨ov, g, hov⟩ := D.get hk s2 (va.mono l2) e2
      refine ⟨ad, ov, rfl, g, ?_⟩
      cases hov with
      | n => exact h2.now s2 _ (.bl _)
      | s r => exact h2.now s2 _ (.bl _)
theorem m_dget1 (hk : T.kc = []) (hu : X.A.units + 1 < cLine) (ho : PEm T X Ew o fo) (hy : PEm T X Ew k fk) (m : M1 X o "get" apos k cpos) : PEm T X Ew (.Call (.Attribute o "get" apos) [k] [] cpos) (eBM isDct vDGetM fo (aCons fk aNil)) := by
  refine PE.to (pq_get1 hu ho hy m) fun σ H Q ⟨W, ρ, S, s, er, h⟩ => ⟨W, ρ, S, s, er, RP.bind h fun W1 S1 H1 v l1 s1 h1 a va => ?_⟩
  cases hd : isDct v S1 with
  | false => rw [hd] at h1; exact False.elim h1
  | true =>
    rw [hd, if_pos rfl] at h1
    obtain ⟨c1, hc1⟩ := Option.isSome_iff_exists.mp hd
    obtain ⟨ad, rfl, D1⟩ := dcOf_ok s1 va hc1
    refine ⟨ad, rfl, D1.isD, W1, ρ, S1, s1, er.mono l1, RP.bind (RP.bind h1 fun W2 S2 H2 ys l2 s2 h2 => h2) fun W2 S2 H2 w l2 s2 h2 b vb => ?_⟩
    have h3 : RP X.K T W2 (vDGetM v [w] S2) (VP X.K T Q) (fun H' c o => Ew c o σ H') := RP.now (a := [w]) h2 s2
    unfold vDGetM at h3
    cases e1 : dcOf S2 v with
    | none => rw [e1] at h3; exact False.elim h3
    | some c =>
      rw [e1] at h3
      dsimp only at h3
      obtain ⟨ad', ea, D⟩ := dcOf_ok s2 (va.mono l2) e1
      cases ea
      cases e2 : c.get w with
      | none => rw [e2] at h3; exact False.elim h3
      | some r =>
        rw [e2] at h3
        obtain ⟨ov, g, hov⟩ := D.get hk s2 vb e2
        refine ⟨ov, g, ?_⟩
        cases hov with
        | n => exact h3.now s2 _ .non
        | s r => exact h3.now s2 _ r
theorem m_dget2 (hk : T.kc = []) (hu : X.A.units + 1 < cLine) (ho : PEm T X Ew o fo) (hy : PEm T X Ew k fk) (hx : PEm T X Ew x fx) (m : M2 X o "get" apos k x cpos) : PEm T X Ew (.Call (.Attribute o "get" apos) [k, x] [] cpos) (eBM isDct vDGetM fo (aCons fk (aCons fx aNil))) := by
  refine PE.to (pq_get2 hu ho hy hx m) fun σ H Q ⟨W, ρ, S, s, er, h⟩ => ⟨W, ρ, S, s, er, RP.bind h fun W1 S1 H1 v l1 s1 h1 a va => ?_⟩
  cases hd : isDct v S1 with
  | false => rw [hd] at h1; exact False.elim h1
  | true =>
    rw [hd, if_pos rfl] at h1
    obtain ⟨c1, hc1⟩ := Option.isSome_iff_exists.mp hd
    obtain ⟨ad, rfl, D1⟩ := dcOf_ok s1 va hc1
    refine ⟨ad, rfl, D1.isD, W1, ρ, S1, s1, er.mono l1, RP.bind (RP.bind h1 fun W2 S2 H2 ys l2 s2 h2 => h2) fun W2 S2 H2 w l2 s2 h2 b vb => ?_⟩
    refine ⟨W2, ρ, S2, s2, (er.mono l1).mono l2, RP.bind (RP.bind h2 fun W3 S3 H3 ys l3 s3 h3 => h3) fun W3 S3 H3 u l3 s3 h3 z vz => ?_⟩
    have h4 : RP X.K T W3 (vDGetM v [w, u] S3) (VP X.K T Q) (fun H' c o => Ew c o σ H') := RP.now (a := [w, u]) (RP.now (a := [u]) h3 s3) s3
    unfold vDGetM at h4
    cases e1 : dcOf S3 v with
    | none => rw [e1] at h4; exact False.elim h4
    | some c =>
      rw [e1] at h4
      dsimp only at h4
      obtain ⟨ad', ea, D⟩ := dcOf_ok s3 (va.mono (l2.trans l3)) e1
      cases ea
      cases e2 : c.get w with
      | none => rw [e2] at h4; exact False.elim h4
      | some r =>
        rw [e2] at h4
        obtain ⟨ov, g, hov⟩ := D.get hk s3 (vb.mono l3) e2
        refine ⟨ov, g, ?_⟩
        cases hov with
        | n => exact h4.now s3 _ vz
        | s r => exact h4.now s3 _ r
theorem m_dnew {tk : Bool} : PEm T X Ew (.Dict [] [] pos) (eDNew tk) := by
  cases tk with
  | false =>
    refine PE.to pe_dnewK fun σ H Q ⟨W, ρ, S, s, er, h⟩ p hp => ?_
    have s2 : SR X.K T (W.box p) (S.alloc (.dk false [] [])) (upd H p (.dK [])) := s.box hp ⟨[], rfl, by rw [if_neg Bool.false_ne_true]; exact upd_same, .nil⟩
    refine h _ _ WLe.box s2 _ ?_
    have : VR X.K T (W.box p) (.loc W.n) (.ref ((W.box p).m W.n)) := .loc (Nat.lt_succ_self _)
    rw [Wd.box_at, s.nx] at this
    exact this
  | true =>
    refine PE.to pe_dnewT fun σ H Q ⟨W, ρ, S, s, er, h⟩ p hp => ?_
    have s2 : SR X.K T (W.box p) (S.alloc (.dt false [] [])) (upd H p (.dT [])) := s.box hp ⟨[], rfl, by rw [if_neg Bool.false_ne_true]; exact upd_same, .nil⟩
    refine h _ _ WLe.box s2 _ ?_
    have : VR X.K T (W.box p) (.loc W.n) (.ref ((W.box p).m W.n)) := .loc (Nat.lt_succ_self _)
    rw [Wd.box_at, s.nx] at this
    exact this
/-- o[i] = e, o a dict -/
def sSetK (o i e : EM) : SM := fun ρ S => (e ρ S).toS ρ fun u S1 => (o ρ S1).toS ρ fun v S2 => (i ρ S2).toS ρ fun j S3 => match setKey v j u S3 with
  | some S4 => .nx ρ S4
  | none => .st
theorem ms_setK (hk : T.kc = []) (hu : X.A.units + 1 < cLine) (hv : PEm T X Ew value fe) (ho : PEm T X Ew o fo) (hi : PEm T X Ew i fi) (hs : swapsWith value (some (.Subscript o i pos')) pos.line X.env = pure false := by rfl) :
    PSm T X Ew (.Assign [.Subscript o i pos'] value pos) (sSetK fo fi fe) := by
  refine PS.to (ps_dput hu ho hi hv hs) fun D σ H ⟨W, ρ, S, sr, er, h⟩ => ⟨W, ρ, S, sr, er, SPo.of er h fun W1 S1 H1 u l1 s1 h1 z vz => ?_⟩
  refine ⟨W1, ρ, S1, s1, er.mono l1, SPo.of (er.mono l1) h1 fun W2 S2 H2 v l2 s2 h2 a va => ⟨W2, ρ, S2, s2, (er.mono l1).mono l2, SPo.of ((er.mono l1).mono l2) h2 fun W3 S3 H3 j l3 s3 h3 b vb => ?_⟩⟩
  cases e : setKey v j u S3 with
  | none => rw [e] at h3; exact False.elim h3
  | some S4 =>
    rw [e] at h3
    obtain ⟨ad, H4, ea, hp, s4⟩ := setKey_ok hk s3 (va.mono l3) vb (vz.mono (l2.trans l3)) e
    exact ⟨ad, H4, ea, hp, h3 W3 H4 σ (.refl _) s4 (((er.mono l1).mono l2).mono l3)⟩
/-- d.setdefault(k, x) -/
theorem m_setd (ho : PEm T X Ew o fo) (hy : PEm T X Ew k fk) (hx : PEm T X Ew x fx) (m : M2 X o "setdefault" apos k x cpos) : PEm T X Ew (.Call (.Attribute o "setdefault" apos) [k, x] [] cpos) (eBM isDct vSetd fo (aCons fk (aCons fx aNil))) := by
  refine PE.to (pe_dsetd ho hy hx m) fun σ H Q ⟨W, ρ, S, s, er, h⟩ => ⟨W, ρ, S, s, er, RP.bind h fun W1 S1 H1 v l1 s1 h1 a va => ?_⟩
  cases hd : isDct v S1 with
  | false => rw [hd] at h1; exact False.elim h1
  | true =>
    rw [hd, if_pos rfl] at h1
    obtain ⟨c1, hc1⟩ := Option.isSome_iff_exists.mp hd
    obtain ⟨ad, rfl, D1⟩ := dcOf_ok s1 va hc1
    refine ⟨ad, rfl, D1.isD, W1, ρ, S1, s1, er.mono l1, RP.bind (RP.bind h1 fun W2 S2 H2 ys l2 s2 h2 => h2) fun W2 S2 H2 w l2 s2 h2 b vb => ?_⟩
    refine ⟨W2, ρ, S2, s2, (er.mono l1).mono l2, RP.bind (RP.bind h2 fun W3 S3 H3 ys l3 s3 h3 => h3) fun W3 S3 H3 u l3 s3 h3 z vz => ?_⟩
    have h4 : RP X.K T W3 (vSetd v [w, u] S3) (VP X.K T Q) (fun H' c o => Ew c o σ H') := RP.now (a := [w, u]) (RP.now (a := [u]) h3 s3) s3
    have va3 := va.mono (l2.trans l3)
    have vb3 := vb.mono l3
    clear h3 h2 h1
    unfold vSetd at h4
    cases v with
    | loc n =>
      dsimp only at h4
      cases q : S3.objs n with
      | none => rw [q] at h4; exact False.elim h4
      | some ob =>
        have A := s3.at_ n ob q
        cases ob with
        | dk lk ks vs =>
          cases lk with
          | true => rw [q] at h4; exact False.elim h4
          | false =>
            rw [q] at h4
            dsimp only at h4
            obtain ⟨xs, e1, e2, e3⟩ := A
            rw [if_neg Bool.false_ne_true] at e2
            cases e : keyOf w with
            | none => rw [e] at h4; exact False.elim h4
            | some kk =>
              rw [e] at h4
              dsimp only at h4
              split at h4
              · rename_i hl
                have hl2 : (ks.zip xs).length < sizeLine := by rw [List.length_zip, ← e1, Nat.min_self]; exact hl
                have hf := findK_ok (q := kk) e1 e3
                cases va3 with
                | loc hn =>
                  refine ⟨_, kk, e2, keyOf_ok vb3 e, hl2, fun v hv => ?_, fun hn => ?_⟩
                  · rw [hv] at hf
                    cases q2 : findK kk ks vs with
                    | none => rw [q2] at hf; cases hf
                    | some w2 =>
                      rw [q2] at hf h4
                      cases hf with
                      | s r => exact h4.now s3 _ r
                  · rw [hn] at hf
                    cases q2 : findK kk ks vs with
                    | some w2 => rw [q2] at hf; cases hf
                    | none =>
                      rw [q2] at h4
                      obtain ⟨p1, p2⟩ := putS_vr (k := kk) vz (ks := ks) e3
                      obtain ⟨p3, p4⟩ := putK_S (k := kk) (y := z) e1
                      have s4 := s3.put q (o := .dK (putK (ks.zip xs) kk z)) (b' := .dk false (putS kk u ks vs).1 (putS kk u ks vs).2) ⟨(putS kk z ks xs).2, by rw [p1]; exact p4, by rw [if_neg Bool.false_ne_true, upd_same, p1, p3], p2⟩
                      exact h4.now s4 _ vz
              · exact False.elim h4
        | _ => rw [q] at h4; exact False.elim h4
    | _ => exact False.elim h4
end
end PM

/-! PM, part w: walks of a dict (locked meanwhile), things given up for good with all that is in them -/
namespace PM
open PySem PySem.Spec L2
section
variable {K : PySem.W.Frag} {T : Tbl} {W : Wd} {S : Sto} {H : Hp}
/-! ### locking -/
theorem SR.lock {k : Nat} {b b' : Ob} {od : Obj} {u : HO} (s : SR K T W S H) (e : S.objs k = some b) (hu : lkd b = false) (hl : lkd b' = true) (h : OR K T (W.add (W.m k) (.frz od u)) (upd H (W.m k) (.frz od u)) (W.m k) b') :
    SR K T (W.add (W.m k) (.frz od u)) (S.put k b') (upd H (W.m k) (.frz od u)) := by
  have l : WLe W (W.add (W.m k) (.frz od u)) := .add (s.out k b e hu)
  have old : ∀ {j : Nat} {c : Ob}, j ≠ k → (S.put k b').objs j = some c → S.objs j = some c := fun {j c} hj q => by
    have q' : (if j = k then some b' else S.objs j) = some c := q
    rw [if_neg hj] at q'; exact q'
  have at_k : ∀ {c : Ob}, (S.put k b').objs k = some c → c = b' := fun {c} q => by
    have q' : (if k = k then some b' else S.objs k) = some c := q
    rw [if_pos rfl] at q'; cases q'; rfl
  have ex : ∀ {j : Nat} {c : Ob}, (S.put k b').objs j = some c → ∃ c', S.objs j = some c' := fun {j c} q => by
    by_cases hj : j = k
    · rw [hj]; exact ⟨_, e⟩
    · exact ⟨_, old hj q⟩
  refine ⟨s.nx, fun a v q => ?_, fun j c q => let ⟨c', q'⟩ := ex q; s.lt j c' q', fun j c q hc => ?_, fun j c q => ?_, fun i j c d q1 q2 q3 => ?_⟩
  · have q' : upd W.I (W.m k) (.frz od u) a = some v := q
    by_cases ha : a = W.m k
    · rw [ha, upd_same] at q' ⊢; exact q'
    · rw [upd_ne ha] at q' ⊢; exact s.sub a v q'
  · by_cases hj : j = k
    · subst hj; rw [at_k q, hl] at hc; cases hc
    · show upd W.I (W.m k) (.frz od u) (W.m j) = none
      rw [upd_ne fun z => hj (s.inj j k c b (old hj q) e z)]
      exact s.out j c (old hj q) hc
  · by_cases hj : j = k
    · subst hj; rw [at_k q]; exact h
    · exact (s.at_ j c (old hj q)).mono l (upd_ne fun z => hj (s.inj j k c b (old hj q) e z))
  · obtain ⟨c1, r1⟩ := ex q1
    obtain ⟨c2, r2⟩ := ex q2
    exact s.inj i j c1 c2 r1 r2 q3
/-- nothing is known of p any more -/
def Wd.del (W : Wd) (p : Addr) : Wd := ⟨fun a => if a = p then none else W.I a, W.m, W.n⟩
def isLk : HO → Prop
  | .frz _ (.dK _) => True
  | .frz _ (.dT _) => True
  | _ => False
theorem del_I {p a : Addr} {o u : HO} (h : W.I p = Option.some u) (lk : isLk u) (q : W.I a = some o) (n : ¬ isLk o) : (W.del p).I a = some o := by
  show (if a = p then none else W.I a) = some o
  rw [if_neg]
  · exact q
  · intro e; subst e; rw [h] at q; cases q; exact n lk
mutual
theorem VR.del {p : Addr} {u : HO} (h : W.I p = some u) (lk : isLk u) : ∀ {v : Val} {x : V}, VR K T W v x → VR K T (W.del p) v x
  | _, _, .non => .non
  | _, _, .bl b => .bl b
  | _, _, .int b => .int b
  | _, _, .str b => .str b
  | _, _, .ty b => .ty b
  | _, _, .tup hq r => by
    refine .tup ?_ (VRs.del h lk r)
    rcases hq with hq | ⟨(hq | ⟨o, hq⟩) | hq, hk⟩
    · exact .inl (del_I h lk hq fun z => z)
    · exact .inl (del_I h lk hq fun z => z)
    · exact .inr ⟨.inl (.inr ⟨o, del_I h lk hq fun z => z⟩), hk⟩
    · exact .inr ⟨.inr hq, hk⟩
  | _, _, .lst hq r => .lst (del_I h lk hq fun z => z) (VRs.del h lk r)
  | _, _, .fz hq r => by
    refine .fz ?_ (VRs.del h lk r)
    rcases hq with (hq | ⟨o, hq⟩) | hq
    · exact .inl (.inl (del_I h lk hq fun z => z))
    · exact .inl (.inr ⟨o, del_I h lk hq fun z => z⟩)
    · exact .inr hq
  | _, _, .kt hq r => by
    refine .kt ?_ (VRs.del h lk r)
    rcases hq with (hq | ⟨o, hq⟩) | hq
    · exact .inl (.inl (del_I h lk hq fun z => z))
    · exact .inl (.inr ⟨o, del_I h lk hq fun z => z⟩)
    · exact .inr hq
  | _, _, .dk e hq r => .dk e (del_I h lk hq fun z => z) (VRs.del h lk r)
  | _, _, .dt e hq r => .dt e (del_I h lk hq fun z => z) (VRs.del h lk r)
  | _, _, .ins c e hq r => .ins c e (del_I h lk hq fun z => z) (VRs.del h lk r)
  | _, _, .cls e => .cls e
  | _, _, .err0 a b c => .err0 a b c
  | _, _, .errd a b c hq r => .errd a b c (del_I h lk hq fun z => z) (VRs.del h lk r)
  | _, _, .loc e => .loc e
theorem VRs.del {p : Addr} {u : HO} (h : W.I p = some u) (lk : isLk u) : ∀ {vs : List Val} {xs : List V}, VRs K T W vs xs → VRs K T (W.del p) vs xs
  | _, _, .nil => .nil
  | _, _, .cons a r => .cons (VR.del h lk a) (VRs.del h lk r)
end
theorem ER.del {p : Addr} {u : HO} {ρ : Ev} {σ : L2.St} (h : W.I p = some u) (lk : isLk u) (e : ER K T W ρ σ) : ER K T (W.del p) ρ σ := ⟨e.len, fun i v q => let ⟨x, a, b⟩ := e.get i v q; ⟨x, a, b.del h lk⟩⟩
theorem OR.del {p a : Addr} {u o' : HO} (h : W.I p = Option.some u) (lk : isLk u) (ha : a ≠ p) : ∀ {b : Ob}, OR K T W H a b → OR K T (W.del p) (upd H p o') a b
  | .lst _, ⟨xs, e, r⟩ => ⟨xs, by rw [upd_ne ha]; exact e, r.del h lk⟩
  | .dk true _ _, ⟨xs, z, e, r⟩ => ⟨xs, z, by
      rw [if_pos rfl] at e ⊢
      obtain ⟨o, e1, e2⟩ := e
      refine ⟨o, ?_, by rw [upd_ne ha]; exact e2⟩
      show (if a = p then none else W.I a) = _
      rw [if_neg ha]; exact e1, r.del h lk⟩
  | .dk false _ _, ⟨xs, z, e, r⟩ => ⟨xs, z, by rw [if_neg Bool.false_ne_true] at e ⊢; rw [upd_ne ha]; exact e, r.del h lk⟩
  | .dt true _ _, ⟨xs, z, e, r⟩ => ⟨xs, z, by
      rw [if_pos rfl] at e ⊢
      obtain ⟨o, e1, e2⟩ := e
      refine ⟨o, ?_, by rw [upd_ne ha]; exact e2⟩
      show (if a = p then none else W.I a) = _
      rw [if_neg ha]; exact e1, r.del h lk⟩
  | .dt false _ _, ⟨xs, z, e, r⟩ => ⟨xs, z, by rw [if_neg Bool.false_ne_true] at e ⊢; rw [upd_ne ha]; exact e, r.del h lk⟩
  | .ins _ _, ⟨C, dx, xs, c, z, e, r⟩ => ⟨C, dx, xs, c, z, by rw [upd_ne ha]; exact e, r.del h lk⟩
theorem SR.unlock {k : Nat} {b b' : Ob} {u o' : HO} (s : SR K T W S H) (e : S.objs k = some b) (hI : W.I (W.m k) = some u) (lk : isLk u) (h : OR K T (W.del (W.m k)) (upd H (W.m k) o') (W.m k) b') :
    SR K T (W.del (W.m k)) (S.put k b') (upd H (W.m k) o') := by
  have old : ∀ {j : Nat} {c : Ob}, j ≠ k → (S.put k b').objs j = some c → S.objs j = some c := fun {j c} hj q => by
    have q' : (if j = k then some b' else S.objs j) = some c := q
    rw [if_neg hj] at q'; exact q'
  have at_k : ∀ {c : Ob}, (S.put k b').objs k = some c → c = b' := fun {c} q => by
    have q' : (if k = k then some b' else S.objs k) = some c := q
    rw [if_pos rfl] at q'; cases q'; rfl
  have ex : ∀ {j : Nat} {c : Ob}, (S.put k b').objs j = some c → ∃ c', S.objs j = some c' := fun {j c} q => by
    by_cases hj : j = k
    · rw [hj]; exact ⟨_, e⟩
    · exact ⟨_, old hj q⟩
  refine ⟨s.nx, fun a v q => ?_, fun j c q => let ⟨c', q'⟩ := ex q; s.lt j c' q', fun j c q hc => ?_, fun j c q => ?_, fun i j c d q1 q2 q3 => ?_⟩
  · have q' : (if a = W.m k then none else W.I a) = some v := q
    by_cases ha : a = W.m k
    · rw [if_pos ha] at q'; cases q'
    · rw [if_neg ha] at q'; rw [upd_ne ha]; exact s.sub a v q'
  · show (if W.m j = W.m k then none else W.I (W.m j)) = none
    by_cases hj : j = k
    · rw [hj, if_pos rfl]
    · split
      · rfl
      · exact s.out j c (old hj q) hc
  · by_cases hj : j = k
    · subst hj; rw [at_k q]; exact h
    · exact (s.at_ j c (old hj q)).del hI lk fun z => hj (s.inj j k c b (old hj q) e z)
  · obtain ⟨c1, r1⟩ := ex q1
    obtain ⟨c2, r2⟩ := ex q2
    exact s.inj i j c1 c2 r1 r2 q3
end
/-! ### walks over the keys of a locked dict -/
def kVals (ks : List Key) : List Val := ks.map kVal
def kTups (ks : List (List Key)) : List Val := ks.map fun k => .tup (k.map kVal)
def iKeysL (f : EM) : IM := fun ρ S => (f ρ S).bind fun v S1 => match v with
  | .loc n => (match S1.objs n with
    | some (.dk true ks vs) => .ok ⟨kVals ks, fun S' => S'.objs n = some (.dk true ks vs)⟩ S1
    | some (.dt true ks vs) => .ok ⟨kTups ks, fun S' => S'.objs n = some (.dt true ks vs)⟩ S1
    | _ => .st)
  | _ => .st
section
variable {K : PySem.W.Frag} {T : Tbl} {W : Wd} {S : Sto} {H : Hp}
/-- a tuple that stands in the heap is known from now on -/
theorem SR.know {q : Addr} {xs : List V} (s : SR K T W S H) (h : H q = some (.tup xs)) : ∃ W', WLe W W' ∧ SR K T W' S H ∧ W'.I q = some (.tup xs) := by
  have ho : ∀ a o, W.I a = some o → a = q → o = .tup xs := fun a o e z => by
    have := s.sub a o e
    rw [z, h] at this; cases this; rfl
  have nq : ∀ k o, S.objs k = some o → W.m k ≠ q := fun k o e z => by
    have A := s.at_ k o e
    rw [z] at A
    cases o with
    | lst _ => obtain ⟨_, A, _⟩ := A; rw [h] at A; cases A
    | dk lk _ _ => cases lk with
      | true => obtain ⟨_, _, A, _⟩ := A; rw [if_pos rfl] at A; obtain ⟨_, _, A⟩ := A; rw [h] at A; cases A
      | false => obtain ⟨_, _, A, _⟩ := A; rw [if_neg Bool.false_ne_true, h] at A; cases A
    | dt lk _ _ => cases lk with
      | true => obtain ⟨_, _, A, _⟩ := A; rw [if_pos rfl] at A; obtain ⟨_, _, A⟩ := A; rw [h] at A; cases A
      | false => obtain ⟨_, _, A, _⟩ := A; rw [if_neg Bool.false_ne_true, h] at A; cases A
    | ins _ _ => obtain ⟨_, _, _, _, _, A, _⟩ := A; rw [h] at A; cases A
  have l : WLe W (W.add q (.tup xs)) := ⟨fun a u e => by
    show upd W.I q (.tup xs) a = some u
    by_cases z : a = q
    · rw [z, upd_same, ho a u e z]
    · rw [upd_ne z]; exact e, Nat.le_refl _, fun _ _ => rfl⟩
  refine ⟨W.add q (.tup xs), l, ⟨s.nx, fun a u e => ?_, s.lt, fun k o e hu => ?_, fun k o e => (s.at_ k o e).mono l rfl, s.inj⟩, upd_same⟩
  · have e' : upd W.I q (.tup xs) a = some u := e
    by_cases z : a = q
    · rw [z, upd_same] at e'; rw [z, h]; exact e'
    · rw [upd_ne z] at e'; exact s.sub a u e'
  · show upd W.I q (.tup xs) (W.m k) = none
    rw [upd_ne (nq k o e)]; exact s.out k o e hu
end
section
variable {K : PySem.W.Frag} {T : Tbl} {W : Wd} {S : Sto} {H : Hp}
theorem itk_ok {n : Nat} {o : Obj} {ks : List Key} {vs : List Val} {xs : List V} (hn : n < W.n) (hl : ks.length = xs.length) (hI : W.I (W.m n) = some (.frz o (.dK (ks.zip xs)))) :
    ItOk K T W ⟨kVals ks, fun S' => S'.objs n = some (.dk true ks vs)⟩ (Itk (W.m n) o (ks.zip xs)) := by
  intro W' S' H' l s' hs i
  have hz : (ks.zip xs).length = ks.length := by rw [List.length_zip, ← hl, Nat.min_self]
  have hH : H' (W.m n) = some (.frz o (.dK (ks.zip xs))) := s'.sub _ _ (l.sub _ _ hI)
  constructor
  · intro v hv
    have hi : i < ks.length := by
      have := (List.getElem?_eq_some_iff.mp hv).1
      simpa [kVals] using this
    refine ⟨⟨hH, by rw [hz]; exact hi⟩, fun x H'' y => ?_⟩
    obtain ⟨rfl, k, w, hk, rfl⟩ := y
    refine ⟨W', .refl _, s', ?_⟩
    have hk2 : ks[i]? = some k := by
      rw [List.getElem?_zip_eq_some] at hk
      exact hk.1
    have : v = kVal k := by
      have hv' : (ks.map kVal)[i]? = some v := hv
      rw [List.getElem?_map, hk2] at hv'
      cases hv'; rfl
    rw [this]; exact kVal_ok k
  · intro hv
    refine ⟨hH, ?_⟩
    have := List.getElem?_eq_none_iff.mp hv
    rw [hz]
    simpa [kVals] using this
theorem itkt_ok {n : Nat} {o : Obj} {ks : List (List Key)} {vs : List Val} {xs : List V} (hn : n < W.n) (hl : ks.length = xs.length) (hI : W.I (W.m n) = some (.frz o (.dT (ks.zip xs)))) :
    ItOk K T W ⟨kTups ks, fun S' => S'.objs n = some (.dt true ks vs)⟩ (Itkt (W.m n) o (ks.zip xs)) := by
  intro W' S' H' l s' hs i
  have hz : (ks.zip xs).length = ks.length := by rw [List.length_zip, ← hl, Nat.min_self]
  have hH : H' (W.m n) = some (.frz o (.dT (ks.zip xs))) := s'.sub _ _ (l.sub _ _ hI)
  constructor
  · intro v hv
    have hi : i < ks.length := by
      have := (List.getElem?_eq_some_iff.mp hv).1
      simpa [kTups] using this
    refine ⟨⟨hH, by rw [hz]; exact hi⟩, fun x H'' y => ?_⟩
    obtain ⟨rfl, k, w, q, hk, rfl, hq⟩ := y
    obtain ⟨W2, l2, s2, hI2⟩ := s'.know hq
    refine ⟨W2, l2, s2, ?_⟩
    have hk2 : ks[i]? = some k := by
      rw [List.getElem?_zip_eq_some] at hk
      exact hk.1
    have : v = .tup (k.map kVal) := by
      have hv' : (ks.map fun k => Val.tup (k.map kVal))[i]? = some v := hv
      rw [List.getElem?_map, hk2] at hv'
      cases hv'; rfl
    rw [this]; exact .tup (.inl hI2) (kVals_ok k)
  · intro hv
    refine ⟨hH, ?_⟩
    have := List.getElem?_eq_none_iff.mp hv
    rw [hz]
    simpa [kTups] using this
end
section
variable {T : Tbl} {X : Cx} {Ew : XW} {tg e : Expr} {f : EM}
theorem i_keysL (h : PEm T X Ew e f) : PIm T X Ew tg e (iKeysL f) := by
  refine PI.to (pi_keys h) fun σ H R ⟨W, ρ, S, s, er, h⟩ => ⟨W, ρ, S, s, er, RP.bind h fun W1 S1 H1 v l1 s1 h1 x vx => ?_⟩
  cases vx with
  | @loc n hn =>
    dsimp only at h1
    cases q : S1.objs n with
    | none => rw [q] at h1; exact False.elim h1
    | some b =>
      have A := s1.at_ n b q
      cases b with
      | dk lk ks vs =>
        cases lk with
        | false => rw [q] at h1; exact False.elim h1
        | true =>
          rw [q] at h1
          obtain ⟨xs, e1, e2, e3⟩ := A
          rw [if_pos rfl] at e2
          obtain ⟨o, e2, e4⟩ := e2
          exact ⟨_, o, rfl, .inl ⟨_, e4, RP.now h1 s1 _ (itk_ok hn e1 e2)⟩⟩
      | dt lk ks vs =>
        cases lk with
        | false => rw [q] at h1; exact False.elim h1
        | true =>
          rw [q] at h1
          obtain ⟨xs, e1, e2, e3⟩ := A
          rw [if_pos rfl] at e2
          obtain ⟨o, e2, e4⟩ := e2
          exact ⟨_, o, rfl, .inr ⟨_, e4, RP.now h1 s1 _ (itkt_ok hn e1 e2)⟩⟩
      | lst _ => rw [q] at h1; exact False.elim h1
      | ins _ _ => rw [q] at h1; exact False.elim h1
  | _ => exact False.elim h1
end
open Classical in
/-- the object n was o all the while; it becomes o' -/
noncomputable def unlk (n : Nat) (o o' : Ob) (r : SRes) : SRes := match r with
  | .nx ρ S => if S.objs n = some o then .nx ρ (S.put n o') else .st
  | .rt v S => if S.objs n = some o then .rt v (S.put n o') else .st
  | .bk ρ S => if S.objs n = some o then .bk ρ (S.put n o') else .st
  | .ct ρ S => if S.objs n = some o then .ct ρ (S.put n o') else .st
  | _ => .st
/-- a loop over a dict of the name i -/
noncomputable def sForD (i : Nat) (tg : Tgt) (b : SM) : SM := fun ρ S => match lk ρ i with
  | some (.loc n) => (match S.objs n with
    | some (.dk false ks vs) => unlk n (.dk true ks vs) (.dk false ks vs) (sFor (iKeysL (eVar i)) tg b ρ (S.put n (.dk true ks vs)))
    | some (.dt false ks vs) => unlk n (.dt true ks vs) (.dt false ks vs) (sFor (iKeysL (eVar i)) tg b ρ (S.put n (.dt true ks vs)))
    | _ => .st)
  | _ => .st
section
variable {T : Tbl} {X : Cx} {Ew : XW} {W : Wd} {D : Ends}
theorem unlk_ok {n : Nat} {o o' : Ob} {od : Obj} {u : HO} {r : SRes} {H : Hp} {S : Sto} {W0 : Wd} (hn : n < W0.n) (h0 : W0.I (W0.m n) = none) (hW : W = W0.add (W0.m n) (.frz od u)) (lk : isLk (.frz od u))
    (new : ∀ W2 S2 H2, WLe W W2 → SR X.K T W2 S2 H2 → S2.objs n = some o → OR X.K T (W2.del (W0.m n)) (upd H2 (W0.m n) u) (W0.m n) o') (h : SPo X.K T Ew W0 D (unlk n o o' r)) :
    SPo X.K T Ew W ⟨fun σ' H' => H' (W0.m n) = some (.frz od u) ∧ D.nx σ' (upd H' (W0.m n) u), fun v H' => H' (W0.m n) = some (.frz od u) ∧ D.rt v (upd H' (W0.m n) u), fun σ' H' => H' (W0.m n) = some (.frz od u) ∧ D.bk σ' (upd H' (W0.m n) u), fun σ' H' => H' (W0.m n) = some (.frz od u) ∧ D.ct σ' (upd H' (W0.m n) u)⟩ r := by
  have hIW : W.I (W0.m n) = some (.frz od u) := by rw [hW]; exact upd_same
  have key : ∀ W2 S2 H2, WLe W W2 → SR X.K T W2 S2 H2 → S2.objs n = some o → H2 (W0.m n) = some (.frz od u) ∧ W2.I (W0.m n) = some (.frz od u) ∧ WLe W0 (W2.del (W0.m n)) ∧ SR X.K T (W2.del (W0.m n)) (S2.put n o') (upd H2 (W0.m n) u) := by
    intro W2 S2 H2 l s e
    have hI := l.sub _ _ hIW
    have hm : W2.m n = W0.m n := by
      have := l.eq n (by rw [hW]; exact hn)
      rw [this, hW]; rfl
    refine ⟨s.sub _ _ hI, hI, ⟨fun a v q => ?_, ?_, fun k hk => ?_⟩, ?_⟩
    · have ha : a ≠ W0.m n := fun z => by rw [z, h0] at q; cases q
      show (if a = W0.m n then none else W2.I a) = some v
      rw [if_neg ha]
      refine l.sub _ _ ?_
      rw [hW]
      show upd W0.I (W0.m n) _ a = _
      rw [upd_ne ha]; exact q
    · have := l.le; rw [hW] at this; exact this
    · have := l.eq k (by rw [hW]; exact hk)
      show W2.m k = W0.m k
      rw [this, hW]; rfl
    · have := s.unlock (b' := o') (o' := u) e (by rw [hm]; exact hI) lk (by rw [hm]; exact new W2 S2 H2 l s e)
      rw [hm] at this; exact this
  cases r with
  | st => exact False.elim h
  | ex c vs ρ S => exact False.elim h
  | nx ρ S2 =>
    unfold unlk at h
    dsimp only at h
    split at h
    · rename_i e
      intro W2 H2 σ2 l s er
      obtain ⟨k1, k2, k3, k4⟩ := key W2 S2 H2 l s e
      exact ⟨k1, h _ _ _ k3 k4 (er.del k2 lk)⟩
    · exact False.elim h
  | rt v S2 =>
    unfold unlk at h
    dsimp only at h
    split at h
    · rename_i e
      intro W2 H2 x l s r
      obtain ⟨k1, k2, k3, k4⟩ := key W2 S2 H2 l s e
      exact ⟨k1, h _ _ _ k3 k4 (r.del k2 lk)⟩
    · exact False.elim h
  | bk ρ S2 =>
    unfold unlk at h
    dsimp only at h
    split at h
    · rename_i e
      intro W2 H2 σ2 l s er
      obtain ⟨k1, k2, k3, k4⟩ := key W2 S2 H2 l s e
      exact ⟨k1, h _ _ _ k3 k4 (er.del k2 lk)⟩
    · exact False.elim h
  | ct ρ S2 =>
    unfold unlk at h
    dsimp only at h
    split at h
    · rename_i e
      intro W2 H2 σ2 l s er
      obtain ⟨k1, k2, k3, k4⟩ := key W2 S2 H2 l s e
      exact ⟨k1, h _ _ _ k3 k4 (er.del k2 lk)⟩
    · exact False.elim h
end
theorem zip_inj {α β : Type} : ∀ {ks : List α} {xs ys : List β}, ks.length = xs.length → ks.length = ys.length → ks.zip xs = ks.zip ys → xs = ys
  | [], [], [], _, _, _ => rfl
  | k :: ks, x :: xs, y :: ys, h1, h2, h => by
    rw [List.zip_cons_cons, List.zip_cons_cons] at h
    obtain ⟨a, b⟩ := List.cons.inj h
    rw [(Prod.mk.inj a).2, zip_inj (by simpa using h1) (by simpa using h2) b]
  | [], _ :: _, _, h, _, _ => by simp at h
  | [], [], _ :: _, _, h, _ => by simp at h
  | _ :: _, [], _, h, _, _ => by simp at h
  | _ :: _, _ :: _, [], _, h, _ => by simp at h
section
variable {T : Tbl} {X : Cx} {Ew : XW} {tgE : Expr} {g : Tgt} {b : SM} {body : List Stmt} {pos pos' : Pos}
theorem ms_forD (i : Nat) {x : Str} (he : PEm T X Ew (.Name x pos') (eVar i)) (hp : PassesOwn (model X.prog X.w) X.A X.env X.xe) (hc : X.calm = true) (hg : PGm X tgE g) (hb : PBm T X Ew body b)
    (hs : ∀ y, foldedSetIterable (.Name x pos') X.env y = pure y := by intro _; rfl) : PSm T X Ew (.For tgE (.Name x pos') body [] pos) (sForD i g b) := by
  refine PS.to (ps_lock (ms_for hp hc (i_keysL he) hg hb hs)) fun D σ H ⟨W, ρ, S, s, er, h⟩ => ?_
  unfold sForD at h
  cases hl : lk ρ i with
  | none => rw [hl] at h; exact False.elim h
  | some v =>
    rw [hl] at h
    cases v with
    | loc n =>
      dsimp only at h
      cases q : S.objs n with
      | none => rw [q] at h; exact False.elim h
      | some ob =>
        have A := s.at_ n ob q
        have hn : n < W.n := by rw [s.nx]; exact s.lt n ob q
        cases ob with
        | dk lk ks vs =>
          cases lk with
          | true => rw [q] at h; exact False.elim h
          | false =>
            rw [q] at h
            dsimp only at h
            obtain ⟨xs, e1, e2, e3⟩ := A
            rw [if_neg Bool.false_ne_true] at e2
            have h0 := s.out n _ q rfl
            refine ⟨W.m n, .dK (ks.zip xs), e2, trivial, fun od => ?_⟩
            have l0 : WLe W (W.add (W.m n) (.frz od (.dK (ks.zip xs)))) := .add h0
            refine ⟨W.add (W.m n) (.frz od (.dK (ks.zip xs))), ρ, S.put n (.dk true ks vs), s.lock q rfl rfl ⟨xs, e1, by rw [if_pos rfl]; exact ⟨od, upd_same, upd_same⟩, e3.mono l0⟩, er.mono l0, ?_⟩
            refine unlk_ok (W0 := W) (H := H) (S := S) hn h0 rfl trivial (fun W2 S2 H2 l s2 e => ?_) h
            have A2 := s2.at_ n _ e
            have hm : W2.m n = W.m n := l.eq n hn
            rw [hm] at A2
            obtain ⟨ys, f1, f2, f3⟩ := A2
            rw [if_pos rfl] at f2
            obtain ⟨o2, f2, _⟩ := f2
            have f4 : W2.I (W.m n) = some (.frz od (.dK (ks.zip xs))) := l.sub _ _ upd_same
            have f5 : ks.zip xs = ks.zip ys := by have z := f2.symm.trans f4; simp only [Option.some.injEq, HO.frz.injEq, HO.dK.injEq] at z; exact z.2.symm
            have := zip_inj e1 f1 f5
            subst this
            exact ⟨xs, e1, by rw [if_neg Bool.false_ne_true]; exact upd_same, f3.del f4 trivial⟩
        | dt lk ks vs =>
          cases lk with
          | true => rw [q] at h; exact False.elim h
          | false =>
            rw [q] at h
            dsimp only at h
            obtain ⟨xs, e1, e2, e3⟩ := A
            rw [if_neg Bool.false_ne_true] at e2
            have h0 := s.out n _ q rfl
            refine ⟨W.m n, .dT (ks.zip xs), e2, trivial, fun od => ?_⟩
            have l0 : WLe W (W.add (W.m n) (.frz od (.dT (ks.zip xs)))) := .add h0
            refine ⟨W.add (W.m n) (.frz od (.dT (ks.zip xs))), ρ, S.put n (.dt true ks vs), s.lock q rfl rfl ⟨xs, e1, by rw [if_pos rfl]; exact ⟨od, upd_same, upd_same⟩, e3.mono l0⟩, er.mono l0, ?_⟩
            refine unlk_ok (W0 := W) (H := H) (S := S) hn h0 rfl trivial (fun W2 S2 H2 l s2 e => ?_) h
            have A2 := s2.at_ n _ e
            have hm : W2.m n = W.m n := l.eq n hn
            rw [hm] at A2
            obtain ⟨ys, f1, f2, f3⟩ := A2
            rw [if_pos rfl] at f2
            obtain ⟨o2, f2, _⟩ := f2
            have f4 : W2.I (W.m n) = some (.frz od (.dT (ks.zip xs))) := l.sub _ _ upd_same
            have f5 : ks.zip xs = ks.zip ys := by have z := f2.symm.trans f4; simp only [Option.some.injEq, HO.frz.injEq, HO.dT.injEq] at z; exact z.2.symm
            have := zip_inj e1 f1 f5
            subst this
            exact ⟨xs, e1, by rw [if_neg Bool.false_ne_true]; exact upd_same, f3.del f4 trivial⟩
        | lst _ => rw [q] at h; exact False.elim h
        | ins _ _ => rw [q] at h; exact False.elim h
    | _ => exact False.elim h
end
/-! ### given up for good, with all that is in it -/
def mapD (f : Val → Sto → Option (Val × Sto)) : List Val → Sto → Option (List Val × Sto)
  | [], S => some ([], S)
  | v :: vs, S => match f v S with
    | some (u, S1) => (match mapD f vs S1 with
      | some (us, S2) => some (u :: us, S2)
      | none => none)
    | none => none
def deepV : Nat → Val → Sto → Option (Val × Sto)
  | 0, _, _ => none
  | n + 1, .loc k, S => match S.objs k with
    | some (.lst xs) => (mapD (deepV n) xs (S.drop k)).map fun r => (.lst r.1, r.2)
    | some (.dk false ks vs) => (mapD (deepV n) vs (S.drop k)).map fun r => (.dk ks r.1, r.2)
    | some (.dt false ks vs) => (mapD (deepV n) vs (S.drop k)).map fun r => (.dt ks r.1, r.2)
    | some (.ins c vs) => (mapD (deepV n) vs (S.drop k)).map fun r => (.ins c r.1, r.2)
    | _ => none
  | n + 1, .tup vs, S => (mapD (deepV n) vs S).map fun r => (.tup r.1, r.2)
  | n + 1, .lst vs, S => (mapD (deepV n) vs S).map fun r => (.lst r.1, r.2)
  | _ + 1, v, S => some (v, S)
def eFrzD (n : Nat) (f : EM) : EM := fun ρ S => (f ρ S).bind fun v S1 => match deepV n v S1 with
  | some (u, S2) => .ok u S2
  | none => .st
section
variable {K : PySem.W.Frag} {T : Tbl} {H : Hp}
theorem mapD_ok {f : Val → Sto → Option (Val × Sto)} (hf : ∀ {W : Wd} {S S' : Sto} {v u : Val} {x : V}, SR K T W S H → VR K T W v x → f v S = some (u, S') → ∃ W', WLe W W' ∧ SR K T W' S' H ∧ VR K T W' u x) :
    ∀ {vs us : List Val} {W : Wd} {S S' : Sto} {xs : List V}, SR K T W S H → VRs K T W vs xs → mapD f vs S = some (us, S') → ∃ W', WLe W W' ∧ SR K T W' S' H ∧ VRs K T W' us xs
  | [], _, W, _, _, _, s, .nil, h => by cases h; exact ⟨W, .refl _, s, .nil⟩
  | v :: vs, us, W, S, S', _, s, .cons r t, h => by
    unfold mapD at h
    cases e : f v S with
    | none => rw [e] at h; cases h
    | some p =>
      obtain ⟨u, S1⟩ := p
      rw [e] at h
      dsimp only at h
      obtain ⟨W1, l1, s1, r1⟩ := hf s r e
      cases e2 : mapD f vs S1 with
      | none => rw [e2] at h; cases h
      | some p =>
        obtain ⟨us2, S2⟩ := p
        rw [e2] at h
        cases h
        obtain ⟨W2, l2, s2, r2⟩ := mapD_ok hf s1 (t.mono l1) e2
        exact ⟨W2, l1.trans l2, s2, .cons (r1.mono l2) r2⟩
theorem deepV_ok : ∀ (n : Nat) {W : Wd} {S S' : Sto} {v u : Val} {x : V}, SR K T W S H → VR K T W v x → deepV n v S = some (u, S') → ∃ W', WLe W W' ∧ SR K T W' S' H ∧ VR K T W' u x
  | 0, W, S, S', v, u, x, s, r, h => by unfold deepV at h; cases h
  | n + 1, W, S, S', v, u, x, s, r, h => by
    have ih := @deepV_ok n
    cases r with
    | @tup a vs xs hq rs =>
      have h' : (mapD (deepV n) vs S).map (fun r => (Val.tup r.1, r.2)) = some (u, S') := h
      obtain ⟨⟨us, S1⟩, e, q⟩ := Option.map_eq_some_iff.mp h'
      cases q
      obtain ⟨W1, l1, s1, r1⟩ := mapD_ok ih s rs e
      exact ⟨W1, l1, s1, .tup (TQ_mono l1.sub hq) r1⟩
    | @lst a vs xs hq rs =>
      have h' : (mapD (deepV n) vs S).map (fun r => (Val.lst r.1, r.2)) = some (u, S') := h
      obtain ⟨⟨us, S1⟩, e, q⟩ := Option.map_eq_some_iff.mp h'
      cases q
      obtain ⟨W1, l1, s1, r1⟩ := mapD_ok ih s rs e
      exact ⟨W1, l1, s1, .lst (l1.sub _ _ hq) r1⟩
    | @loc k hk =>
      unfold deepV at h
      cases q : S.objs k with
      | none => rw [q] at h; cases h
      | some b =>
        have A := s.at_ k b q
        cases b with
        | lst vs =>
          rw [q] at h
          obtain ⟨⟨us, S1⟩, e, q2⟩ := Option.map_eq_some_iff.mp h
          cases q2
          obtain ⟨zs, hz, rs⟩ := A
          have l : WLe W (W.add (W.m k) (.lst zs)) := .add (s.out k _ q rfl)
          obtain ⟨W1, l1, s1, r1⟩ := mapD_ok ih (s.frz q hz) (rs.mono l) e
          exact ⟨W1, l.trans l1, s1, .lst (l1.sub _ _ upd_same) r1⟩
        | ins c vs =>
          rw [q] at h
          obtain ⟨⟨us, S1⟩, e, q2⟩ := Option.map_eq_some_iff.mp h
          cases q2
          obtain ⟨C, dx, zs, hc, hl, hz, rs⟩ := A
          have l : WLe W (W.add (W.m k) (.ins C dx ((T.fl c).zip zs))) := .add (s.out k _ q rfl)
          obtain ⟨W1, l1, s1, r1⟩ := mapD_ok ih (s.frz q hz) (rs.mono l) e
          exact ⟨W1, l.trans l1, s1, .ins hc hl (l1.sub _ _ upd_same) r1⟩
        | dk lk ks vs =>
          cases lk with
          | true => rw [q] at h; cases h
          | false =>
            rw [q] at h
            obtain ⟨⟨us, S1⟩, e, q2⟩ := Option.map_eq_some_iff.mp h
            cases q2
            obtain ⟨zs, hl, hz, rs⟩ := A
            rw [if_neg Bool.false_ne_true] at hz
            have l : WLe W (W.add (W.m k) (.dK (ks.zip zs))) := .add (s.out k _ q rfl)
            obtain ⟨W1, l1, s1, r1⟩ := mapD_ok ih (s.frz q hz) (rs.mono l) e
            exact ⟨W1, l.trans l1, s1, .dk hl (l1.sub _ _ upd_same) r1⟩
        | dt lk ks vs =>
          cases lk with
          | true => rw [q] at h; cases h
          | false =>
            rw [q] at h
            obtain ⟨⟨us, S1⟩, e, q2⟩ := Option.map_eq_some_iff.mp h
            cases q2
            obtain ⟨zs, hl, hz, rs⟩ := A
            rw [if_neg Bool.false_ne_true] at hz
            have l : WLe W (W.add (W.m k) (.dT (ks.zip zs))) := .add (s.out k _ q rfl)
            obtain ⟨W1, l1, s1, r1⟩ := mapD_ok ih (s.frz q hz) (rs.mono l) e
            exact ⟨W1, l.trans l1, s1, .dt hl (l1.sub _ _ upd_same) r1⟩
    | non => cases h; exact ⟨W, .refl _, s, .non⟩
    | bl b => cases h; exact ⟨W, .refl _, s, .bl b⟩
    | int b => cases h; exact ⟨W, .refl _, s, .int b⟩
    | str b => cases h; exact ⟨W, .refl _, s, .str b⟩
    | ty b => cases h; exact ⟨W, .refl _, s, .ty b⟩
    | fz a b => cases h; exact ⟨W, .refl _, s, .fz a b⟩
    | kt a b => cases h; exact ⟨W, .refl _, s, .kt a b⟩
    | dk a b c => cases h; exact ⟨W, .refl _, s, .dk a b c⟩
    | dt a b c => cases h; exact ⟨W, .refl _, s, .dt a b c⟩
    | ins a b c d => cases h; exact ⟨W, .refl _, s, .ins a b c d⟩
    | cls a => cases h; exact ⟨W, .refl _, s, .cls a⟩
    | err0 a b c => cases h; exact ⟨W, .refl _, s, .err0 a b c⟩
    | errd a b c d r => cases h; exact ⟨W, .refl _, s, .errd a b c d r⟩
end
theorem m_frzD {T : Tbl} {X : Cx} {Ew : XW} {e : Expr} {f : EM} (n : Nat) (h : PEm T X Ew e f) : PEm T X Ew e (eFrzD n f) := by
  refine PE.to h fun σ H Q ⟨W, ρ, S, s, er, h⟩ => ⟨W, ρ, S, s, er, RP.bind h fun W1 S1 H1 v l1 s1 h1 x vx => ?_⟩
  cases e : deepV n v S1 with
  | none => rw [e] at h1; exact False.elim h1
  | some p =>
    obtain ⟨u, S2⟩ := p
    rw [e] at h1
    obtain ⟨W2, l2, s2, r2⟩ := deepV_ok n s1 vx e
    exact h1 W2 H1 l2 s2 x r2
end PM

/-! PM, part x: zip of two tuples or lists; lifts of what reads a dict -/
namespace PM
open PySem PySem.Spec L2
def zipV (xs ys : List Val) : List Val := (xs.zip ys).map fun p => Val.tup [p.1, p.2]
def iZip (a b : EM) : IM := fun ρ S => (a ρ S).bind fun v S1 => (b ρ S1).bind fun w S2 => match v, w with
  | .tup xs, .tup ys => .ok ⟨zipV xs ys, fun _ => True⟩ S2
  | .lst xs, .lst ys => .ok ⟨zipV xs ys, fun _ => True⟩ S2
  | _, _ => .st
section
variable {K : PySem.W.Frag} {T : Tbl} {W : Wd}
theorem zipV_get {xs ys : List Val} {i : Nat} {v : Val} (h : (zipV xs ys)[i]? = some v) : ∃ a b, xs[i]? = some a ∧ ys[i]? = some b ∧ v = .tup [a, b] := by
  unfold zipV at h
  rw [List.getElem?_map] at h
  obtain ⟨p, e, rfl⟩ := Option.map_eq_some_iff.mp h
  rw [List.getElem?_zip_eq_some] at e
  exact ⟨p.1, p.2, e.1, e.2, rfl⟩
theorem zipV_none {xs ys : List Val} {i : Nat} (h : (zipV xs ys)[i]? = none) : xs.length ≤ i ∨ ys.length ≤ i := by
  unfold zipV at h
  have := List.getElem?_eq_none_iff.mp h
  rw [List.length_map, List.length_zip] at this
  omega
theorem itzT_ok {a b : Addr} {xs ys : List Val} {us vs : List V} (ha : SqT K W.I a us) (hb : SqT K W.I b vs) (ra : VRs K T W xs us) (rb : VRs K T W ys vs) : ItOk K T W ⟨zipV xs ys, fun _ => True⟩ (RZ.ItzT K a b) := by
  intro W' S' H' l s' hs i
  have sa : SqT K H' a us := SqT_mono (fun c o h => s'.sub _ _ (l.sub _ _ h)) ha
  have sb : SqT K H' b vs := SqT_mono (fun c o h => s'.sub _ _ (l.sub _ _ h)) hb
  refine ⟨fun v hv => ?_, fun hv => ⟨us, vs, sa, sb, ?_⟩⟩
  · obtain ⟨p, q, hp, hq, rfl⟩ := zipV_get hv
    obtain ⟨y, ey, vy⟩ := (ra.mono l).get hp
    obtain ⟨z, ez, vz⟩ := (rb.mono l).get hq
    refine ⟨⟨us, vs, y, z, sa, sb, ey, ez⟩, fun x H'' yd => ?_⟩
    obtain ⟨t, y2, z2, rfl, hn, rfl, q1, q2⟩ := yd
    have h1 := q1 us sa
    have h2 := q2 vs sb
    rw [ey] at h1
    rw [ez] at h2
    cases h1
    cases h2
    have l2 : WLe W' (W'.add t (.tup [y, z])) := .add (s'.free hn)
    exact ⟨_, l2, s'.add hn, .tup (.inl upd_same) (.cons (vy.mono l2) (.cons (vz.mono l2) .nil))⟩
  · rw [← ra.length, ← rb.length]; exact zipV_none hv
theorem itz_ok {a b : Addr} {xs ys : List Val} {us vs : List V} (ha : W.I a = some (.lst us)) (hb : W.I b = some (.lst vs)) (ra : VRs K T W xs us) (rb : VRs K T W ys vs) : ItOk K T W ⟨zipV xs ys, fun _ => True⟩ (Itz K a b) := by
  intro W' S' H' l s' hs i
  have sa : SqL K H' a us := .inl (.inl (s'.sub _ _ (l.sub _ _ ha)))
  have sb : SqL K H' b vs := .inl (.inl (s'.sub _ _ (l.sub _ _ hb)))
  refine ⟨fun v hv => ?_, fun hv => ⟨us, vs, sa, sb, ?_⟩⟩
  · obtain ⟨p, q, hp, hq, rfl⟩ := zipV_get hv
    obtain ⟨y, ey, vy⟩ := (ra.mono l).get hp
    obtain ⟨z, ez, vz⟩ := (rb.mono l).get hq
    refine ⟨⟨us, vs, y, z, sa, sb, ey, ez⟩, fun x H'' yd => ?_⟩
    obtain ⟨t, y2, z2, rfl, hn, rfl, q1, q2⟩ := yd
    have h1 := q1 us sa
    have h2 := q2 vs sb
    rw [ey] at h1
    rw [ez] at h2
    cases h1
    cases h2
    have l2 : WLe W' (W'.add t (.tup [y, z])) := .add (s'.free hn)
    exact ⟨_, l2, s'.add hn, .tup (.inl upd_same) (.cons (vy.mono l2) (.cons (vz.mono l2) .nil))⟩
  · rw [← ra.length, ← rb.length]; exact zipV_none hv
end
section
variable {T : Tbl} {X : Cx} {Ew : XW} {e e2 : Expr} {fa fb : EM} {p pos tpos : Pos} {elts : List Expr} {kk : Nat}
theorem i_zip (hg : Gl X "zip") (hm : X.mg "zip" = none) (ha : PEm T X Ew e fa) (hb : PEm T X Ew e2 fb) (hs : starEach [e, e2] X.env = (false, eval e X.env) :: starEach [e2] X.env := by rfl)
    (hs2 : starEach [e2] X.env = (false, eval e2 X.env) :: starEach [] X.env := by rfl) (hpl : (backTo pos (starEach [e2] X.env)).any (·.1) = false := by rfl) :
    PIm T X Ew (.Tuple elts kk tpos) (.Call (.Name "zip" p) [e, e2] [] pos) (iZip fa fb) := by
  refine PI.to (RZ.pi_zipA (ta := rdA X.K T Ew (aCons fa (aCons fb aNil))) hg hm (ma_cons ha (ma_cons hb ma_nil hs2) hs) hs hpl) fun σ H R ⟨W, ρ, S, s, er, h⟩ => ⟨W, ρ, S, s, er, ?_⟩
  have h' : RP X.K T W ((aCons fa (aCons fb aNil) ρ S).bind fun vs S2 => match vs with
      | [.tup xs, .tup ys] => Res.ok (⟨zipV xs ys, fun _ => True⟩ : ItV) S2
      | [.lst xs, .lst ys] => .ok ⟨zipV xs ys, fun _ => True⟩ S2
      | _ => .st) (fun W' _ H' iv => ∀ J, ItOk X.K T W' iv J → R J H') (fun H' c o => Ew c o σ H') := by
    unfold iZip at h
    unfold aCons
    cases q1 : fa ρ S with
    | st => rw [q1] at h; exact h
    | ex c vs S1 => rw [q1] at h; exact h
    | ok v S1 =>
      rw [q1] at h
      have h2 : RP X.K T W ((fb ρ S1).bind fun w S2 => match v, w with
        | .tup xs, .tup ys => Res.ok (⟨zipV xs ys, fun _ => True⟩ : ItV) S2
        | .lst xs, .lst ys => .ok ⟨zipV xs ys, fun _ => True⟩ S2
        | _, _ => .st) (fun W' _ H' iv => ∀ J, ItOk X.K T W' iv J → R J H') (fun H' c o => Ew c o σ H') := h
      show RP X.K T W (((((fb ρ S1).bind fun v S1 => (aNil ρ S1).bind fun vs S2 => Res.ok (v :: vs) S2)).bind fun vs S2 => Res.ok (v :: vs) S2).bind _) _ _
      cases q2 : fb ρ S1 with
      | st => rw [q2] at h2; exact h2
      | ex c vs S1 => rw [q2] at h2; exact h2
      | ok w S2 =>
        rw [q2] at h2
        have h3 : RP X.K T W (match v, w with
          | .tup xs, .tup ys => Res.ok (⟨zipV xs ys, fun _ => True⟩ : ItV) S2
          | .lst xs, .lst ys => .ok ⟨zipV xs ys, fun _ => True⟩ S2
          | _, _ => .st) (fun W' _ H' iv => ∀ J, ItOk X.K T W' iv J → R J H') (fun H' c o => Ew c o σ H') := h2
        show RP X.K T W (match [v, w] with
          | [.tup xs, .tup ys] => Res.ok (⟨zipV xs ys, fun _ => True⟩ : ItV) S2
          | [.lst xs, .lst ys] => .ok ⟨zipV xs ys, fun _ => True⟩ S2
          | _ => .st) _ _
        cases v <;> first | exact h3 | (cases w <;> exact h3)
  refine RP.bind h' fun W1 S1 H1 vs l1 s1 h1 xs vx => ?_
  cases vx with
  | nil => exact False.elim h1
  | @cons v vs x xs r1 rr =>
    cases rr with
    | nil => cases v <;> exact False.elim h1
    | @cons w vs y ys r2 rr =>
      cases rr with
      | cons _ _ => cases v <;> first | exact False.elim h1 | (cases w <;> exact False.elim h1)
      | nil =>
        cases r1 with
        | @tup a p ps hq rs =>
          cases r2 with
          | @tup b q qs hq2 rs2 => exact ⟨a, b, ps, qs, rfl, .inr ⟨TQ_sq s1.sub hq, TQ_sq s1.sub hq2, RP.now h1 s1 _ (itzT_ok hq.sq hq2.sq rs rs2)⟩⟩
          | _ => exact False.elim h1
        | @lst a p ps hq rs =>
          cases r2 with
          | @lst b q qs hq2 rs2 => exact ⟨a, b, ps, qs, rfl, .inl ⟨.inl (.inl (s1.sub _ _ hq)), .inl (.inl (s1.sub _ _ hq2)), RP.now h1 s1 _ (itz_ok hq hq2 rs rs2)⟩⟩
          | _ => exact False.elim h1
        | _ => first | exact False.elim h1 | (cases w <;> exact False.elim h1)
end
/-! ### without a store -/
def iZipP (a b : EM) : IP := fun ρ S => (a ρ S).bind fun v S1 => (b ρ S1).bind fun w S2 => match v, w with
  | .tup xs, .tup ys => .ok (zipV xs ys) S2
  | .lst xs, .lst ys => .ok (zipV xs ys) S2
  | _, _ => .st
section
variable {κ : List Kd} {a b : EM} {pa pb : EM}
theorem li_zip (ha : LE RV κ a pa) (hb : LE RV κ b pb) : LI κ (iZip a b) (iZipP pa pb) := fun c Z S ρ ρ' er st =>
  (ha c Z S ρ ρ' S.next er st (Nat.le_refl _)).bind fun v v' S1 Z1 x1 s1 q1 => (hb c Z1 S1 ρ ρ' S.next (er.mono st x1) s1 x1.le).bind fun w w' S2 Z2 x2 s2 q2 => by
    obtain rfl : v = v' := q1
    obtain rfl : w = w' := q2
    cases v <;> first | trivial | (cases w <;> first | trivial | exact .ok s2 ⟨rfl, .inl fun _ => trivial⟩)
end
/-! what reads a dict gives the same for a store's dict as for its value -/
theorem dc_q {c : Cs} {S : Sto} {v v' : Val} {d : DC} (h : VQ c S v v') (e : dcOf Z0 v' = some d) : dcOf S v = some d := by
  rcases h with rfl | ⟨k, rfl, _, o, h1, h2⟩
  · cases v <;> first | exact e | (simp [dcOf, Z0, S0] at e)
  · cases o with
    | lst xs => cases h2; simp [dcOf] at e
    | dk lk ks vs => cases lk <;> cases h2; simpa [dcOf, h1] using e
    | dt lk ks vs => cases lk <;> cases h2; simpa [dcOf, h1] using e
    | ins c vs => cases h2; simp [dcOf] at e
theorem DC.get_s {d : DC} {y : Val} {r : Option Val} (h : d.get y = some r) : isO y = false := by
  cases d with
  | k ks vs => cases y <;> first | rfl | (simp [DC.get, keyOf] at h)
  | t ks vs => cases y <;> first | rfl | (simp [DC.get] at h)
theorem rs_dget : Rs2 vDGet := fun c S v v' w w' u Z1 h1 h2 e => by
  unfold vDGet at e ⊢
  cases q : dcOf Z0 v' with
  | none => rw [q] at e; cases e
  | some d =>
    rw [q] at e
    rw [dc_q h1 q]
    dsimp only at e ⊢
    cases q2 : d.get w' with
    | none => rw [q2] at e; cases e
    | some r =>
      obtain rfl := vq_s h2 (DC.get_s q2)
      rw [q2] at e ⊢
      cases r with
      | none => cases e
      | some x => cases e; rfl
theorem rs_din (ng : Bool) : Rs2 (vDIn ng) := fun c S v v' w w' u Z1 h1 h2 e => by
  unfold vDIn at e ⊢
  cases q : dcOf Z0 w' with
  | none => rw [q] at e; cases e
  | some d =>
    rw [q] at e
    rw [dc_q h2 q]
    dsimp only at e ⊢
    cases q2 : d.get v' with
    | none => rw [q2] at e; cases e
    | some r =>
      obtain rfl := vq_s h1 (DC.get_s q2)
      rw [q2] at e ⊢
      cases e; rfl
theorem nx_dget : ∀ v w S, NX (vDGet v w S) := by (intro v w S; unfold vDGet; repeat' (first | trivial | split))
theorem nx_din (ng : Bool) : ∀ v w S, NX (vDIn ng v w S) := by (intro v w S; unfold vDIn; repeat' (first | trivial | split))
/-- d.get(y), d.get(y, x) without a store: d, the others same values -/
def eDGetP (d : EM) (ys : AM) : EM := fun ρ S => (d ρ S).bind fun v S1 => if isDct v Z0 then (ys ρ S1).bind fun vs S2 => (vDGetM v vs Z0).onto S2 else .st
theorem le_dget {κ : List Kd} {d pd : EM} {ys pys : AM} (hd : LE RQ κ d pd) (hy : LE RV κ ys pys) : LE RV κ (eBM isDct vDGetM d ys) (eDGetP pd pys) := fun c Z S ρ ρ' n er st hn =>
  (hd c Z S ρ ρ' n er st hn).bind fun v v' S1 Z1 x1 s1 q1 => by
    cases e : isDct v' Z0 with
    | false => trivial
    | true =>
      obtain ⟨dc, hdc⟩ := Option.isSome_iff_exists.mp e
      have e2 : isDct v S1 = true := by unfold isDct; rw [dc_q q1 hdc]; rfl
      rw [e2, if_pos rfl, if_pos rfl]
      exact (hy c Z1 S1 ρ ρ' n (er.mono st x1) s1 (Nat.le_trans hn x1.le)).bind fun w w' S2 Z2 x2 s2 q2 => by
        obtain rfl : w = w' := q2
        refine sim_op s2 (by unfold vDGetM; repeat' (first | trivial | split)) fun u Z3 e3 => ?_
        have q1' := q1.mono s1 x2
        unfold vDGetM at e3 ⊢
        rw [hdc] at e3
        rw [dc_q q1' hdc]
        match w, e3 with
        | [], e3 => cases e3
        | [y], e3 =>
          dsimp only at e3 ⊢
          cases q3 : dc.get y with
          | none => rw [q3] at e3; cases e3
          | some r => rw [q3] at e3; cases e3; rfl
        | [y, x], e3 =>
          dsimp only at e3 ⊢
          cases q3 : dc.get y with
          | none => rw [q3] at e3; cases e3
          | some r => rw [q3] at e3; cases e3; rfl
        | _ :: _ :: _ :: _, e3 => cases e3
end PM

/-! PM, part y: tuple < tuple; the executor for dicts and zip -/
namespace PM
open PySem PySem.Spec L2
def vLtT (v w : Val) (S : Sto) : Res Val := match v, w with
  | .tup xs, .tup ys => (match intsOf xs, intsOf ys with
    | some ns, some ms => .ok (.bl (HT.lexLt ns ms)) S
    | _, _ => .st)
  | _, _ => .st
theorem o_ltT {K : PySem.W.Frag} {T : Tbl} : Op2 K T (rLtT K) vLtT := by
  intro W S H v w x y Q PX s vx vy q
  unfold vLtT at q
  cases vx with
  | @tup a vs xs hq rs =>
    cases vy with
    | @tup b us ys hq2 rs2 =>
      dsimp only at q
      cases e1 : intsOf vs with
      | none => rw [e1] at q; exact False.elim q
      | some ns =>
        cases e2 : intsOf us with
        | none => rw [e1, e2] at q; exact False.elim q
        | some ms =>
          rw [e1, e2] at q
          have h1 := intsOf_eq e1
          have h2 := intsOf_eq e2
          subst h1 h2
          exact ⟨a, b, ns, ms, rfl, rfl, by rw [← VRs.ints rs]; exact TQ_sq s.sub hq, by rw [← VRs.ints rs2]; exact TQ_sq s.sub hq2, q.now s _ (.bl _)⟩
    | _ => exact False.elim q
  | _ => first | exact False.elim q | (cases w <;> exact False.elim q)
theorem rs_ltT : Rs2 vLtT := fun c S v v' w w' u Z1 h1 h2 e => by
  unfold vLtT at e
  split at e
  · obtain rfl := vq_s h1 rfl
    obtain rfl := vq_s h2 rfl
    unfold vLtT
    dsimp only at e ⊢
    split at e
    · cases e; rfl
    · cases e
  · cases e
theorem nx_ltT : ∀ v w S, NX (vLtT v w S) := by (intro v w S; unfold vLtT; repeat' (first | trivial | split))
theorem le_dnew {κ : List Kd} : ∀ tk : Bool, LE RF κ (eDNew tk) (eC (if tk then .dt [] [] else .dk [] []))
  | false => fun c Z S ρ ρ' n er st hn => new_ok (o := .dk false [] []) st hn rfl
  | true => fun c Z S ρ ρ' n er st hn => new_ok (o := .dt false [] []) st hn rfl
/-! ### the executor -/
section
variable {ρ : Ev} {S Z : Sto} {X : XP} {D : En}
@[simp ↓] theorem e_dnewT {P : Val → Sto → Prop} {kk : Kp (P, X)} : Rn (eDNew true ρ S) P X kk = P (.loc S.next) (S.alloc (.dt false [] [])) := nr
@[simp ↓] theorem e_dnewF {P : Val → Sto → Prop} {kk : Kp (P, X)} : Rn (eDNew false ρ S) P X kk = P (.loc S.next) (S.alloc (.dk false [] [])) := nr
@[simp ↓] theorem e_frzD {n : Nat} {f : EM} {P : Val → Sto → Prop} {kk : Kp (P, X)} : Rn (eFrzD n f ρ S) P X kk = Rn ((f ρ S).bind fun v S1 => match deepV n v S1 with
  | some (u, S2) => .ok u S2
  | none => .st) P X := nr
@[simp ↓] theorem s_setK {o i e : EM} {kk : Kp D} : Sn (sSetK o i e ρ S) D kk = Sn ((e ρ S).toS ρ fun u S1 => (o ρ S1).toS ρ fun v S2 => (i ρ S2).toS ρ fun j S3 => match setKey v j u S3 with
  | some S4 => .nx ρ S4
  | none => .st) D := nr
@[simp ↓] theorem e_izip {a b : EM} {P : ItV → Sto → Prop} {kk : Kp (P, X)} : Rn (iZip a b ρ S) P X kk = Rn ((a ρ S).bind fun v S1 => (b ρ S1).bind fun w S2 => match v, w with
  | .tup xs, .tup ys => .ok ⟨zipV xs ys, fun _ => True⟩ S2
  | .lst xs, .lst ys => .ok ⟨zipV xs ys, fun _ => True⟩ S2
  | _, _ => .st) P X := nr
@[simp ↓] theorem e_izipP {a b : EM} {P : List Val → Sto → Prop} {kk : Kp (P, X)} : Rn (iZipP a b ρ S) P X kk = Rn ((a ρ S).bind fun v S1 => (b ρ S1).bind fun w S2 => match v, w with
  | .tup xs, .tup ys => .ok (zipV xs ys) S2
  | .lst xs, .lst ys => .ok (zipV xs ys) S2
  | _, _ => .st) P X := nr
@[simp ↓] theorem e_dgetP {d : EM} {ys : AM} {P : Val → Sto → Prop} {kk : Kp (P, X)} : Rn (eDGetP d ys ρ S) P X kk = Rn ((d ρ S).bind fun v S1 => if isDct v Z0 then (ys ρ S1).bind fun vs S2 => (vDGetM v vs Z0).onto S2 else .st) P X := nr
@[simp] theorem isDct_dk {ks : List Key} {vs : List Val} : isDct (.dk ks vs) S = true := nr
@[simp] theorem isDct_dt {ks : List (List Key)} {vs : List Val} : isDct (.dt ks vs) S = true := nr
theorem isDct_dk' {n : Nat} {lk : Bool} {ks : List Key} {vs : List Val} (h : S.objs n = some (.dk lk ks vs)) : isDct (.loc n) S = true := by simp [isDct, dcOf, h]
theorem isDct_dt' {n : Nat} {lk : Bool} {ks : List (List Key)} {vs : List Val} (h : S.objs n = some (.dt lk ks vs)) : isDct (.loc n) S = true := by simp [isDct, dcOf, h]
end
/-- a cut between two statements -/
theorem sn_cut {s t : SM} {ρ : Ev} {S : Sto} {N : Ev → Sto → Prop} {R : Val → Sto → Prop} {B C : Ev → Sto → Prop} {E : Nat → List Val → Ev → Sto → Prop} (I : Ev → Sto → Prop) (h : Sn (s ρ S) ⟨I, R, B, C, E⟩) (k : ∀ ρ' S', I ρ' S' → Sn (t ρ' S') ⟨N, R, B, C, E⟩) : Sn (sSeq s t ρ S) ⟨N, R, B, C, E⟩ := by
  unfold sSeq
  cases e : s ρ S with
  | nx ρ' S' => rw [e] at h; exact k _ _ h
  | rt v S' => rw [e] at h; exact h
  | bk ρ' S' => rw [e] at h; exact h
  | ct ρ' S' => rw [e] at h; exact h
  | ex c vs ρ' S' => rw [e] at h; exact h
  | st => rw [e] at h; exact h
end PM

/-! PM, part z: a name's object given up between two statements -/
namespace PM
open PySem PySem.Spec L2
def sGive (i : Nat) : SM := fun ρ S => match lk ρ i with
  | some v => (match giveUp v S with
    | .ok u S1 => .nx (ρ.set i (some u)) S1
    | _ => .st)
  | none => .st
theorem ER.reset {K : PySem.W.Frag} {T : Tbl} {W : Wd} {ρ : Ev} {σ : L2.St} {i : Nat} {u : Val} {x : V} (e : ER K T W ρ σ) (hx : σ[i]? = some (some x)) (r : VR K T W u x) : ER K T W (ρ.set i (some u)) σ := by
  refine ⟨by rw [List.length_set]; exact e.len, fun j w h => ?_⟩
  by_cases hj : i = j
  · subst hj
    have : σ[i]? = some (some x) := hx
    by_cases hl : i < ρ.length
    · rw [List.getElem?_set_self hl] at h
      cases h
      exact ⟨x, hx, r⟩
    · rw [List.getElem?_eq_none (by simpa using hl)] at h; cases h
  · rw [List.getElem?_set_ne hj] at h
    exact e.get j w h
theorem giveUp_ok {K : PySem.W.Frag} {T : Tbl} {W : Wd} {S S1 : Sto} {H : Hp} {v u : Val} {x : V} (s : SR K T W S H) (r : VR K T W v x) (h : giveUp v S = .ok u S1) : ∃ W1, WLe W W1 ∧ SR K T W1 S1 H ∧ VR K T W1 u x := by
  cases r with
  | @loc k hk =>
    unfold giveUp at h
    cases q : S.objs k with
    | none => simp only [q] at h; cases h
    | some b =>
      have A := s.at_ k b q
      cases b with
      | lst xs =>
        simp only [q] at h; cases h
        obtain ⟨zs, hz, r⟩ := A
        have l : WLe W (W.add (W.m k) (.lst zs)) := .add (s.out k _ q rfl)
        exact ⟨_, l, s.frz q hz, .lst upd_same (r.mono l)⟩
      | ins c vs =>
        simp only [q] at h; cases h
        obtain ⟨C, dx, zs, hc, hl, hz, r⟩ := A
        have l : WLe W (W.add (W.m k) (.ins C dx ((T.fl c).zip zs))) := .add (s.out k _ q rfl)
        exact ⟨_, l, s.frz q hz, .ins hc hl upd_same (r.mono l)⟩
      | dk lk ks vs =>
        cases lk with
        | true => simp only [q] at h; cases h
        | false =>
          simp only [q] at h; cases h
          obtain ⟨zs, hl, hz, r⟩ := A
          rw [if_neg Bool.false_ne_true] at hz
          have l : WLe W (W.add (W.m k) (.dK (ks.zip zs))) := .add (s.out k _ q rfl)
          exact ⟨_, l, s.frz q hz, .dk hl upd_same (r.mono l)⟩
      | dt lk ks vs =>
        cases lk with
        | true => simp only [q] at h; cases h
        | false =>
          simp only [q] at h; cases h
          obtain ⟨zs, hl, hz, r⟩ := A
          rw [if_neg Bool.false_ne_true] at hz
          have l : WLe W (W.add (W.m k) (.dT (ks.zip zs))) := .add (s.out k _ q rfl)
          exact ⟨_, l, s.frz q hz, .dt hl upd_same (r.mono l)⟩
  | _ => cases h; exact ⟨W, .refl _, s, by constructor <;> assumption⟩
theorem mb_give {T : Tbl} {X : Cx} {Ew : XW} {ss : List Stmt} {u : SM} (i : Nat) (h : PBm T X Ew ss u) : PBm T X Ew ss (sSeq (sGive i) u) := by
  refine PSs.to h fun D σ H ⟨W, ρ, S, s, er, q⟩ => ?_
  unfold sSeq sGive at q
  cases e : lk ρ i with
  | none => rw [e] at q; exact False.elim q
  | some v =>
    rw [e] at q
    dsimp only at q
    cases e2 : giveUp v S with
    | st => rw [e2] at q; exact False.elim q
    | ex c vs S1 => rw [e2] at q; exact False.elim q
    | ok w S1 =>
      rw [e2] at q
      obtain ⟨x, hx, r⟩ := er.get i v (lk_some.mp e)
      obtain ⟨W1, l1, s1, r1⟩ := giveUp_ok s r e2
      exact ⟨W1, _, S1, s1, (er.mono l1).reset hx r1, SPo.wle l1 q⟩
/-- what is behind it returns -/
def sTail (i : Nat) (t : SM) : SM := fun ρ S => match lk ρ i with
  | none => .st
  | some _ => match t ρ S with
    | .rt v S1 => .rt v S1
    | _ => .st
@[simp ↓] theorem s_tail {i : Nat} {t : SM} {ρ : Ev} {S : Sto} {D : En} {kk : Kp D} : Sn (sTail i t ρ S) D kk = ((lk ρ i).isSome = true ∧ Sn (t ρ S) ⟨fun _ _ => False, D.rt, fun _ _ => False, fun _ _ => False, fun _ _ _ _ => False⟩) := by
  unfold sTail
  cases lk ρ i with
  | none => simp [Sn]
  | some v => cases t ρ S <;> simp [Sn]
theorem ls_give {κ : List Kd} {t t' : SM} (i : Nat) (hi : κ[i]? = some .o) (h : LS (κ.set i .s) .v t t') : LS κ .v (sSeq (sGive i) t) (sTail i t') := fun c Z S ρ ρ' er st => by
  have hil := get_lt hi
  unfold sTail
  cases e : lk ρ' i with
  | none => trivial
  | some w =>
    rcases er.rel i _ hi with ⟨hb, _⟩ | ⟨k, u, e1, e2, hv⟩
    · rw [hb] at e; cases e
    · rw [e] at e2; cases e2
      have hg := giveUp_vl hv
      have isk : us (lk ρ i) (lk ρ' i) k := ⟨e1, _, e, by obtain ⟨_, o, _, q⟩ := hv; exact isO_of q⟩
      have no : ∀ j, j ≠ i → ¬ us (lk ρ j) (lk ρ' j) k := fun j hne => er.na i j .o k (Ne.symm hne) hi rfl isk
      have get : ∀ j, j ≠ i → (κ.set i .s)[j]? = κ[j]? := fun j hj => List.getElem?_set_ne (Ne.symm hj)
      have er2 : EvR (κ.set i .s) c (S.drop k) (ρ.set i (some w)) ρ' := by
        refine ⟨by rw [List.length_set, List.length_set]; exact er.len, by rw [List.length_set]; exact er.len', fun l kd el => ?_, fun a b kd k2 hne ea ho u1 u2 => ?_⟩
        · by_cases hl : i = l
          · subst hl
            rw [List.getElem?_set_self hil] at el
            cases el
            rw [lk_same (by rw [er.len]; exact hil), e]; rfl
          · rw [get l (Ne.symm hl)] at el
            have q := er.rel l kd el
            rw [lk_ne hl]
            have keep : ∀ {k2 : Nat} {z : Val}, k2 ≠ k → VL c S k2 z → VL c (S.drop k) k2 z := fun hk ⟨f, o, a, b⟩ => ⟨f, o, by rw [drop_ne hk]; exact a, b⟩
            have nk : ∀ {k2 : Nat} {z : Val}, lk ρ l = some (.loc k2) → lk ρ' l = some z → VL c S k2 z → k2 ≠ k := fun a b hq z => by
              subst z
              exact no l (Ne.symm hl) ⟨a, _, b, by obtain ⟨_, o, _, q⟩ := hq; exact isO_of q⟩
            cases kd with
            | s => exact q
            | c => exact q
            | f => rcases q with q | ⟨k2, z, a, b, q⟩
                   · exact .inl q
                   · exact .inr ⟨k2, z, a, b, keep (nk a b q) q⟩
            | o => rcases q with q | ⟨k2, z, a, b, q⟩
                   · exact .inl q
                   · exact .inr ⟨k2, z, a, b, keep (nk a b q) q⟩
            | p => rcases q with q | ⟨k2, z, a, b, q⟩
                   · exact .inl q
                   · exact .inr ⟨k2, z, a, b, keep (nk a b q) q⟩
        · by_cases ha : i = a
          · subst ha
            rw [List.getElem?_set_self hil] at ea
            cases ea; cases ho
          · rw [get a (Ne.symm ha)] at ea
            rw [lk_ne ha] at u1
            by_cases hb : i = b
            · subst hb
              rw [lk_same (by rw [er.len]; exact hil)] at u2
              obtain ⟨z, z2, z3, z4⟩ := u2
              obtain ⟨_, o, _, q⟩ := hv
              have := isO_of q
              cases z
              cases this
            · rw [lk_ne hb] at u2
              exact er.na a b kd k2 hne ea ho u1 u2
      have T := h c Z (S.drop k) (ρ.set i (some w)) ρ' er2 (st.drop hv.1)
      have hF : sSeq (sGive i) t ρ S = t (ρ.set i (some w)) (S.drop k) := by
        unfold sSeq sGive
        rw [e1]
        dsimp only
        rw [hg]
      rw [hF]
      cases q : t' ρ' Z with
      | rt v Z1 =>
        rw [q] at T
        obtain ⟨v1, S1, c1, r1, sf, cx, s1, rr⟩ := T
        refine ⟨v1, S1, c1, r1, ⟨sf.le, fun j hj f o => ?_⟩, cx, s1, rr⟩
        have hjk : j ≠ k := fun z => by subst z; exact o ⟨i, .o, hi, rfl, isk⟩
        rw [sf.eq j hj f fun ⟨l, kd, el, ho, ul⟩ => ?_, drop_ne hjk]
        by_cases hl : i = l
        · subst hl
          rw [List.getElem?_set_self hil] at el
          cases el; cases ho
        · rw [get l (Ne.symm hl)] at el
          rw [lk_ne hl] at ul
          exact o ⟨l, kd, el, ho, ul⟩
      | _ => trivial
end PM

/-! PM: a key in a dict, as a test -/
namespace PM
open PySem PySem.Spec L2
section
variable {T : Tbl} {X : Cx} {Ew : XW} {o i : Expr} {fo fi : EM} {pos : Pos}
theorem Bd.hu0 {X : Cx} {Ew : XW} {k : Nat} (h : Bd X Ew k) : X.A.units < cLine := Nat.lt_of_le_of_lt (Nat.le_add_right _ _) h.room.units
theorem mt_din (hk : T.kc = []) (hu : X.A.units + 1 < cLine) (hi : PEm T X Ew i fi) (ho : PEm T X Ew o fo) (hm : behindInMarks .In o = false := by first | exact nobehind _ (by decide) (by decide) | rfl) : PTm T X Ew (.Compare i [.In] [o] pos) (tB (eBin (vDIn false) fi fo)) := by
  refine PT.to (pt_cmp (pq_in hu hi ho) hm) fun σ H Q ⟨W, ρ, S, s, er, h⟩ => ⟨W, ρ, S, s, er, RP.bind (RP.bind h fun _ _ _ _ _ _ h2 => h2) fun W1 S1 H1 v l1 s1 h1 a va => ?_⟩
  refine ⟨W1, ρ, S1, s1, er.mono l1, RP.bind h1 fun W2 S2 H2 w l2 s2 h2 b vb => ?_⟩
  unfold vDIn at h2
  cases e1 : dcOf S2 w with
  | none => rw [e1] at h2; exact False.elim h2
  | some c =>
    rw [e1] at h2
    dsimp only at h2
    obtain ⟨ad, rfl, D⟩ := dcOf_ok s2 vb e1
    cases e2 : c.get v with
    | none => rw [e2] at h2; exact False.elim h2
    | some r =>
      rw [e2] at h2
      obtain ⟨ov, g, hov⟩ := D.get hk s2 (va.mono l2) e2
      refine ⟨ad, ov, rfl, g, _, rfl, ?_⟩
      cases hov with
      | n => exact (h2.now s2).now s2
      | s r => exact (h2.now s2).now s2
theorem mt_dnotin (hk : T.kc = []) (hu : X.A.units + 1 < cLine) (hi : PEm T X Ew i fi) (ho : PEm T X Ew o fo) (hm : behindInMarks .NotIn o = false := by first | exact nobehind _ (by decide) (by decide) | rfl) : PTm T X Ew (.Compare i [.NotIn] [o] pos) (tB (eBin (vDIn true) fi fo)) := by
  refine PT.to (pt_cmp (pq_notIn hu hi ho) hm) fun σ H Q ⟨W, ρ, S, s, er, h⟩ => ⟨W, ρ, S, s, er, RP.bind (RP.bind h fun _ _ _ _ _ _ h2 => h2) fun W1 S1 H1 v l1 s1 h1 a va => ?_⟩
  refine ⟨W1, ρ, S1, s1, er.mono l1, RP.bind h1 fun W2 S2 H2 w l2 s2 h2 b vb => ?_⟩
  unfold vDIn at h2
  cases e1 : dcOf S2 w with
  | none => rw [e1] at h2; exact False.elim h2
  | some c =>
    rw [e1] at h2
    dsimp only at h2
    obtain ⟨ad, rfl, D⟩ := dcOf_ok s2 vb e1
    cases e2 : c.get v with
    | none => rw [e2] at h2; exact False.elim h2
    | some r =>
      rw [e2] at h2
      obtain ⟨ov, g, hov⟩ := D.get hk s2 (va.mono l2) e2
      refine ⟨ad, ov, rfl, g, _, rfl, ?_⟩
      cases hov with
      | n => exact (h2.now s2).now s2
      | s r => exact (h2.now s2).now s2
end
end PM

/-! PN, part b: append on a new list that nobody holds -/
namespace PM
open PySem PySem.Spec L2
def eAppN (o : EM) (a : AM) : EM := fun ρ S => (o ρ S).bind fun v S1 => match v with
  | .lst xs => (a ρ S1).bind fun vs S2 => match vs with
    | [_] => if xs.length < sizeLine then .ok .non S2 else .st
    | _ => .st
  | _ => .st
theorem le_appN {κ : List Kd} {o po : EM} {a pa : AM} (ho : LE RF κ o po) (ha : LE RV κ a pa) : LE RV κ (eBM isLst vAppend o a) (eAppN po pa) := fun c Z S ρ ρ' n r s hn => by
  have h1 := ho c Z S ρ ρ' S.next r s (Nat.le_refl _)
  unfold eBM eAppN
  cases e1 : po ρ' Z with
  | st => trivial
  | ex i vs Z1 =>
    rw [e1] at h1
    obtain ⟨S1, e, x, s1⟩ := h1
    rw [e]; exact ⟨S1, rfl, x, s1⟩
  | ok v' Z1 =>
    rw [e1] at h1
    obtain ⟨v, S1, e, x, s1, k, rfl, hk, hv⟩ := h1
    rw [e]
    have hf := hv.1
    have hlt := hv.lt s1
    obtain ⟨_, ob, hob, hobv⟩ := hv
    cases v' with
    | lst xs =>
      have hl : ob = .lst xs := by
        cases ob with
        | lst ys => cases hobv; rfl
        | dk l ks vs => cases l <;> cases hobv
        | dt l ks vs => cases l <;> cases hobv
        | ins c' vs => cases hobv
      subst hl
      show Sim c S n RV (if isLst (.loc k) S1 then _ else _) _
      rw [isLst_loc hob, if_pos rfl]
      have h2 := ha c Z1 S1 ρ ρ' S1.next (r.mono s x) s1 (Nat.le_refl _)
      show Sim c S n RV ((a ρ S1).bind _) ((pa ρ' Z1).bind _)
      cases e2 : pa ρ' Z1 with
      | st => trivial
      | ex i vs Z2 =>
        rw [e2] at h2
        obtain ⟨S2, e3, x2, s2⟩ := h2
        rw [e3]; exact ⟨S2, rfl, x.trans x2, s2⟩
      | ok vs Z2 =>
        rw [e2] at h2
        obtain ⟨vs', S2, e3, x2, s2, rfl⟩ := h2
        rw [e3]
        have hob2 : S2.objs k = some (.lst xs) := (x2.eq k hlt hf).trans hob
        have hlt2 : k < S2.next := Nat.lt_of_lt_of_le hlt x2.le
        have hx := x.trans x2
        rcases vs' with _ | ⟨u, _ | ⟨u2, r2⟩⟩
        · trivial
        · show Sim c S n RV (vAppend (.loc k) [u] S2) (if xs.length < sizeLine then .ok .non Z2 else .st)
          unfold vAppend
          simp only [hob2]
          by_cases hc : xs.length < sizeLine
          · rw [if_pos hc, if_pos hc]
            refine ⟨.non, _, rfl, ⟨hx.le, fun j hj hfj => ?_⟩, s2.putN hf hlt2, rfl⟩
            rw [put_ne (by omega)]
            exact hx.eq j hj hfj
          · rw [if_neg hc, if_neg hc]; trivial
        · trivial
    | _ => trivial
@[simp ↓] theorem e_appN {o : EM} {a : AM} {ρ : Ev} {S : Sto} {P : Val → Sto → Prop} {X : XP} {kk : Kp (P, X)} : Rn (eAppN o a ρ S) P X kk = Rn ((o ρ S).bind fun v S1 => match v with
  | .lst xs => (a ρ S1).bind fun vs S2 => match vs with
    | [_] => if xs.length < sizeLine then .ok .non S2 else .st
    | _ => .st
  | _ => .st) P X := nr
end PM

/-! PN, part c: isinstance of a class of the program; divmod -/
namespace PM
open PySem PySem.Spec L2
structure IC (K : PySem.W.Frag) (T : Tbl) (c : Nat) (C : Addr) : Prop where
  co : CO K T c C
  ha : PySem.W.findIn K (.ref C) "__class__" = some (some (.builtin "object.__class__"))
  hn : PySem.W.specialIn K (.builtin "object.__class__") "__get__" = some (some (.builtin "getset_descriptor.__get__"))
  ht : PySem.W.takesIn K (.builtin "object.__class__") = some true
  hm : PySem.W.mroIn K C (.type "object") = some true
  hk : PySem.W.kitOne K (.ref C) (.ref C) = some true
def vIsiC (c : Nat) (vs : List Val) (S : Sto) : Res Val := match vs with
  | [v, .cls d] => if isInst c S v = true ∧ d = c then .ok (.bl true) S else .st
  | _ => .st
def vDivmod (vs : List Val) (S : Sto) : Res Val := match vs with
  | [.int i, .int j] => if 0 < j ∧ j < 1073741824 then .ok (.tup [.int (i / j), .int (i % j)]) S else .st
  | _ => .st
section
variable {K : PySem.W.Frag} {T : Tbl}
theorem l_isiC {c : Nat} {C : Addr} (I : IC K T c C) : OpL K T (rIsi K) (vIsiC c) := by
  intro W S H vs xs Q PX s r q
  unfold vIsiC at q
  split at q
  · rename_i v d
    cases r with
    | cons r1 r2 =>
      cases r2 with
      | cons r3 r4 =>
        cases r4
        by_cases h : isInst c S v = true ∧ d = c
        · rw [if_pos h] at q
          obtain ⟨h1, rfl⟩ := h
          obtain ⟨a, dx, zs, rfl, hH⟩ := isInst_ok I.co s r1 h1
          cases r3 with
          | cls h3 =>
            rw [I.co.at_] at h3
            cases h3
            exact ⟨_, _, _, _, _, rfl, .own _, .base (.ins hH I.co.cls I.ha I.hn I.ht I.hm), I.hk, q.now s _ (.bl _)⟩
        · rw [if_neg h] at q; exact False.elim q
  · exact False.elim q
theorem l_divmod : OpL K T (fun xs H Q => ∃ i j, xs = [.int i, .int j] ∧ CDiv i j ∧ ∀ p, H p = none → Q (.ref p) (upd H p (.tup [.int (i / j), .int (i % j)]))) vDivmod := by
  intro W S H vs xs Q PX s r q
  unfold vDivmod at q
  split at q
  · rename_i i j
    cases r with
    | cons r1 r2 =>
      cases r2 with
      | cons r3 r4 =>
        cases r4
        cases r1
        cases r3
        by_cases h : 0 < j ∧ j < 1073741824
        · rw [if_pos h] at q
          refine ⟨i, j, rfl, h, fun p hp => ?_⟩
          have l2 : WLe W (W.add p (.tup [.int (i / j), .int (i % j)])) := .add (s.free hp)
          exact q _ _ l2 (s.add hp) _ (.tup (.inl upd_same) (.cons (.int _) (.cons (.int _) .nil)))
        · rw [if_neg h] at q; exact False.elim q
  · exact False.elim q
end
theorem isInst_q {c : Cs} {S : Sto} {v v' : Val} {k : Nat} (h : VQ c S v v') (e : isInst k Z0 v' = true) : isInst k S v = true := by
  unfold isInst at e ⊢
  cases q : insOf Z0 v' with
  | none => rw [q] at e; cases e
  | some w => rw [q] at e; rw [ins_q h q]; exact e
theorem rl_isiC (k : Nat) : RsL (vIsiC k) := rsl2 (by (intro u Z e; cases e; done)) (by (intro v u Z e; cases v <;> cases e)) (by (intro v w z vs u Z e; unfold vIsiC at e; cases w <;> cases e)) fun c S v v' w w' u Z1 h h2 e => by
  cases w' <;> first | (cases e; done) | skip
  rename_i d
  obtain rfl := vq_s h2 rfl
  unfold vIsiC at e ⊢
  dsimp only at e ⊢
  by_cases q : isInst k Z0 v' = true ∧ d = k
  · rw [if_pos q] at e
    rw [if_pos ⟨isInst_q h q.1, q.2⟩]
    cases e; rfl
  · rw [if_neg q] at e; cases e
theorem nx_isiC (k : Nat) : ∀ vs S, NX (vIsiC k vs S) := by
  intro vs S
  unfold vIsiC
  split
  · split <;> trivial
  · trivial
theorem rl_divmod : RsL vDivmod := rsl2 (by (intro u Z e; cases e; done)) (by (intro v u Z e; cases v <;> cases e)) (by (intro v w z vs u Z e; cases v <;> first | (cases e; done) | (cases w <;> cases e))) fun c S v v' w w' u Z1 h h2 e => by
  cases v' <;> first | (cases e; done) | skip
  cases w' <;> first | (cases e; done) | skip
  obtain rfl := vq_s h rfl
  obtain rfl := vq_s h2 rfl
  unfold vDivmod at e ⊢
  dsimp only at e ⊢
  split at e
  · rename_i q; rw [if_pos q]; cases e; rfl
  · cases e
theorem nx_divmod : ∀ vs S, NX (vDivmod vs S) := by
  intro vs S
  unfold vDivmod
  split
  · split <;> trivial
  · trivial
@[simp ↓] theorem v_divmod {i j : Int} {S : Sto} : vDivmod [.int i, .int j] S = if 0 < j ∧ j < 1073741824 then .ok (.tup [.int (i / j), .int (i % j)]) S else .st := nr
@[simp ↓] theorem v_isiC {c d : Nat} {v : Val} {S : Sto} : vIsiC c [v, .cls d] S = if isInst c S v = true ∧ d = c then .ok (.bl true) S else .st := nr
end PM

/-! PN, part d: comprehensions with two for -/
namespace PM
open PySem PySem.Spec L2
noncomputable def lcGo2 (src : Sto → Prop) (tg : Tgt) (tst : BM) (it1 : IM) (tg1 : Tgt) (tst1 : BM) (elt : EM) (ws1 : List Nat) (n0 : Nat) (ρ0 : Ev) : List Val → Sto → Res Unit
  | [], S => open Classical in if src S then .ok () S else .st
  | v :: vs, S => open Classical in if src S then (match tg.set v ρ0 with
      | some ρ1 => (noEx (tst ρ1 S)).bind fun k S1 => if k then (noEx (it1 ρ1 S1)).bind fun iv S2 => (lcGo iv.src tg1 tst1 elt n0 (wipeE ρ1 ws1) iv.items S2).bind fun _ S3 => lcGo2 src tg tst it1 tg1 tst1 elt ws1 n0 ρ0 vs S3
          else lcGo2 src tg tst it1 tg1 tst1 elt ws1 n0 ρ0 vs S1
      | none => .st) else .st
noncomputable def eLc2 (bx : Bool) (it : IM) (tg : Tgt) (tst : BM) (it1 : IM) (tg1 : Tgt) (tst1 : BM) (elt : EM) (ws ws1 : List Nat) : EM := fun ρ S => (it ρ S).bind fun iv S1 =>
  (lcGo2 iv.src tg tst it1 tg1 tst1 elt ws1 S1.next (wipeE ρ ws) iv.items (S1.alloc (.lst []))).bind fun _ S2 => lcEnd bx S1.next S2
section
variable {T : Tbl} {X : Cx} {Ew : XW} {elt tgE iter c tgE1 iter1 : Expr} {ifs ifs1 : List Expr} {scope : Scope} {own : List (Str × Nat)} {pos : Pos} {it it1 : IM} {tg tg1 : Tgt} {tst tst1 : BM} {fe : EM} {bx : Bool} {ws1 : List Nat}
theorem wipe_idem (σ : L2.St) (ws : List Nat) : L2.wipe (L2.wipe σ ws) ws = L2.wipe σ ws := by
  apply List.ext_getElem?
  intro j
  rw [wipe_get, wipe_get, wipe_length]
  by_cases hj : j ∈ ws ∧ j < σ.length
  · rw [if_pos hj, if_pos hj]
  · rw [if_neg hj, if_neg hj]
theorem bind_as {α β γ : Type} (r : Res α) (f : α → Sto → Res β) (g : β → Sto → Res γ) : (r.bind f).bind g = r.bind fun a S => (f a S).bind g := by cases r <;> rfl
theorem rd_lc2 (hsl : ∀ i ∈ tg.slots, i ∈ own.map (·.2)) (hsl1 : ∀ i ∈ tg1.slots, i ∈ ws1) {σ : L2.St} {H : Hp} {Q : VK} (h : rdE X.K T Ew (eLc2 bx it tg tst it1 tg1 tst1 fe (own.map (·.2)) ws1) σ H Q) :
    tLc2 (rdI X.K T Ew it) (tg.g X.K) (rdT X.K T XW0 tst) (rdI X.K T XW0 it1) (tg1.g X.K) (rdT X.K T XW0 tst1) (rdE X.K T XW0 fe) (own.map (·.2)) ws1 σ H Q := by
  obtain ⟨W, ρ, S, sr, er, h⟩ := h
  refine ⟨W, ρ, S, sr, er, RP.bind h fun W1 S1 H1 iv l1 s1 h1 J hJ D hD => ?_⟩
  have sB : SR X.K T (W1.box D) (S1.alloc (.lst [])) (upd H1 D (.lst [])) := s1.box (b := .lst []) hD ⟨[], upd_same, .nil⟩
  have eD : (W1.box D).m S1.next = D := by rw [← s1.nx]; exact Wd.box_at
  have lD : S1.next < (W1.box D).n := by rw [← s1.nx]; exact Nat.lt_succ_self _
  generalize hn0 : S1.next = n0 at *
  generalize hgo : lcGo2 iv.src tg tst it1 tg1 tst1 fe ws1 n0 (wipeE ρ (own.map (·.2))) = go at h1
  refine ⟨fun i m H => ∃ W S rest, iv.items.drop i = rest ∧ m = rest.length ∧ WLe (W1.box D) W ∧ SR X.K T W S H ∧
      RP X.K T W ((go rest S).bind fun _ S2 => lcEnd bx n0 S2) (VP X.K T Q) (fun H' c o => Ew c o σ H'),
    ⟨_, W1.box D, _, iv.items, rfl, rfl, .refl _, sB, h1.wle .box⟩, fun i m H hW => ?_⟩
  obtain ⟨W, S, rest, hd, rfl, lw, sr, h⟩ := hW
  have wD : W.m n0 = D := (lw.eq _ lD).trans eD
  cases rest with
  | nil =>
    rw [← hgo] at h
    unfold lcGo2 at h
    by_cases hsrc : iv.src S
    · rw [if_pos hsrc] at h
      have hn : iv.items[i]? = none := List.getElem?_eq_none (by simpa using hd)
      refine .inl ⟨(hJ W S H (.trans .box lw) sr hsrc i).2 hn, ?_⟩
      have h' : RP X.K T W (lcEnd bx n0 S) (VP X.K T Q) (fun H' c o => Ew c o σ H') := h
      unfold lcEnd at h'
      cases q : S.objs n0 with
      | none => simp only [q] at h'; exact False.elim h'
      | some b =>
        cases b with
        | lst acc =>
          simp only [q] at h'
          obtain ⟨xs, hx, r⟩ := sr.at_ _ _ q
          cases bx with
          | true =>
            rw [if_pos rfl] at h'
            have z : VR X.K T W (.loc n0) (.ref (W.m n0)) := .loc (Nat.lt_of_lt_of_le lD lw.le)
            rw [wD] at z
            exact h'.now sr _ z
          | false =>
            rw [if_neg Bool.false_ne_true] at h'
            have l : WLe W (W.add (W.m n0) (.lst xs)) := .add (sr.out _ _ q rfl)
            have z : VR X.K T (W.add (W.m n0) (.lst xs)) (.lst acc) (.ref (W.m n0)) := .lst upd_same (r.mono l)
            have r' := h' _ _ l (sr.frz q hx) _ z
            rw [wD] at r'
            exact r'
        | _ => simp only [q] at h'; exact False.elim h'
    · rw [if_neg hsrc] at h; exact False.elim h
  | cons v vs =>
    rw [← hgo] at h
    unfold lcGo2 at h
    rw [hgo] at h
    by_cases hsrc : iv.src S
    · rw [if_pos hsrc] at h
      have hv : iv.items[i]? = some v := by
        have := congrArg (·[0]?) hd
        simpa using this
      have hd' : iv.items.drop (i + 1) = vs := by
        have := congrArg List.tail hd
        simpa using this
      obtain ⟨go', yl⟩ := (hJ W S H (.trans .box lw) sr hsrc i).1 v hv
      refine .inr ⟨go', _, fun H' z => ⟨vs.length, Nat.lt_succ_self _, z⟩, fun x H' y => ?_⟩
      obtain ⟨W2, l2, s2, vx⟩ := yl x H' y
      cases q : tg.set v (wipeE ρ (own.map (·.2))) with
      | none => rw [q] at h; exact False.elim h
      | some ρ1 =>
        rw [q] at h
        have er2 : ER X.K T W2 (wipeE ρ (own.map (·.2))) (L2.wipe σ (own.map (·.2))) := ((er.mono l1).mono (.trans .box (lw.trans l2))).wipe _
        refine Tgt.ok (ws := own.map (·.2)) s2.sub tg vx er2 q fun σ' e' w' => ⟨?_, ?_⟩
        · rw [w' hsl]; exact wipe_idem _ _
        have h' : RP X.K T W2 ((noEx (tst ρ1 S)).bind fun k S1 => (if k then (noEx (it1 ρ1 S1)).bind fun iv S2 => (lcGo iv.src tg1 tst1 fe n0 (wipeE ρ1 ws1) iv.items S2).bind fun _ S3 => go vs S3 else go vs S1).bind fun _ S2 => lcEnd bx n0 S2) (VP X.K T Q) (fun H' c o => Ew c o σ H') := by
          rw [← bind_as]
          exact h.wle l2
        refine ⟨W2, ρ1, S, s2, e', (RP.bind h' fun W3 S3 H3 k l3 s3 h3 => ?_ : RP X.K T W2 (noEx (tst ρ1 S)) _ (fun H' c o => Ew c o σ H')).noEx⟩
        have lw3 : WLe (W1.box D) W3 := lw.trans (l2.trans l3)
        cases k with
        | false =>
          dsimp only at h3 ⊢
          rw [if_neg Bool.false_ne_true] at h3 ⊢
          exact ⟨W3, S3, vs, hd', rfl, lw3, s3, h3⟩
        | true =>
          dsimp only at h3 ⊢
          rw [if_pos rfl] at h3 ⊢
          rw [bind_as] at h3
          refine ⟨W3, ρ1, S3, s3, e'.mono l3, (RP.bind h3 fun W4 S4 H4 iv1 l4 s4 h5 J1 hJ1 => ?_ : RP X.K T W3 (noEx (it1 ρ1 S3)) _ (fun H' c o => Ew c o σ H')).noEx⟩
          have lw4 : WLe (W1.box D) W4 := lw3.trans l4
          have e4 : ER X.K T W4 ρ1 σ' := (e'.mono l3).mono l4
          refine ⟨fun j k H => ∃ W S rest1, iv1.items.drop j = rest1 ∧ k = rest1.length ∧ WLe W4 W ∧ SR X.K T W S H ∧
              RP X.K T W ((lcGo iv1.src tg1 tst1 fe n0 (wipeE ρ1 ws1) rest1 S).bind fun _ S3 => (go vs S3).bind fun _ S2 => lcEnd bx n0 S2) (VP X.K T Q) (fun H' c o => Ew c o σ H'),
            ⟨_, W4, S4, iv1.items, rfl, rfl, .refl _, s4, by rw [bind_as] at h5; exact h5⟩, fun j k H hW1 => ?_⟩
          obtain ⟨W5, S5, rest1, hd1, rfl, lw5, s5, h6⟩ := hW1
          cases rest1 with
          | nil =>
            unfold lcGo at h6
            by_cases hsrc1 : iv1.src S5
            · rw [if_pos hsrc1] at h6
              have hn : iv1.items[j]? = none := List.getElem?_eq_none (by simpa using hd1)
              exact .inl ⟨(hJ1 W5 S5 H lw5 s5 hsrc1 j).2 hn, ⟨W5, S5, vs, hd', rfl, lw4.trans lw5, s5, h6⟩⟩
            · rw [if_neg hsrc1] at h6; exact False.elim h6
          | cons v1 vs1 =>
            unfold lcGo at h6
            by_cases hsrc1 : iv1.src S5
            · rw [if_pos hsrc1] at h6
              have hv1 : iv1.items[j]? = some v1 := by
                have := congrArg (·[0]?) hd1
                simpa using this
              have hd1' : iv1.items.drop (j + 1) = vs1 := by
                have := congrArg List.tail hd1
                simpa using this
              obtain ⟨go1, yl1⟩ := (hJ1 W5 S5 H lw5 s5 hsrc1 j).1 v1 hv1
              refine .inr ⟨go1, _, fun H' z => ⟨vs1.length, Nat.lt_succ_self _, z⟩, fun x1 H' y1 => ?_⟩
              obtain ⟨W6, l6, s6, vx1⟩ := yl1 x1 H' y1
              cases q1 : tg1.set v1 (wipeE ρ1 ws1) with
              | none => rw [q1] at h6; exact False.elim h6
              | some ρ2 =>
                rw [q1] at h6
                have er6 : ER X.K T W6 (wipeE ρ1 ws1) (L2.wipe σ' ws1) := (e4.mono (lw5.trans l6)).wipe _
                refine Tgt.ok (ws := ws1) s6.sub tg1 vx1 er6 q1 fun σ2 e6 w6 => ⟨?_, ?_⟩
                · rw [w6 hsl1]; exact wipe_idem _ _
                have h7 : RP X.K T W6 ((noEx (tst1 ρ2 S5)).bind fun k S1' => (if k then (noEx (fe ρ2 S1')).bind fun u S2 => (match S2.objs n0 with
                  | some (.lst acc) => if acc.length < sizeLine then lcGo iv1.src tg1 tst1 fe n0 (wipeE ρ1 ws1) vs1 (S2.put n0 (.lst (acc ++ [u]))) else .st
                  | _ => .st) else lcGo iv1.src tg1 tst1 fe n0 (wipeE ρ1 ws1) vs1 S1').bind fun _ S3 => (go vs S3).bind fun _ S2 => lcEnd bx n0 S2) (VP X.K T Q) (fun H' c o => Ew c o σ H') := by
                  rw [← bind_as]
                  exact h6.wle l6
                refine ⟨W6, ρ2, S5, s6, e6, (RP.bind h7 fun W7 S7 H7 k l7 s7 h8 => ?_ : RP X.K T W6 (noEx (tst1 ρ2 S5)) _ (fun H' c o => Ew c o σ H')).noEx⟩
                have lw7 : WLe W4 W7 := lw5.trans (l6.trans l7)
                cases k with
                | false =>
                  dsimp only at h8 ⊢
                  rw [if_neg Bool.false_ne_true] at h8 ⊢
                  exact ⟨W7, S7, vs1, hd1', rfl, lw7, s7, h8⟩
                | true =>
                  dsimp only at h8 ⊢
                  rw [if_pos rfl] at h8 ⊢
                  rw [bind_as] at h8
                  refine ⟨W7, ρ2, S7, s7, e6.mono l7, (RP.bind h8 fun W8 S8 H8 u l8 s8 h9 yv vu => ?_ : RP X.K T W7 (noEx (fe ρ2 S7)) _ (fun H' c o => Ew c o σ H')).noEx⟩
                  have lw8 : WLe W4 W8 := lw7.trans l8
                  have wD8 : W8.m n0 = D := ((lw4.trans lw8).eq _ lD).trans eD
                  cases q5 : S8.objs n0 with
                  | none => simp only [q5] at h9; exact False.elim h9
                  | some b =>
                    cases b with
                    | lst acc =>
                      simp only [q5] at h9
                      by_cases hz : acc.length < sizeLine
                      · rw [if_pos hz] at h9
                        obtain ⟨xs, hx, r⟩ := s8.at_ _ _ q5
                        rw [wD8] at hx
                        refine ⟨xs, hx, by rw [← r.length]; exact hz, W8, S8.put n0 (.lst (acc ++ [u])), vs1, hd1', rfl, lw8, ?_, h9⟩
                        have sp := s8.put (o := .lst (xs ++ [yv])) (b' := .lst (acc ++ [u])) q5 ⟨xs ++ [yv], upd_same, r.append (.cons vu .nil)⟩
                        rw [wD8] at sp
                        exact sp
                      · rw [if_neg hz] at h9; exact False.elim h9
                    | _ => simp only [q5] at h9; exact False.elim h9
            · rw [if_neg hsrc1] at h6; exact False.elim h6
    · rw [if_neg hsrc] at h; exact False.elim h
theorem m_lc2 (hc : X.calm = true) (hN : X.N.Nodup) (hi : PIm T X Ew tgE iter it) (ok : BlkOk X.N X.env.scope scope own) (hv : ∀ i ∈ ws1, i ∈ own.map (·.2)) (hsl : ∀ i ∈ tg.slots, i ∈ own.map (·.2)) (hsl1 : ∀ i ∈ tg1.slots, i ∈ ws1)
    (hg : ∀ (s : Shared) (H : Hp) (C : Addr) (cl : List (Str × Addr)) (fp : List Addr), PG (X.blk s H scope (compEnvC scope cl C X.env) fp) tgE (tg.g X.K)) (ht : ∀ (s : Shared) (H : Hp) (C : Addr) (cl : List (Str × Addr)) (fp : List Addr), PTs (X.blk s H scope (compEnvC scope cl C X.env) fp) ifs (rdT X.K T XW0 tst))
    (hi1 : ∀ (s : Shared) (H : Hp) (C : Addr) (cl : List (Str × Addr)) (fp : List Addr), PIm T (X.blk s H scope (compEnvC scope cl C X.env) fp) XW0 tgE1 iter1 it1)
    (hg1 : ∀ (s : Shared) (H : Hp) (C : Addr) (cl : List (Str × Addr)) (fp : List Addr), PG (X.blk s H scope (compEnvC scope cl C X.env) fp) tgE1 (tg1.g X.K)) (ht1 : ∀ (s : Shared) (H : Hp) (C : Addr) (cl : List (Str × Addr)) (fp : List Addr), PTs (X.blk s H scope (compEnvC scope cl C X.env) fp) ifs1 (rdT X.K T XW0 tst1))
    (he : ∀ (s : Shared) (H : Hp) (C : Addr) (cl : List (Str × Addr)) (fp : List Addr), PEm T (X.blk s H scope (compEnvC scope cl C X.env) fp) XW0 elt fe) (hs : ∀ x, foldedSetIterable iter X.env x = pure x := by intro _; rfl) (hs1 : ∀ env x, foldedSetIterable iter1 env x = pure x := by intro _ _; rfl) :
    PEm T X Ew (.ListComp elt [⟨tgE, iter, ifs, 0⟩, ⟨tgE1, iter1, ifs1, 0⟩] scope pos) (eLc2 bx it tg tst it1 tg1 tst1 fe (own.map (·.2)) ws1) :=
  PE.to (pe_lc2 hc hN hi ok hv hg ht hi1 hg1 ht1 he hs hs1) fun _ _ _ h => rd_lc2 hsl hsl1 h
end
/-! ### the pure side -/
def RIt : RelK ItV (List Val) := fun _ _ _ iv xs => iv.items = xs ∧ ∀ S', iv.src S'
def LIt (κ : List Kd) (it : IM) (ip : IP) : Prop := LE RIt κ it ip
def lcGo2P (tg : Tgt) (tst : BM) (it1 : IP) (tg1 : Tgt) (tst1 : BM) (elt : EM) (ws1 : List Nat) (ρ0 : Ev) : List Val → Sto → Res (List Val)
  | [], S => .ok [] S
  | v :: vs, S => match tg.set v ρ0 with
    | some ρ1 => (noEx (tst ρ1 S)).bind fun k S1 => if k then (noEx (it1 ρ1 S1)).bind fun xs S2 => (lcGoP tg1 tst1 elt (wipeE ρ1 ws1) xs S2).bind fun us S3 => (lcGo2P tg tst it1 tg1 tst1 elt ws1 ρ0 vs S3).bind fun ws S4 => .ok (us ++ ws) S4
        else lcGo2P tg tst it1 tg1 tst1 elt ws1 ρ0 vs S1
    | none => .st
def eLc2P (it : IP) (tg : Tgt) (tst : BM) (it1 : IP) (tg1 : Tgt) (tst1 : BM) (elt : EM) (ws ws1 : List Nat) : EM := fun ρ S => (it ρ S).bind fun xs S1 => (lcGo2P tg tst it1 tg1 tst1 elt ws1 (wipeE ρ ws) xs S1).bind fun us S2 => if us.length ≤ sizeLine then .ok (.lst us) S2 else .st
section
variable {κ : List Kd} {it it1 : IM} {ip ip1 : IP} {tg tg1 : Tgt} {tst tst' tst1 tst1' : BM} {elt elt' : EM} {ws ws1 : List Nat}
/-- a variable: what cannot change -/
theorem lit_var (i : Nat) (hi : κ[i]? = some .s) : LIt κ (iSeq (eVar i)) (iSeqP (eVar i)) := fun c Z S ρ ρ' n er st hn =>
  (le_var i hi c Z S ρ ρ' n er st hn).bind fun v v' S1 Z1 x s1 q => by
    obtain rfl : v = v' := q
    cases q' : itemsP v with
    | none => trivial
    | some xs =>
      cases v <;> first | (cases q'; exact .ok s1 ⟨rfl, fun _ => trivial⟩) | (cases q'; done)
theorem lcGo2_ok (ht : allS κ tg.slots = true) (ht1 : allS κ tg1.slots = true) (hw1 : allS κ ws1 = true) (h1 : LE RV κ tst tst') (hi1 : LIt κ it1 ip1) (h11 : LE RV κ tst1 tst1') (h2 : LE RV κ elt elt') {c : Cs} {Za S0 : Sto} {ρ0 ρ0' : Ev} {n0 : Nat} {src : Sto → Prop} (s0 : St c Za S0) (er : EvR κ c S0 ρ0 ρ0') (hn : S0.next ≤ n0) (f0 : Free c n0)
    (hs : (∀ S', src S') ∨ ∃ k o, k < S0.next ∧ Free c k ∧ S0.objs k = some o ∧ ∀ S', S'.objs k = some o → src S') :
    ∀ {vs : List Val} {acc us : List Val} {Z S Z1 : Sto}, XF c S0 S → St c Z S → n0 < S.next → S.objs n0 = some (.lst acc) → lcGo2P tg tst' ip1 tg1 tst1' elt' ws1 ρ0' vs Z = .ok us Z1 → acc.length + us.length ≤ sizeLine →
      ∃ S1, lcGo2 src tg tst it1 tg1 tst1 elt ws1 n0 ρ0 vs S = .ok () S1 ∧ XF c S0 S1 ∧ St c Z1 S1 ∧ n0 < S1.next ∧ S1.objs n0 = some (.lst (acc ++ us))
  | [], acc, us, Z, S, Z1, x, s, l, o, e, _ => by
    unfold lcGo2P at e
    cases e
    unfold lcGo2
    have : src S := by
      rcases hs with hs | ⟨k, ob, a, b, d, q⟩
      · exact hs S
      · exact q S ((x.eq k a b).trans d)
    rw [if_pos this]
    exact ⟨S, rfl, x, s, l, by rw [List.append_nil]; exact o⟩
  | v :: vs, acc, us, Z, S, Z1, x, s, l, o, e, hl => by
    unfold lcGo2P at e
    unfold lcGo2
    have : src S := by
      rcases hs with hs | ⟨k, ob, a, b, d, q⟩
      · exact hs S
      · exact q S ((x.eq k a b).trans d)
    rw [if_pos this]
    cases q : tg.set v ρ0' with
    | none => rw [q] at e; cases e
    | some ρ1' =>
      rw [q] at e
      obtain ⟨ρ1, t1, t2, _⟩ := tgt_ok (allS_ok ht) er q
      rw [t1]
      dsimp only at e ⊢
      obtain ⟨k, Z2, e1, e⟩ := bind_ok e
      have q1 := h1 c Z S ρ1 ρ1' S.next (t2.mono s0 x) s (Nat.le_refl _)
      rw [noEx_ok e1] at q1
      obtain ⟨k2, S2, r1, x2, s2, rfl⟩ := q1
      rw [r1]
      show ∃ S1, (if k2 = true then _ else _ : Res Unit) = _ ∧ _
      have o2 : S2.objs n0 = some (.lst acc) := (x2.eq n0 l f0).trans o
      have l2 := Nat.lt_of_lt_of_le l x2.le
      cases k2 with
      | false =>
        rw [if_neg Bool.false_ne_true] at e ⊢
        exact lcGo2_ok ht ht1 hw1 h1 hi1 h11 h2 s0 er hn f0 hs (x.trans x2) s2 l2 o2 e hl
      | true =>
        rw [if_pos rfl] at e ⊢
        obtain ⟨xs, Z3, e2, e⟩ := bind_ok e
        obtain ⟨us1, Z4, e3, e⟩ := bind_ok e
        obtain ⟨us2, Z5, e4, e5⟩ := bind_ok e
        cases e5
        have q2 := hi1 c Z2 S2 ρ1 ρ1' S2.next (t2.mono s0 (x.trans x2)) s2 (Nat.le_refl _)
        rw [noEx_ok e2] at q2
        obtain ⟨iv, S3, r2, x3, s3, rfl, hs1⟩ := q2
        rw [r2]
        have o3 : S3.objs n0 = some (.lst acc) := (x3.eq n0 l2 f0).trans o2
        have l3 := Nat.lt_of_lt_of_le l2 x3.le
        rw [List.length_append] at hl
        obtain ⟨S4, a1, a2, a3, a4, a5⟩ := lcGo_ok (src := iv.src) ht1 h11 h2 s0 (t2.wipe (ws := ws1) (allS_ok hw1)) hn f0 (.inl hs1) ((x.trans x2).trans x3) s3 l3 o3 e3 (by omega)
        show ∃ S1, ((lcGo iv.src tg1 tst1 elt n0 (wipeE ρ1 ws1) iv.items S3).bind fun _ S3 => lcGo2 src tg tst it1 tg1 tst1 elt ws1 n0 ρ0 vs S3) = _ ∧ _
        rw [a1]
        show ∃ S1, lcGo2 src tg tst it1 tg1 tst1 elt ws1 n0 ρ0 vs S4 = _ ∧ _
        have := lcGo2_ok ht ht1 hw1 h1 hi1 h11 h2 s0 er hn f0 hs (acc := acc ++ us1) a2 a3 a4 a5 e4 (by rw [List.length_append]; omega)
        obtain ⟨S5, b1, b2, b3, b4, b5⟩ := this
        exact ⟨S5, b1, b2, b3, b4, by rw [b5, List.append_assoc]⟩
theorem lcGo2P_nx {ρ0 : Ev} {i : Nat} {es : List Val} {Z2 : Sto} : ∀ {vs : List Val} {Z : Sto}, lcGo2P tg tst ip1 tg1 tst1 elt ws1 ρ0 vs Z ≠ .ex i es Z2
  | [], Z, h => by cases h
  | v :: vs, Z, h => by
    unfold lcGo2P at h
    split at h
    · rename_i ρ1 _
      cases e1 : noEx (tst ρ1 Z) with
      | ok k Z3 =>
        rw [e1] at h
        cases k with
        | false => exact lcGo2P_nx h
        | true =>
          have h : ((noEx (ip1 ρ1 Z3)).bind fun xs S2 => (lcGoP tg1 tst1 elt (wipeE ρ1 ws1) xs S2).bind fun us S3 => (lcGo2P tg tst ip1 tg1 tst1 elt ws1 ρ0 vs S3).bind fun ws S4 => .ok (us ++ ws) S4) = .ex i es Z2 := h
          cases e2 : noEx (ip1 ρ1 Z3) with
          | ok u Z4 =>
            rw [e2] at h
            have h : ((lcGoP tg1 tst1 elt (wipeE ρ1 ws1) u Z4).bind fun us S3 => (lcGo2P tg tst ip1 tg1 tst1 elt ws1 ρ0 vs S3).bind fun ws S4 => .ok (us ++ ws) S4) = .ex i es Z2 := h
            cases e3 : lcGoP tg1 tst1 elt (wipeE ρ1 ws1) u Z4 with
            | ok us Z5 =>
              rw [e3] at h
              have h : ((lcGo2P tg tst ip1 tg1 tst1 elt ws1 ρ0 vs Z5).bind fun ws S4 => .ok (us ++ ws) S4) = .ex i es Z2 := h
              cases e4 : lcGo2P tg tst ip1 tg1 tst1 elt ws1 ρ0 vs Z5 with
              | ok us Z5 => rw [e4] at h; cases h
              | ex a b d => exact lcGo2P_nx e4
              | st => rw [e4] at h; cases h
            | ex a b d => exact lcGoP_nx e3
            | st => rw [e3] at h; cases h
          | ex => exact absurd e2 noEx_nx
          | st => rw [e2] at h; cases h
      | ex => exact absurd e1 noEx_nx
      | st => rw [e1] at h; cases h
    · cases h
theorem lc2_sim (hi : LIe κ it ip) (ht : allS κ tg.slots = true) (ht1 : allS κ tg1.slots = true) (hw : allS κ ws = true) (hw1 : allS κ ws1 = true) (h1 : LE RV κ tst tst') (hi1 : LIt κ it1 ip1) (h11 : LE RV κ tst1 tst1') (h2 : LE RV κ elt elt') {c : Cs} {Z S : Sto} {ρ ρ' : Ev} {n : Nat} (er : EvR κ c S ρ ρ') (s : St c Z S) (hn : n ≤ S.next) {R : RelK Val Val} {bx : Bool}
    (hend : ∀ {S1 Z1 : Sto} {k : Nat} {us : List Val}, XF c S S1 → St c Z1 S1 → n ≤ k → S.next ≤ k → k < S1.next → Free c k → S1.objs k = some (.lst us) → Sim c S n R (lcEnd bx k S1) (.ok (.lst us) Z1)) :
    Sim c S n R (eLc2 bx it tg tst it1 tg1 tst1 elt ws ws1 ρ S) (eLc2P ip tg tst' ip1 tg1 tst1' elt' ws ws1 ρ' Z) := by
  unfold eLc2 eLc2P
  have := hi c Z S ρ ρ' n er s hn
  revert this
  cases ip ρ' Z with
  | st => intro _; trivial
  | ex i es Z1 => rintro ⟨S1, e, x, s1⟩; rw [e]; exact ⟨S1, rfl, x, s1⟩
  | ok xs Z1 =>
    rintro ⟨iv, S1, e, x, s1, rfl, hs⟩
    rw [e]
    show Sim c S n R ((lcGo2 _ _ _ _ _ _ _ _ _ _ _ _).bind _) ((lcGo2P _ _ _ _ _ _ _ _ _ _).bind _)
    cases q : lcGo2P tg tst' ip1 tg1 tst1' elt' ws1 (wipeE ρ' ws) iv.items Z1 with
    | st => trivial
    | ex i es Z2 => exact absurd q lcGo2P_nx
    | ok us Z2 =>
      show Sim c S n R _ (if us.length ≤ sizeLine then _ else _)
      by_cases l : us.length ≤ sizeLine
      · rw [if_pos l]
        obtain ⟨xa, sa⟩ := s1.al (o := .lst [])
        have er1 := (er.mono s x).wipe (ws := ws) (allS_ok hw)
        obtain ⟨S3, g1, g2, g3, g4, g5⟩ := lcGo2_ok ht ht1 hw1 h1 hi1 h11 h2 s1 er1 (Nat.le_refl _) (fresh_free s1) hs (acc := []) xa sa (Nat.lt_succ_self _) alloc_at q (by simpa using l)
        rw [g1]
        show Sim c S n R (lcEnd bx S1.next S3) _
        exact hend (x.trans g2) g3 (Nat.le_trans hn x.le) x.le g4 (fresh_free s1) (by simpa using g5)
      · rw [if_neg l]; trivial
theorem le_lc2 (hi : LIe κ it ip) (ht : allS κ tg.slots = true) (ht1 : allS κ tg1.slots = true) (hw : allS κ ws = true) (hw1 : allS κ ws1 = true) (h1 : LE RV κ tst tst') (hi1 : LIt κ it1 ip1) (h11 : LE RV κ tst1 tst1') (h2 : LE RV κ elt elt') :
    LE RV κ (eLc2 false it tg tst it1 tg1 tst1 elt ws ws1) (eLc2P ip tg tst' ip1 tg1 tst1' elt' ws ws1) := fun c Z S ρ ρ' n er s hn =>
  lc2_sim hi ht ht1 hw hw1 h1 hi1 h11 h2 er s hn fun {S1 Z1 k us} x s1 l l0 l2 f o => by
    unfold lcEnd; rw [o]
    exact ⟨_, _, rfl, ⟨x.le, fun j lj fj => by rw [drop_ne (by omega)]; exact x.eq j lj fj⟩, s1.drop f, rfl⟩
theorem le_lc2N (hi : LIe κ it ip) (ht : allS κ tg.slots = true) (ht1 : allS κ tg1.slots = true) (hw : allS κ ws = true) (hw1 : allS κ ws1 = true) (h1 : LE RV κ tst tst') (hi1 : LIt κ it1 ip1) (h11 : LE RV κ tst1 tst1') (h2 : LE RV κ elt elt') :
    LE RF κ (eLc2 true it tg tst it1 tg1 tst1 elt ws ws1) (eLc2P ip tg tst' ip1 tg1 tst1' elt' ws ws1) := fun c Z S ρ ρ' n er s hn =>
  lc2_sim hi ht ht1 hw hw1 h1 hi1 h11 h2 er s hn fun {S1 Z1 k us} x s1 l l0 l2 f o => by
    unfold lcEnd; rw [o]
    exact ⟨_, _, rfl, x, s1, k, rfl, l, f, _, o, rfl⟩
/-- what it is over lists of data -/
theorem lcGo2P_map {α β : Type} {f : α → Val} {f1 : β → Val} {g : α → β → Val} {ys : List β} {S : Sto} {ρ0 : Ev} : ∀ {xs : List α}, (∀ x ∈ xs, ∃ ρ1, tg.set (f x) ρ0 = some ρ1 ∧ ip1 ρ1 S = .ok (ys.map f1) S ∧ ∀ y ∈ ys, ∃ ρ2, tg1.set (f1 y) (wipeE ρ1 ws1) = some ρ2 ∧ elt ρ2 S = .ok (g x y) S) →
    lcGo2P tg tYesM ip1 tg1 tYesM elt ws1 ρ0 (xs.map f) S = .ok (xs.flatMap fun x => ys.map (g x)) S
  | [], _ => rfl
  | x :: xs, h => by
    obtain ⟨ρ1, e1, e2, e3⟩ := h x List.mem_cons_self
    rw [List.map_cons]
    unfold lcGo2P
    rw [e1]
    show ((noEx (ip1 ρ1 S)).bind fun xs_1 S2 => _) = _
    rw [e2]
    show ((lcGoP tg1 tYesM elt (wipeE ρ1 ws1) (ys.map f1) S).bind fun us S3 => _) = _
    rw [lcGoP_map e3]
    show ((lcGo2P tg tYesM ip1 tg1 tYesM elt ws1 ρ0 (xs.map f) S).bind fun ws S4 => _) = _
    rw [lcGo2P_map fun y hy => h y (List.mem_cons_of_mem _ hy)]
    rfl
end
end PM

/-! PN, part e: index of a tuple of ints that is made in the def -/
namespace PM
open PySem PySem.Spec L2 PyProof.Rows
section
variable {X : Cx} {o e : Expr} {es : List Expr} {te to : TE} {t : TA} {pos apos cpos : Pos} {name : Str} {id : String} {r : V → List V → Hp → VK → Prop}
def NF (X : Cx) (p : Addr) : Prop := ∀ o' u', X.H_0 p ≠ some (.frz o' u')
theorem nf_new {pins : List (Addr × Obj)} {σ : L2.St} {H : Hp} {s : Shared} (I : Inv X pins σ H s) {p : Addr} (hp : H p = none) : NF X p := fun o' u' h => by
  have := I.base.frzs p o' u' h
  rw [hp] at this; cases this
/-- a tuple display, its object known -/
theorem pe_tupF {x1} (h : PA X es t) : PE X (.Tuple es x1 pos) (fun σ H Q => t σ H fun xs H1 => xs.length ≤ sizeLine ∧ ∀ p ob, H1 p = none → ob.dict = none → NF X p → Q (.ref p) (upd H1 p (.frz ob (.tup xs)))) := by
  refine ⟨fun pins s σ H Q I hq => ?_⟩
  refine wpAny_Tuple_spliced (thn (h.run pos pins s σ H _ I hq) fun us s1 ⟨xs, H1, I1, r, z, q⟩ => ⟨by rw [← r.length]; exact z, ?_⟩)
  have hf : H1 s1.heap.objs.size = none := I1.hok.fresh (Nat.le_refl _)
  refine ⟨.ref s1.heap.objs.size, upd H1 s1.heap.objs.size (.frz { cls := .type "tuple", data := .seq us.toArray } (.tup xs)), I1.laid (t' := s1.toks) (fun b u e => Heap.get?_push_of_some _ e) (Nat.le_refl _) ?_, rfl, q _ _ hf rfl (nf_new I1 hf)⟩
  exact ⟨Heap.get?_push_size _ rfl, z, us, r, ⟨_, Heap.get?_push_size _ rfl, rfl, _, rfl⟩⟩
def rCatF (X : Cx) : R2 := fun x y H Q => ∃ a b xs ys, x = .ref a ∧ y = .ref b ∧ SqT X.K H a xs ∧ SqT X.K H b ys ∧ xs ≠ [] ∧ xs.length + ys.length ≤ sizeLine ∧
  (ys = [] → Q (.ref a) H) ∧ (ys ≠ [] → ∀ p ob, H p = none → ob.dict = none → NF X p → Q (.ref p) (upd H p (.frz ob (.tup (xs ++ ys)))))
theorem op_catF : OpR X (binaryOp .Add) (rCatF X) := by
  intro pins s σ H x y v u Q I rx ry h
  obtain ⟨a, b, xs, ys, rfl, rfl, ha, hb, hx, hz, q1, q2⟩ := h
  cases rx
  cases ry
  obtain ⟨its, r1, p1, _⟩ := I.tuple ha
  obtain ⟨its2, r2, p2, _⟩ := I.tuple hb
  have hf : H s.heap.objs.size = none := I.hok.fresh (Nat.le_refl _)
  refine HT.cat_tup p1 p2 (fun z => hx (r1.nil_iff.mp z)) (fun z => ⟨.ref a, H, I, rfl, q1 (r2.nil_iff.mp z)⟩) (fun z => ?_) (by rw [← r1.length, ← r2.length]; exact hz)
  refine ⟨.ref s.heap.objs.size, upd H s.heap.objs.size (.frz { cls := .type "tuple", data := .seq (its ++ its2).toArray } (.tup (xs ++ ys))), I.laid (t' := s.toks) (fun b ob q => Heap.get?_push_of_some _ q) (Nat.le_refl _) ?_, rfl, q2 (fun w => z (r2.nil_iff.mpr w)) _ _ hf rfl (nf_new I hf)⟩
  exact ⟨Heap.get?_push_size _ rfl, by rw [List.length_append]; exact hz, _, r1.append r2, IsTup.new _ _⟩
/-- a method of a tuple whose object is known -/
theorem pe_bmF (slot : Slot "tuple" name id) (hty : typeOf (.builtin id) = pure (.type "method_descriptor")) (hm : MtR X id r) (ho : PE X o to) (ha : PA X (e :: es) t)
    (hbase : attributeBase o name X.env (eval o X.env) = eval o X.env := by rfl)
    (hfew : ((backTo cpos (starEach (e :: es) X.env)).all (fun x => !x.1) && (backToKw cpos (keywordEach [] X.env)).all (fun x => x.1.isSome)
      && decide ((e :: es).length + ([] : List Keyword).length + (if ([] : List Keyword).isEmpty then 0 else 1) < 30)) = true := by rfl)
    (hline : (apos.endLine == cpos.line) = true := by rfl) (hs : starEach (e :: es) X.env = (false, eval e X.env) :: starEach es X.env := by rfl) (hplain : (backTo cpos (starEach es X.env)).any (·.1) = false := by rfl) :
    PE X (.Call (.Attribute o name apos) (e :: es) [] cpos) (fun σ H Q => to σ H fun x H1 => (∃ a ob xs, x = .ref a ∧ H1 a = some (.frz ob (.tup xs)) ∧ ob.dict = none) ∧ t σ H1 fun xs H2 => r x xs H2 Q) := by
  refine ⟨fun pins s σ H Q I h => ?_⟩
  refine wpAny_Call_method_late hbase hfew hline rfl (thn (ho.run pins s σ H _ I h) fun v s1 ⟨x, H1, I1, r1, ⟨a, ob, xs, e1, hf, hd⟩, q1⟩ => ?_)
  subst e1
  have r1' := r1
  cases r1
  obtain ⟨hg, _, its, _, pt⟩ := (show ObjOk X.prog X.w H1 s1.heap a (.frz ob (.tup xs)) from I1.hok a _ hf)
  refine ⟨"tuple", id, PySem.F.plainAttrs_tuple, slot, hty, Heap.IsTuple.typeIs pt, fun b eb => ?_, ?_⟩
  · cases eb; exact ⟨ob, hg, hd⟩
  have hA := ha.run cpos pins s1 σ H1 _ I1 q1
  rw [hs] at hA ⊢
  refine Calls.callWith_builtin (by show (false || (backTo cpos (starEach es X.env)).any (·.1)) = false; rw [hplain] <;> rfl) (Calls.evalArgs_plain ?_)
  exact thn hA fun us s2 ⟨vs, H2, I2, r2, q2⟩ => hm pins s2 σ H2 _ vs _ us Q I2 r1' r2 q2
/-- the object is no longer known -/
theorem pe_thaw (he : PE X e te) : PE X e (fun σ H Q => te σ H fun x H1 => ∃ d ob u, H1 d = some (.frz ob u) ∧ NF X d ∧ Q x (upd H1 d u)) :=
  ⟨fun pins s σ H Q I h => thn (he.run pins s σ H _ I h) fun v s1 ⟨x, H1, I1, r1, d, ob, u, hf, nf, q⟩ => ⟨x, _, I1.unlock hf nf, r1, q⟩⟩
/-- t.index(k), numbers -/
def rTIdx (K : PySem.W.Frag) : V → List V → Hp → VK → Prop := fun x xs H Q => ∃ (a : Addr) (ns : List Int) (k : Int), x = V.ref a ∧ xs = [.int k] ∧ SqT K H a (ns.map V.int) ∧ k ∈ ns ∧ Q (.int (ns.idxOf k : Nat)) H
theorem mt_tindex : MtR X "tuple.index" (rTIdx X.K) := by
  intro pins s σ H x xs v us Q I rx rxs h
  obtain ⟨a, ns, k, rfl, rfl, hs, hk, q⟩ := h
  cases rx
  cases rxs with
  | cons ry rt =>
    obtain ⟨tk, rfl⟩ := ry
    cases rt
    obtain ⟨its, rv, hp, hlen⟩ := I.tuple hs
    exact SeqAt.tuple_index_ints hp (intsAre_of rv) hk ⟨.int _, H, I.tok _, ⟨_, rfl⟩, q⟩
end
/-! ### row = (mark,) + right; return row[:row.index(0)] if 0 in row else row -/
def eHead (m r iw : Nat) : EM := fun ρ S => match lk ρ m, lk ρ r with
  | some (.int m), some (.tup rs) => match intsOf rs with
    | some ns => if ns.length < sizeLine ∧ iw < ρ.length then .ok (.tup (((m :: ns).take ((m :: ns).idxOf 0)).map Val.int)) S else .st
    | none => .st
  | _, _ => .st
def sHead (m r iw : Nat) : SM := sRet (eHead m r iw)
theorem inV_ints {k : Int} : ∀ {ns : List Int}, inV (.int k) (ns.map V.int) = decide (k ∈ ns)
  | [] => rfl
  | n :: ns => by
    have := inV_ints (k := k) (ns := ns)
    unfold inV at this ⊢
    rw [List.map_cons, List.any_cons, this]
    by_cases h : n = k
    · subst h; simp [eqV]
    · have h' : ¬ k = n := fun z => h z.symm
      simp [eqV, h, h']
section
variable {T : Tbl} {X : Cx} {Ew : XW} {p1 p2 p3 p4 p5 p6 p7 p8 p9 q1 q2 q3 q4 q5 q6 q7 q8 : Pos} {x1 x2 x3 : Nat} {im ir iw : Nat} {xm xr xw : Str}
theorem mb_head (hc : X.calm = true) (hN : X.N.Nodup) (hm : X.N[im]? = some xm) (hr : X.N[ir]? = some xr) (hw : X.N[iw]? = some xw) (hvm : Vis X.env.scope xm) (hvr : Vis X.env.scope xr) (hvw : Vis X.env.scope xw) (hlw : Loc X.env.scope xw)
    (hdm : (xm == ("__debug__" : Str)) = false) (hdr : (xr == ("__debug__" : Str)) = false) (hdw : (xw == ("__debug__" : Str)) = false)
    (hcm : (xm == ("__classdict__" : Str)) = false) (hcr : (xr == ("__classdict__" : Str)) = false) (hcw : (xw == ("__classdict__" : Str)) = false)
    {stA stR : Stmt}
    (hA : ∀ {te : TE}, (PE X (.BinOp (.Tuple [.Name xm p1] x1 p2) .Add (.Name xr p3) p4) te) → PS X stA (tAsg te (gName iw)))
    {tst cut : Expr}
    (hT : ∀ {r : R2}, OpR X (compareOp .In) r → PT X tst (tTest (tOp r (tC (.int 0)) (tVar iw))))
    (hC : ∀ {to : TE} {t : TA} {r : V → List V → Hp → VK → Prop}, PE X (.Name xw q1) to → PA X [.Constant (.int 0) x2 q2] t → MtR X "tuple.index" r → PE X cut (tSl (rSlA X.K) (tVar iw) tNoPart (tPart (fun σ H Q => to σ H fun x H1 => (∃ a ob xs, x = .ref a ∧ H1 a = some (.frz ob (.tup xs)) ∧ ob.dict = none) ∧ t σ H1 fun xs H2 => r x xs H2 Q))))
    (hR : ∀ {te : TE}, PE X (.IfExp tst cut (.Name xw q3) q4) te → PS X stR (tRet te)) :
    PBm T X Ew [stA, stR] (sHead im ir iw) := by
  have ev : ∀ {q : Pos}, PE X (.Name xw q) (tVar iw) := fun {q} => pe_var hw hvw hdw hcw
  have e1 := pe_op (pos := p4) op_catF (pe_tupF (x1 := x1) (pos := p2) (pa_cons (pe_var (pos := p1) hm hvm hdm hcm) pa_nil)) (pe_var (pos := p3) hr hvr hdr hcr)
  have e2 := hC (pe_var hw hvw hdw hcw) (pa_cons pe_int pa_nil) mt_tindex
  have e3 := pe_ifExp (pos := q4) (hT op_in_seq) e2 (pe_thaw (ev (q := q3)))
  refine PSs.to (pss_cons (hA e1) (pss_one (hR e3))) fun D σ H ⟨W, ρ, S, sr, er, h⟩ => ?_
  unfold sHead sRet eHead at h
  cases em : lk ρ im with
  | none => simp only [em] at h; exact False.elim h
  | some vm =>
  cases er' : lk ρ ir with
  | none => cases vm <;> simp only [em, er'] at h <;> exact False.elim h
  | some vr =>
  cases vm <;> first | (simp only [em, er'] at h; exact False.elim h) | skip
  rename_i m
  cases vr <;> first | (simp only [em, er'] at h; exact False.elim h) | skip
  rename_i rs
  simp only [em, er'] at h
  cases ei : intsOf rs with
  | none => simp only [ei] at h; exact False.elim h
  | some ns =>
  simp only [ei] at h
  by_cases hz : ns.length < sizeLine ∧ iw < ρ.length
  case neg => rw [if_neg hz] at h; exact False.elim h
  rw [if_pos hz] at h
  obtain ⟨ym, gm, vm⟩ := er.get _ _ (lk_some.mp em)
  obtain ⟨yr, gr, vr⟩ := er.get _ _ (lk_some.mp er')
  cases vm
  cases vr with
  | @tup b _ ys hb rb =>
  rw [intsOf_eq ei] at rb
  obtain rfl := rb.ints
  have hlw : iw < σ.length := by rw [← er.len]; exact hz.2
  have hσ : ∀ p : Addr, (σ.set iw (some (V.ref p)))[iw]? = some (some (V.ref p)) := fun p => List.getElem?_set_self hlw
  have tail : ∀ (Hb : Hp) (p : Addr) (o : Obj), SR X.K T W S Hb → Hb p = none → o.dict = none → NF X p →
      tRet (tIf (tTest (tOp (rIn X.K false) (tC (.int 0)) (tVar iw))) (tSl (rSlA X.K) (tVar iw) tNoPart (tPart (fun σ H Q => (tVar iw) σ H fun x H1 => (∃ a ob xs, x = .ref a ∧ H1 a = some (.frz ob (.tup xs)) ∧ ob.dict = none) ∧ (tCons (tC (.int 0)) tNil) σ H1 fun xs H2 => rTIdx X.K x xs H2 Q)))
        (fun σ H Q => (tVar iw) σ H fun x H1 => ∃ d ob u, H1 d = some (.frz ob u) ∧ NF X d ∧ Q x (upd H1 d u))) D (σ.set iw (some (.ref p))) (upd Hb p (.frz o (.tup ((m :: ns).map V.int)))) := by
    intro Hb p o sb hp hd nf
    generalize hl : m :: ns = l at h ⊢
    have hH : upd Hb p (.frz o (.tup (l.map V.int))) p = some (.frz o (.tup (l.map V.int))) := upd_same
    have s1 : SR X.K T W S (upd Hb p (.frz o (.tup (l.map V.int)))) := sb.beside hp
    refine ⟨.ref p, hσ p, p, l.map V.int, rfl, .inr (.inl (.inr ⟨o, hH⟩)), rfl, ?_, _, rfl, ?_⟩
    · rw [List.all_map]; exact List.all_eq_true.mpr fun _ _ => rfl
    rw [if_neg Bool.false_ne_true, inV_ints]
    by_cases hk : (0 : Int) ∈ l
    · rw [decide_eq_true hk]; dsimp only; rw [if_pos rfl]
      have hi := List.idxOf_lt_length_iff.mpr hk
      refine ⟨.ref p, hσ p, .ref p, hσ p, ⟨p, o, _, rfl, hH, hd⟩, p, l, 0, rfl, rfl, .inl (.inr ⟨o, hH⟩), hk, _, rfl, p, l.map V.int, rfl, .inl (.inr ⟨o, hH⟩), fun hw => ?_, fun _ p2 hp2 => ?_⟩
      · exfalso
        have h2 := hw.2
        unfold HT.sIx at h2
        rw [List.length_map] at h2
        dsimp only at h2
        rw [if_neg (by omega), Int.toNat_natCast, Nat.min_eq_left (Nat.le_of_lt hi)] at h2
        omega
      · have e : cutV (l.map V.int) none (some (l.idxOf 0 : Nat)) = (l.take (l.idxOf 0)).map V.int := by
          unfold cutV HT.sIx
          rw [List.length_map]
          simp only [Int.toNat_natCast, List.drop_zero, Nat.sub_zero, List.map_take]
          rw [if_neg (by omega), Nat.min_eq_left (Nat.le_of_lt hi)]
        rw [e]
        exact h _ _ _ (.add (s1.free hp2)) (s1.add hp2) (.tup (.inl upd_same) (VRs.ofInts _))
    · rw [decide_eq_false hk]; dsimp only; rw [if_neg Bool.false_ne_true]
      have e : l.take (l.idxOf 0) = l := by
        apply List.take_of_length_le
        rw [List.idxOf_eq_length hk]
        exact Nat.le_refl _
      rw [e] at h
      refine ⟨.ref p, hσ p, p, o, _, hH, nf, ?_⟩
      rw [upd_upd]
      exact h _ _ _ (.add (sb.free hp)) (sb.add hp) (.tup (.inl upd_same) (VRs.ofInts _))
  refine ⟨.int m, gm, by rw [sizeLine_eq]; simp, fun a1 o1 h1 hd1 nf1 => ⟨.ref b, gr, a1, b, [.int m], ns.map V.int, rfl, rfl, .inl (.inr ⟨o1, upd_same⟩), ?_, by simp, ?_, fun e => ?_, fun e p o hp hd nf => ?_⟩⟩
  · exact TQ_sq (sr.beside h1).sub hb
  · simp only [List.length_map, List.length_cons, List.length_nil]; omega
  · have e' : ns = [] := by simpa using e
    have := tail H a1 o1 sr h1 hd1 nf1
    rw [e'] at this
    exact this
  · exact tail _ p o (sr.beside h1) hp hd nf
end
theorem le_head {κ : List Kd} (m r iw : Nat) (hm : κ[m]? = some .s) (hr : κ[r]? = some .s) : LE RV κ (eHead m r iw) (eHead m r iw) := fun c Z S ρ ρ' n er st hn => by
  have hl : ρ.length = ρ'.length := er.len.trans er.len'.symm
  have e1 : lk ρ m = lk ρ' m := er.rel m _ hm
  have e2 : lk ρ r = lk ρ' r := er.rel r _ hr
  unfold eHead
  rw [e1, e2, hl]
  split
  · split
    · split
      · exact .ok st rfl
      · trivial
    · trivial
  · trivial
theorem ls_head {κ : List Kd} {m r iw : Nat} (hm : κ[m]? = some .s) (hr : κ[r]? = some .s) : LS κ .v (sHead m r iw) (sHead m r iw) := ls_ret (le_head m r iw hm hr)
end PM

/-! PN, part f: a list times a number -/
namespace PM
open PySem PySem.Spec L2
def vRepL (bx : Bool) (v w : Val) (S : Sto) : Res Val := match mlstOf S v, w with
  | some xs, .int k => if -1000 ≤ k ∧ k ≤ 1000 ∧ xs.length ≤ 1000 then mkL bx (List.replicate k.toNat xs).flatten S else .st
  | _, _ => .st
theorem o_repL {K : PySem.W.Frag} {T : Tbl} (bx : Bool) : Op2 K T rRep (vRepL bx) := by
  intro W S H v w x y Q PX s vx vy q
  unfold vRepL at q
  cases e : mlstOf S v with
  | none => rw [e] at q; exact False.elim q
  | some vs =>
    rw [e] at q
    cases w with
    | int k =>
      simp only at q
      by_cases c : -1000 ≤ k ∧ k ≤ 1000 ∧ vs.length ≤ 1000
      · rw [if_pos c] at q
        cases vy
        obtain ⟨a, xs, rfl, hl, r⟩ := mlstOf_ok s vx e
        refine ⟨a, k, xs, rfl, rfl, hl, by omega, by omega, ?_, fun p hp => mkL_ok s (VRs.rep r k.toNat) hp q⟩
        have h1 : xs.length ≤ 1000 := by rw [← r.length]; exact c.2.2
        have h2 : k.toNat ≤ 1000 := by omega
        have := Nat.mul_le_mul h1 h2
        rw [sizeLine_eq]
        omega
      · rw [if_neg c] at q; exact False.elim q
    | _ => exact False.elim q
theorem vRepL_eq {v v' w w' : Val} {c : Cs} {S Z1 : Sto} {bx : Bool} {u : Val} (h1 : VQ c S v v') (h2 : VQ c S w w') (h : vRepL false v' w' Z0 = .ok u Z1) : ∃ us, u = .lst us ∧ vRepL bx v w S = mkL bx us S := by
  unfold vRepL at h ⊢
  cases e : mlstOf Z0 v' with
  | none => rw [e] at h; cases h
  | some xs =>
    rw [e] at h
    rw [mlst_q h1 e]
    cases w' <;> first | (cases h; done) | skip
    obtain rfl := vq_s h2 rfl
    dsimp only at h ⊢
    split at h
    · rename_i c; cases h; exact ⟨_, rfl, if_pos c⟩
    · cases h
theorem rs_repL : Rs2 (vRepL false) := fun c S v v' w w' u Z1 h1 h2 e => by
  obtain ⟨us, rfl, q⟩ := vRepL_eq (bx := false) h1 h2 e
  rw [q]; rfl
theorem nx_repL : ∀ v w S, NX (vRepL false v w S) := by
  intro v w S
  unfold vRepL
  split
  · split <;> trivial
  · trivial
theorem rn_repL : RsN2 (vRepL true) (vRepL false) := fun c S v v' w w' u Z1 h1 h2 e => by
  obtain ⟨us, rfl, q⟩ := vRepL_eq (bx := true) h1 h2 e
  exact ⟨.lst us, rfl, q⟩
end PM

/-! PN, part g: a, b, .. = a list -/
namespace PM
open PySem PySem.Spec L2
def sAsgL (ts : List Tgt) (e : EM) : SM := fun ρ S => (e ρ S).toS ρ fun v S1 => match v with
  | .lst xs => match Tgt.sets ts xs ρ with
    | some ρ' => .nx ρ' S1
    | none => .st
  | _ => .st
section
variable {T : Tbl} {X : Cx} {Ew : XW} {e : Expr} {es : List Expr} {f : EM} {pos pos' : Pos} {k : Nat}
theorem ms_asgL {ts : List Tgt} (hc : X.calm = true) (he : PEm T X Ew e f) (hg : PGsm X es ts) (hn : (assignEach es X.env).length = ts.length := by rfl) (hst : (assignEach es X.env).findIdx? (·.1) = none := by rfl)
    (hs : swapsWithSole [.Tuple es k pos'] e pos.line X.env = pure false := by rfl) (hw : swappedStores [.Tuple es k pos'] e X.env = pure none := by rfl)
    (h1 : (assignEach [.Tuple es k pos'] X.env).map (·.2) = [assign (.Tuple es k pos') X.env] := by rfl) : PSm T X Ew (.Assign [.Tuple es k pos'] e pos) (sAsgL ts f) := by
  refine PS.to (ps_asg he (pg_lst hc hg hn hst) hs hw h1) fun D σ H ⟨W, ρ, S, sr, er, h⟩ => ⟨W, ρ, S, sr, er, SPo.of er h fun W1 S1 H1 v l s1 h1 x vx => ?_⟩
  cases vx <;> first | exact False.elim h1 | skip
  rename_i a vs xs hl rs
  dsimp only at h1
  cases q : Tgt.sets ts vs ρ with
  | none => rw [q] at h1; exact False.elim h1
  | some ρ' =>
    rw [q] at h1
    have hlen := Tgt.sets_len (K := X.K) (T := T) (W := W1) (H := H1) (ws := []) ts q
    exact ⟨_, _, rfl, .inl (.inl (s1.sub _ _ hl)), by rw [← rs.length, hlen], Tgt.oks (ws := []) s1.sub ts rs (er.mono l) q fun σ' e' _ => h1 W1 H1 σ' (.refl _) s1 e'⟩
end
theorem ls_asgL {κ : List Kd} {rk : RK} {e p : EM} {ts : List Tgt} (ht : allS κ (Tgt.slotss ts) = true) (h : LE RV κ e p) : LS κ rk (sAsgL ts e) (sAsgL ts p) := fun c Z S ρ ρ' er st =>
  .toS er st (h c Z S ρ ρ' S.next er st (Nat.le_refl _)) fun v v' S1 Z1 x s1 q => by
    obtain rfl : v = v' := q
    cases v <;> first | trivial | skip
    rename_i xs
    dsimp only
    cases q : Tgt.sets ts xs ρ' with
    | none => trivial
    | some ρ1' =>
      obtain ⟨ρ1, h1, h2, h3⟩ := tgts_ok (allS_ok ht) (er.mono st x) q
      rw [h1]
      exact SSim.nx (r' := h2) s1 h3
@[simp ↓] theorem s_asgL {ρ : Ev} {S : Sto} {ts : List Tgt} {e : EM} {D : En} {kk : Kp D} : Sn (sAsgL ts e ρ S) D kk = Sn ((e ρ S).toS ρ fun v S1 => match v with
  | .lst xs => match Tgt.sets ts xs ρ with
    | some ρ' => .nx ρ' S1
    | none => .st
  | _ => .st) D := nr
end PM

/-! PK, part b: dicts that a def owns, pop, objects lent to be changed, dict comprehensions -/
namespace PM
open PySem PySem.Spec L2
/-! ### x.pop() -/
def vPop0 (v : Val) (vs : List Val) (S : Sto) : Res Val := match v, vs with
  | .loc k, [] => match S.objs k with
    | some (.lst xs) => (match xs[xs.length - 1]? with
      | some u => .ok u (S.put k (.lst xs.dropLast))
      | none => .st)
    | _ => .st
  | _, _ => .st
theorem VRs.dropLast {K : PySem.W.Frag} {T : Tbl} {W : Wd} {vs : List Val} {xs : List V} (r : VRs K T W vs xs) : VRs K T W vs.dropLast xs.dropLast := by
  rw [List.dropLast_eq_take, List.dropLast_eq_take, ← r.length]; exact r.take _
theorem w_pop0 {K : PySem.W.Frag} {T : Tbl} : OpM K T rPop vPop0 := by
  intro W S H v y vs xs Q PX s rv rs q
  unfold vPop0 at q
  split at q
  · rename_i k
    cases rs
    cases rv with
    | loc hk =>
      cases e : S.objs k with
      | none => simp only [e] at q; exact False.elim q
      | some b =>
        cases b with
        | lst ys =>
          simp only [e] at q
          obtain ⟨zs, hz, r⟩ := locLst s e
          cases e3 : ys[ys.length - 1]? with
          | none => rw [e3] at q; exact False.elim q
          | some u =>
            rw [e3] at q
            obtain ⟨z, h1, h2⟩ := r.get e3
            exact ⟨_, zs, z, rfl, rfl, hz, by rw [← r.length]; exact h1, q W _ (.refl _) (s.put e ⟨_, upd_same, r.dropLast⟩) _ h2⟩
        | _ => simp only [e] at q; exact False.elim q
  · exact False.elim q
section
variable {T : Tbl} {X : Cx} {Ew : XW} {o : Expr} {fo : EM} {Ty : String} {id : String} {apos cpos : Pos}
theorem m_bm0 {name : Str} {rm : V → List V → Hp → VK → Prop} {chk : Val → Sto → Bool} {om : Val → List Val → Sto → Res Val} (pa : PlainAttrs Ty) (slot : Slot Ty name id) (hty : typeOf (.builtin id) = pure (.type "method_descriptor")) (hm : MtR X id rm)
    (hck : ∀ W S H v y, SR X.K T W S H → VR X.K T W v y → chk v S = true → tyV X.K Ty y H) (ok : OpM X.K T rm om) (ho : PEm T X Ew o fo)
    (hbase : attributeBase o name X.env (eval o X.env) = eval o X.env := by rfl)
    (hline : (apos.endLine == cpos.line) = true := by rfl) :
    PEm T X Ew (.Call (.Attribute o name apos) [] [] cpos) (eBM chk om fo aNil) := by
  refine PE.to (pe_bm0 pa slot hty hm ho hbase hline) fun σ H Q h => ?_
  obtain ⟨W, ρ, S, s, er, h⟩ := h
  refine ⟨W, ρ, S, s, er, RP.bind h fun W1 S1 H1 v l1 s1 h1 y vy => ?_⟩
  cases hc : chk v S1 with
  | false => rw [hc] at h1; exact False.elim h1
  | true =>
    rw [hc, if_pos rfl] at h1
    exact ⟨hck W1 S1 H1 v y s1 vy hc, ok W1 S1 H1 v y [] [] Q _ s1 vy .nil h1⟩
end
/-! ### expressions that change what this def owns -/
abbrev EX := Ev → Sto → Res (Val × Ev)
def LXr {α : Type} (κ : List Kd) (c : Cs) (S : Sto) (ρ ρ' : Ev) (r : Res α) (r' : Res (α × Ev)) : Prop := match r' with
  | .ok v Z1 => ∃ S1, r = .ok v.1 S1 ∧ NxR κ c S ρ ρ' ρ S1 v.2 Z1 c
  | _ => True
def LX (κ : List Kd) (e : EM) (p : EX) : Prop := ∀ c Z S ρ ρ', EvR κ c S ρ ρ' → St c Z S → LXr κ c S ρ ρ' (e ρ S) (p ρ' Z)
/-- an owned object takes a new content -/
theorem own_nx {κ : List Kd} {c : Cs} {Z S : Sto} {ρ ρ' : Ev} {j k : Nat} {kd : Kd} {u' : Val} {o' : Ob} (er : EvR κ c S ρ ρ') (st : St c Z S) (hj : κ[j]? = some kd) (ho : kd.own = true) (e1 : lk ρ j = some (.loc k)) (hu : us (lk ρ j) (lk ρ' j) k) (h' : obV o' = some u') :
    NxR κ c S ρ ρ' ρ (S.put k o') (ρ'.set j (some u')) Z c := by
  have := own_put (rk := .v) er st hj ho e1 hu h'
  obtain ⟨ρ1, S1, c1, e, q⟩ := this
  cases e
  have : c1 = c := by
    obtain ⟨d, rfl, hd⟩ := q.cx
    cases d with
    | nil => rfl
    | cons p d =>
      have h1 := hd p List.mem_cons_self
      obtain ⟨o, _, h2⟩ := q.st.cr p (by simp)
      have h3 : p.2 < S.next := q.st.wf _ _ h2
      omega
  rw [this] at q; exact q
def eXPop0 (j : Nat) : EX := fun ρ S => match lk ρ j with
  | some (.lst xs) => (match xs[xs.length - 1]? with
    | some u => .ok (u, ρ.set j (some (.lst xs.dropLast))) S
    | none => .st)
  | _ => .st
def eXPop (j : Nat) (i : EM) : EX := fun ρ S => match lk ρ j with
  | some (.lst xs) => (i ρ S).bind fun w S1 => (match w with
    | .int i => if -(2 ^ 63) ≤ i ∧ i < 2 ^ 63 then (match seqIndex? i xs.length with
      | some n => (match xs[n]? with
        | some u => .ok (u, ρ.set j (some (.lst (xs.eraseIdx n)))) S1
        | none => .st)
      | none => .st) else .st
    | _ => .st)
  | _ => .st
section
variable {κ : List Kd} {rk : RK} {e p i ip : EM} {x xp : EX}
theorem lx_pop0 {j : Nat} {kd : Kd} (hj : κ[j]? = some kd) (ho : kd.own = true) : LX κ (eBM isLst vPop0 (eVar j) aNil) (eXPop0 j) := fun c Z S ρ ρ' er st => by
  unfold eXPop0
  by_cases hx : ∃ xs, lk ρ' j = some (.lst xs)
  · obtain ⟨xs, hx⟩ := hx
    obtain ⟨k, o, h1, h2, h3, h4⟩ := own_at er hj ho hx
    rw [hx]
    dsimp only
    cases o with
    | lst ys =>
      cases h4
      cases e3 : xs[xs.length - 1]? with
      | none => trivial
      | some u =>
        refine ⟨S.put k (.lst xs.dropLast), ?_, own_nx er st hj ho h1 h2 rfl⟩
        unfold eBM
        rw [eVar_lk, h1]
        show (if isLst (.loc k) S then _ else _ : Res Val) = _
        rw [isLst_loc h3, if_pos rfl]
        show vPop0 (.loc k) [] S = _
        unfold vPop0
        dsimp only
        rw [h3]
        dsimp only
        rw [e3]
    | dk l ks vs => cases l <;> cases h4
    | dt l ks vs => cases l <;> cases h4
    | ins c' vs => cases h4
  · split
    · rename_i xs h; exact absurd ⟨xs, h⟩ hx
    · trivial
theorem lx_pop {j : Nat} {kd : Kd} (hj : κ[j]? = some kd) (ho : kd.own = true) (hi : LE RV κ i ip) : LX κ (eBM isLst vPopAt (eVar j) (aCons i aNil)) (eXPop j ip) := fun c Z S ρ ρ' er st => by
  unfold eXPop
  by_cases hx : ∃ xs, lk ρ' j = some (.lst xs)
  · obtain ⟨xs, hx⟩ := hx
    obtain ⟨k, o, h1, h2, h3, h4⟩ := own_at er hj ho hx
    rw [hx]
    dsimp only
    cases o with
    | lst ys =>
      cases h4
      have hq := hi c Z S ρ ρ' S.next er st (Nat.le_refl _)
      cases e1 : ip ρ' Z with
      | st => trivial
      | ex a b d => trivial
      | ok w Z1 =>
        rw [e1] at hq
        obtain ⟨w2, S1, r1, x1, s1, rfl⟩ := hq
        show LXr κ c S ρ ρ' _ (match w2 with | .int i => _ | _ => _)
        cases w2 with
        | int m =>
          dsimp only
          by_cases hm : -(2 ^ 63) ≤ m ∧ m < 2 ^ 63
          · rw [if_pos hm]
            cases e2 : seqIndex? m xs.length with
            | none => trivial
            | some n =>
              dsimp only
              cases e3 : xs[n]? with
              | none => trivial
              | some u =>
                have er1 := er.mono st x1
                have h3' := xf_obj er st x1 h2 h3
                have nx := own_nx (Z := Z1) (o' := .lst (xs.eraseIdx n)) er1 s1 hj ho h1 h2 rfl
                refine ⟨S1.put k (.lst (xs.eraseIdx n)), ?_, (NxR.ofX er st x1 s1).trans nx⟩
                unfold eBM
                rw [eVar_lk, h1]
                show (if isLst (.loc k) S then _ else _ : Res Val) = _
                rw [isLst_loc h3, if_pos rfl]
                unfold aCons aNil
                rw [r1]
                show vPopAt (.loc k) [.int m] S1 = _
                unfold vPopAt
                dsimp only
                rw [h3']
                dsimp only
                rw [if_pos hm, e2]
                dsimp only
                rw [e3]
          · rw [if_neg hm]; trivial
        | _ => trivial
    | dk l ks vs => cases l <;> cases h4
    | dt l ks vs => cases l <;> cases h4
    | ins c' vs => cases h4
  · split
    · rename_i xs h; exact absurd ⟨xs, h⟩ hx
    · trivial
/-- a display whose last item changes something -/
abbrev AX := Ev → Sto → Res (List Val × Ev)
def LAX (κ : List Kd) (a : AM) (p : AX) : Prop := ∀ c Z S ρ ρ', EvR κ c S ρ ρ' → St c Z S → LXr κ c S ρ ρ' (a ρ S) (p ρ' Z)
def aXLast (p : EX) : AX := fun ρ S => (p ρ S).bind fun v S1 => .ok ([v.1], v.2) S1
def aXCons (p : EM) (q : AX) : AX := fun ρ S => (p ρ S).bind fun u S1 => (q ρ S1).bind fun v S2 => .ok (u :: v.1, v.2) S2
theorem lax_last (h : LX κ e xp) : LAX κ (aCons e aNil) (aXLast xp) := fun c Z S ρ ρ' er st => by
  unfold aXLast
  have := h c Z S ρ ρ' er st
  cases e1 : xp ρ' Z with
  | st => trivial
  | ex => trivial
  | ok v Z1 =>
    rw [e1] at this
    obtain ⟨v', ρ1'⟩ := v
    obtain ⟨S1, h1, h2⟩ := this
    exact ⟨S1, by unfold aCons aNil; rw [h1]; rfl, h2⟩
theorem lax_cons {a : AM} {q : AX} (h : LE RV κ e p) (h2 : LAX κ a q) : LAX κ (aCons e a) (aXCons p q) := fun c Z S ρ ρ' er st => by
  unfold aXCons
  have := h c Z S ρ ρ' S.next er st (Nat.le_refl _)
  cases e1 : p ρ' Z with
  | st => trivial
  | ex => trivial
  | ok v Z1 =>
    rw [e1] at this
    obtain ⟨v', S1, r1, x1, s1, rfl⟩ := this
    have := h2 c Z1 S1 ρ ρ' (er.mono st x1) s1
    show LXr κ c S ρ ρ' _ ((q ρ' Z1).bind _)
    cases e2 : q ρ' Z1 with
    | st => trivial
    | ex => trivial
    | ok w Z2 =>
      rw [e2] at this
      obtain ⟨ws, ρ2'⟩ := w
      obtain ⟨S2, r2, n2⟩ := this
      exact ⟨S2, by unfold aCons; rw [r1]; show (a ρ S1).bind _ = _; rw [r2]; rfl, (NxR.ofX er st x1 s1).trans n2⟩
def eXTup (q : AX) : EX := fun ρ S => (q ρ S).bind fun v S1 => if v.1.length ≤ sizeLine then .ok (.tup v.1, v.2) S1 else .st
theorem lx_tup {a : AM} {q : AX} (h : LAX κ a q) : LX κ (eTup a) (eXTup q) := fun c Z S ρ ρ' er st => by
  unfold eXTup
  have := h c Z S ρ ρ' er st
  cases e1 : q ρ' Z with
  | st => trivial
  | ex => trivial
  | ok v Z1 =>
    rw [e1] at this
    obtain ⟨v', ρ1'⟩ := v
    obtain ⟨S1, h1, h2⟩ := this
    show LXr κ c S ρ ρ' _ (if v'.length ≤ sizeLine then _ else _)
    by_cases l : v'.length ≤ sizeLine
    · rw [if_pos l]
      refine ⟨S1, ?_, h2⟩
      unfold eTup; rw [h1]
      show (if v'.length ≤ sizeLine then _ else _ : Res Val) = _
      rw [if_pos l]
    · rw [if_neg l]; trivial
/-- x = e -/
def sSetX (i : Nat) (p : EX) : SM := fun ρ S => (p ρ S).toS ρ fun v S1 => .nx (v.2.set i (some v.1)) S1
theorem toS_of {κ : List Kd} {c : Cs} {Z S : Sto} {ρ ρ' : Ev} {e : EM} {p : EX} (h : LX κ e p) (er : EvR κ c S ρ ρ') (st : St c Z S) {g : Val → Sto → SRes} {g' : Val × Ev → Sto → SRes}
    (k : ∀ v S1 ρ1' Z1, NxR κ c S ρ ρ' ρ S1 ρ1' Z1 c → SSim κ rk c S1 ρ ρ1' (g v S1) (g' (v, ρ1') Z1)) (hx : ∀ a b d, p ρ' Z ≠ .ex a b d) : SSim κ rk c S ρ ρ' ((e ρ S).toS ρ g) ((p ρ' Z).toS ρ' g') := by
  have := h c Z S ρ ρ' er st
  cases e1 : p ρ' Z with
  | st => trivial
  | ex a b d => exact absurd e1 (hx a b d)
  | ok v Z1 =>
    rw [e1] at this
    obtain ⟨v', ρ1'⟩ := v
    obtain ⟨S1, h1, h2⟩ := this
    rw [h1]
    exact SSim.after h2 (k _ _ _ _ h2)
/-- what raises is not asked here -/
def noX {α : Type} (p : Ev → Sto → Res α) : Ev → Sto → Res α := fun ρ S => match p ρ S with | .ex _ _ _ => .st | r => r
theorem noX_ex {α : Type} {p : Ev → Sto → Res α} {ρ : Ev} {S : Sto} (a : Nat) (b : List Val) (d : Sto) : noX p ρ S ≠ .ex a b d := by
  unfold noX; cases p ρ S <;> intro h <;> cases h
theorem lx_noX (h : LX κ e xp) : LX κ e (noX xp) := fun c Z S ρ ρ' er st => by
  have := h c Z S ρ ρ' er st
  unfold noX
  cases e1 : xp ρ' Z with
  | st => trivial
  | ex => trivial
  | ok v Z1 => rw [e1] at this; exact this
theorem ls_setX (i : Nat) (hi : κ[i]? = some .s) (h : LX κ e xp) : LS κ rk (sSet i e) (sSetX i (noX xp)) := fun c Z S ρ ρ' er st =>
  toS_of (lx_noX h) er st (fun v S1 ρ1' Z1 n => SSim.nx (r' := n.ev.set_s hi _) n.st (.set_s hi)) (fun a b d => noX_ex a b d)
/-- a, b = e -/
def sAsgX (t : Tgt) (p : EX) : SM := fun ρ S => (p ρ S).toS ρ fun v S1 => match t.set v.1 v.2 with
  | some ρ1 => .nx ρ1 S1
  | none => .st
theorem ls_asgX {t : Tgt} (ht : allS κ t.slots = true) (h : LX κ e xp) : LS κ rk (sAsg t e) (sAsgX t (noX xp)) := fun c Z S ρ ρ' er st =>
  toS_of (lx_noX h) er st (fun v S1 ρ1' Z1 n => by
    cases q : t.set v ρ1' with
    | none => simp only [q]; trivial
    | some ρ2' =>
      simp only [q]
      obtain ⟨ρ1, h1, h2, h3⟩ := tgt_ok (allS_ok ht) n.ev q
      rw [h1]
      exact SSim.nx (r' := h2) n.st h3) (fun a b d => noX_ex a b d)
/-- x.append(e) -/
def sAppX (j : Nat) (p : EX) : SM := fun ρ S => lsP (lk ρ j) fun _ => (p ρ S).toS ρ fun v S1 => lsP (lk v.2 j) fun xs => if xs.length < sizeLine then .nx (v.2.set j (some (.lst (xs ++ [v.1])))) S1 else .st
theorem ls_appX {j : Nat} {kd : Kd} (hj : κ[j]? = some kd) (ho : kd.own = true) (h : LX κ e xp) : LS κ rk (sDrop (eBM isLst vAppend (eVar j) (aCons e aNil))) (sAppX j (noX xp)) := fun c Z S ρ ρ' er st => by
  refine bm_own er st hj ho (fun k xs h1 h2 h3 h4 => ?_) fun hn => lsP_no hn
  unfold sAppX
  rw [h3, toS1]
  refine toS_of (lx_noX h) er st (fun v S1 ρ1' Z1 n => ?_) (fun a b d => noX_ex a b d)
  by_cases hx : ∃ ys, lk ρ1' j = some (.lst ys)
  · obtain ⟨ys, hx⟩ := hx
    obtain ⟨k2, o, g1, g2, g3, g4⟩ := own_at n.ev hj ho hx
    rw [h1] at g1; cases g1
    cases o with
    | lst zs =>
      cases g4
      unfold vAppend
      dsimp only
      rw [g3, hx]
      dsimp only
      show SSim κ rk c S1 ρ ρ1' _ (if ys.length < sizeLine then _ else _)
      by_cases l : ys.length < sizeLine
      · rw [if_pos l, if_pos l]; exact own_put n.ev n.st hj ho h1 g2 rfl
      · rw [if_neg l, if_neg l]; trivial
    | dk l ks vs => cases l <;> cases g4
    | dt l ks vs => cases l <;> cases g4
    | ins c' vs => cases g4
  · show SSim κ rk c S1 ρ ρ1' _ (lsP (lk ρ1' j) _)
    rw [lsP_no fun xs z => hx ⟨xs, z⟩]; trivial
/-- x[i] = e -/
def sSetIxX (j : Nat) (i : EM) (p : EX) : SM := fun ρ S => (p ρ S).toS ρ fun v S1 => lsP (lk v.2 j) fun xs => (i v.2 S1).toS v.2 fun w S2 => match w with
  | .int m => (match ixN xs.length m with
    | some n => .nx (v.2.set j (some (.lst (xs.set n v.1)))) S2
    | none => .st)
  | _ => .st
theorem ls_setIxX {j : Nat} {kd : Kd} (hj : κ[j]? = some kd) (ho : kd.own = true) (hi : LE RV κ i ip) (h : LX κ e xp) : LS κ rk (sSetIx (eVar j) i e) (sSetIxX j ip (noX xp)) := fun c Z S ρ ρ' er st => by
  refine toS_of (lx_noX h) er st (fun v S1 ρ1' Z1 n => ?_) (fun a b d => noX_ex a b d)
  have er1 := n.ev
  have s1 := n.st
  rw [eVar_lk]
  by_cases hx : ∃ xs, lk ρ1' j = some (.lst xs)
  · obtain ⟨xs, hx⟩ := hx
    obtain ⟨k, o, h1, h2, h3, h4⟩ := own_at er1 hj ho hx
    cases o with
    | lst ys =>
      cases h4
      show SSim κ rk c S1 ρ ρ1' _ (lsP (lk ρ1' j) _)
      rw [h1, hx]
      show SSim κ rk c S1 ρ ρ1' ((i ρ S1).toS ρ _) ((ip ρ1' Z1).toS ρ1' _)
      refine .toS er1 s1 (hi c Z1 S1 ρ ρ1' S1.next er1 s1 (Nat.le_refl _)) fun w w' S2 Z2 x2 s2 q2 => ?_
      obtain rfl : w = w' := q2
      have er2 := er1.mono s1 x2
      cases w with
      | int m =>
        unfold setIx
        dsimp only
        rw [xf_obj er1 s1 x2 h2 h3]
        dsimp only
        cases ixN xs.length m with
        | none => trivial
        | some n => exact own_put er2 s2 hj ho h1 h2 rfl
      | _ => trivial
    | dk l ks vs => cases l <;> cases h4
    | dt l ks vs => cases l <;> cases h4
    | ins c' vs => cases h4
  · show SSim κ rk c S1 ρ ρ1' _ (lsP (lk ρ1' j) _)
    rw [lsP_no fun xs z => hx ⟨xs, z⟩]; trivial
end
/-! ### d[y] = u, d owned -/
def putD : Val → Val → Val → Option Val
  | .dk ks vs, y, u => (match keyOf y with
    | some q => if ks.length < sizeLine then some (.dk (putS q u ks vs).1 (putS q u ks vs).2) else none
    | none => none)
  | .dt ks vs, .tup ys, u => (match keysOf ys with
    | some q => if ks.length < sizeLine then some (.dt (putS q u ks vs).1 (putS q u ks vs).2) else none
    | none => none)
  | _, _, _ => none
def sSetKP (j : Nat) (i e : EM) : SM := fun ρ S => (e ρ S).toS ρ fun u S1 => match lk ρ j with
  | some d => (i ρ S1).toS ρ fun w S2 => (match putD d w u with
    | some d' => .nx (ρ.set j (some d')) S2
    | none => .st)
  | none => .st
theorem putD_ok {d w u d' : Val} {o : Ob} {S : Sto} {k : Nat} (h : putD d w u = some d') (h1 : S.objs k = some o) (h2 : obV o = some d) : ∃ o', obV o' = some d' ∧ setKey (.loc k) w u S = some (S.put k o') := by
  unfold setKey
  dsimp only
  rw [h1]
  cases o with
  | lst xs => cases h2; cases h
  | ins c vs => cases h2; cases h
  | dk l ks vs =>
    cases l <;> cases h2
    unfold putD at h
    dsimp only at h ⊢
    cases e : keyOf w with
    | none => rw [e] at h; cases h
    | some q =>
      rw [e] at h
      dsimp only at h ⊢
      by_cases l : ks.length < sizeLine
      · rw [if_pos l] at h ⊢; cases h; exact ⟨_, rfl, rfl⟩
      · rw [if_neg l] at h; cases h
  | dt l ks vs =>
    cases l <;> cases h2
    cases w <;> first | (cases h; done) | skip
    unfold putD at h
    dsimp only at h ⊢
    rename_i ys
    cases e : keysOf ys with
    | none => rw [e] at h; cases h
    | some q =>
      rw [e] at h
      dsimp only at h ⊢
      by_cases l : ks.length < sizeLine
      · rw [if_pos l] at h ⊢; cases h; exact ⟨_, rfl, rfl⟩
      · rw [if_neg l] at h; cases h
section
variable {κ : List Kd} {rk : RK} {e p i ip : EM}
theorem ls_setK {j : Nat} {kd : Kd} (hj : κ[j]? = some kd) (ho : kd.own = true) (hi : LE RV κ i ip) (h : LE RV κ e p) : LS κ rk (sSetK (eVar j) i e) (sSetKP j ip p) := fun c Z S ρ ρ' er st =>
  .toS er st (h c Z S ρ ρ' S.next er st (Nat.le_refl _)) fun v v' S1 Z1 x s1 q => by
    obtain rfl : v = v' := q
    have er1 := er.mono st x
    cases ed : lk ρ' j with
    | none => trivial
    | some d =>
      obtain ⟨k, o, h1, h2, h3, h4⟩ := own_at er1 hj ho ed
      rw [eVar_lk, h1]
      show SSim κ rk c S1 ρ ρ' ((i ρ S1).toS ρ _) ((ip ρ' Z1).toS ρ' _)
      refine .toS er1 s1 (hi c Z1 S1 ρ ρ' S1.next er1 s1 (Nat.le_refl _)) fun w w' S2 Z2 x2 s2 q2 => ?_
      obtain rfl : w = w' := q2
      have er2 := er1.mono s1 x2
      cases e2 : putD d w v with
      | none => trivial
      | some d' =>
        obtain ⟨o', g1, g2⟩ := putD_ok e2 (xf_obj er1 s1 x2 h2 h3) h4
        rw [g2]
        exact own_put er2 s2 hj ho h1 h2 g1
end
end PM

/-! PK, part c: an object lent to be changed; dict comprehensions without a store -/
namespace PM
open PySem PySem.Spec L2
/-- arguments of which one is the object of slot j, lent to be changed -/
inductive LArg (κ : List Kd) (j : Nat) : List Kd → AM → AM → Prop
  | nil : LArg κ j [] aNil aNil
  | s {e p : EM} {κp : List Kd} {r r' : AM} : LE RV κ e p → LArg κ j κp r r' → LArg κ j (.s :: κp) (aCons e r) (aCons p r')
  | f (i : Nat) {kd : Kd} {κp : List Kd} {r r' : AM} : κ[i]? = some kd → kd ≠ .c → i ≠ j → LArg κ j κp r r' → LArg κ j (.f :: κp) (aCons (eVar i) r) (aCons (eVar i) r')
  | p {kd : Kd} {κp : List Kd} {r r' : AM} : κ[j]? = some kd → kd.own = true → (∀ k ∈ κp, k.own = false) → LArg κ j κp r r' → LArg κ j (.p :: κp) (aCons (eVar j) r) (aCons (eVar j) r')
inductive AP (κ : List Kd) (ρ ρ' : Ev) (j : Nat) : List Kd → List Val → List Val → Prop
  | nil : AP κ ρ ρ' j [] [] []
  | s {v : Val} {κp : List Kd} {r r' : List Val} : AP κ ρ ρ' j κp r r' → AP κ ρ ρ' j (.s :: κp) (v :: r) (v :: r')
  | f {i : Nat} {kd : Kd} {κp : List Kd} {v v' : Val} {r r' : List Val} : κ[i]? = some kd → kd ≠ .c → i ≠ j → lk ρ i = some v → lk ρ' i = some v' → AP κ ρ ρ' j κp r r' → AP κ ρ ρ' j (.f :: κp) (v :: r) (v' :: r')
  | p {kd : Kd} {κp : List Kd} {v v' : Val} {r r' : List Val} : κ[j]? = some kd → kd.own = true → (∀ k ∈ κp, k.own = false) → lk ρ j = some v → lk ρ' j = some v' → AP κ ρ ρ' j κp r r' → AP κ ρ ρ' j (.p :: κp) (v :: r) (v' :: r')
section
variable {κ κp : List Kd} {c : Cs} {Z S : Sto} {ρ ρ' : Ev} {j : Nat}
theorem AP.len : ∀ {κp : List Kd} {vs vs' : List Val}, AP κ ρ ρ' j κp vs vs' → vs.length = κp.length ∧ vs'.length = κp.length
  | _, _, _, .nil => ⟨rfl, rfl⟩
  | _, _, _, .s h => ⟨congrArg (· + 1) h.len.1, congrArg (· + 1) h.len.2⟩
  | _, _, _, .f _ _ _ _ _ h => ⟨congrArg (· + 1) h.len.1, congrArg (· + 1) h.len.2⟩
  | _, _, _, .p _ _ _ _ _ h => ⟨congrArg (· + 1) h.len.1, congrArg (· + 1) h.len.2⟩
theorem SlR.asp {a b : Option Val} : ∀ {kd : Kd}, kd.own = true → SlR c S kd a b → SlR c S .p a b
  | .o, _, h => h
  | .p, _, h => h
theorem AP.rel (er : EvR κ c S ρ ρ') : ∀ {κp : List Kd} {vs vs' : List Val}, AP κ ρ ρ' j κp vs vs' → ∀ (i : Nat) (kd : Kd), κp[i]? = some kd → SlR c S kd (lk (vs.map some) i) (lk (vs'.map some) i)
  | _, _, _, .nil, _, _, e => by simp at e
  | _, _, _, .s h, i, kd, e => by
    cases i with
    | zero => simp at e; subst e; exact rfl
    | succ i => exact h.rel er i kd (by simpa using e)
  | _, _, _, .f (i := i2) h1 h2 h3 h4 h5 h, i, kd, e => by
    cases i with
    | zero =>
      simp at e; subst e
      obtain ⟨v, a, q⟩ := (er.rel i2 _ h1).q h2 h5
      rw [h4] at a; cases a
      exact q.slf
    | succ i => exact h.rel er i kd (by simpa using e)
  | _, _, _, .p h1 h2 h3 h4 h5 h, i, kd, e => by
    cases i with
    | zero =>
      simp at e; subst e
      have := (er.rel j _ h1).asp h2
      rw [h4, h5] at this
      exact this
    | succ i => exact h.rel er i kd (by simpa using e)
/-- what a position uses -/
theorem AP.use (er : EvR κ c S ρ ρ') {kj : Kd} (hj : κ[j]? = some kj) (hw : kj.own = true) : ∀ {κp : List Kd} {vs vs' : List Val}, AP κ ρ ρ' j κp vs vs' → ∀ (i : Nat) (kd : Kd) (k : Nat), κp[i]? = some kd → us (lk (vs.map some) i) (lk (vs'.map some) i) k →
    (kd.own = true → us (lk ρ j) (lk ρ' j) k) ∧ (kd.own = false → ¬ us (lk ρ j) (lk ρ' j) k)
  | _, _, _, .nil, _, _, _, e, _ => by simp at e
  | _, _, _, .s h, i, kd, k, e, u => by
    cases i with
    | zero => exact (not_us_same u).elim
    | succ i => exact h.use er hj hw i kd k (by simpa using e) u
  | _, _, _, .f (i := i2) h1 h2 h3 h4 h5 h, i, kd, k, e, u => by
    cases i with
    | zero =>
      simp at e; subst e
      refine ⟨fun z => (by cases z), fun _ q => ?_⟩
      have u2 : us (lk ρ i2) (lk ρ' i2) k := by rw [h4, h5]; exact u
      exact er.na j i2 kj k (Ne.symm h3) hj hw q u2
    | succ i => exact h.use er hj hw i kd k (by simpa using e) u
  | _, _, _, .p h1 h2 h3 h4 h5 h, i, kd, k, e, u => by
    cases i with
    | zero =>
      simp at e; subst e
      exact ⟨fun _ => (by rw [h4, h5]; exact u), fun z => (by cases z)⟩
    | succ i => exact h.use er hj hw i kd k (by simpa using e) u
/-- one position alone is lent -/
theorem AP.one : ∀ {κp : List Kd} {vs vs' : List Val}, AP κ ρ ρ' j κp vs vs' → ∀ (i i2 : Nat) (kd kd2 : Kd), κp[i]? = some kd → κp[i2]? = some kd2 → kd.own = true → kd2.own = true → i = i2
  | _, _, _, .nil, _, _, _, _, e, _, _, _ => by simp at e
  | _, _, _, .s h, i, i2, kd, kd2, e, e2, o, o2 => by
    cases i with
    | zero => simp at e; subst e; cases o
    | succ i =>
      cases i2 with
      | zero => simp at e2; subst e2; cases o2
      | succ i2 => rw [h.one i i2 kd kd2 (by simpa using e) (by simpa using e2) o o2]
  | _, _, _, .f _ _ _ _ _ h, i, i2, kd, kd2, e, e2, o, o2 => by
    cases i with
    | zero => simp at e; subst e; cases o
    | succ i =>
      cases i2 with
      | zero => simp at e2; subst e2; cases o2
      | succ i2 => rw [h.one i i2 kd kd2 (by simpa using e) (by simpa using e2) o o2]
  | _, _, _, .p _ _ hn _ _ h, i, i2, kd, kd2, e, e2, o, o2 => by
    cases i with
    | zero =>
      cases i2 with
      | zero => rfl
      | succ i2 =>
        have := hn kd2 (List.mem_of_getElem? (by simpa using e2))
        rw [this] at o2; cases o2
    | succ i =>
      have := hn kd (List.mem_of_getElem? (by simpa using e))
      rw [this] at o; cases o
theorem AP.ev (er : EvR κ c S ρ ρ') {kj : Kd} (hj : κ[j]? = some kj) (hw : kj.own = true) {vs vs' : List Val} (h : AP κ ρ ρ' j κp vs vs') : EvR κp c S (vs.map some) (vs'.map some) := by
  refine ⟨by simp [h.len.1], by simp [h.len.2], h.rel er, fun i i2 kd k hne e o u u2 => ?_⟩
  have u1 := (h.use er hj hw i kd k e u).1 o
  cases e2 : κp[i2]? with
  | none =>
    obtain ⟨q1, _⟩ := u2
    have : (vs.map some).length ≤ i2 := by rw [List.length_map, h.len.1]; exact List.getElem?_eq_none_iff.mp e2
    rw [lk_get, List.getElem?_eq_none this] at q1; cases q1
  | some kd2 =>
    cases o2 : kd2.own with
    | true => exact hne (h.one i i2 kd kd2 e e2 o o2)
    | false => exact (h.use er hj hw i2 kd2 k e2 u2).2 o2 u1
theorem AP.ownk (er : EvR κ c S ρ ρ') {kj : Kd} (hj : κ[j]? = some kj) (hw : kj.own = true) {vs vs' : List Val} (h : AP κ ρ ρ' j κp vs vs') {k : Nat} (q : ownk κp (vs.map some) (vs'.map some) k) : us (lk ρ j) (lk ρ' j) k := by
  obtain ⟨i, kd, e, o, u⟩ := q
  exact (h.use er hj hw i kd k e u).1 o
/-- where the lent one stands -/
theorem AP.at_ : ∀ {κp : List Kd} {vs vs' : List Val}, AP κ ρ ρ' j κp vs vs' → ∀ (i : Nat), κp[i]? = some .p → lk (vs.map some) i = lk ρ j
  | _, _, _, .nil, _, e => by simp at e
  | _, _, _, .s h, i, e => by
    cases i with
    | zero => simp at e
    | succ i => exact h.at_ i (by simpa using e)
  | _, _, _, .f _ _ _ _ _ h, i, e => by
    cases i with
    | zero => simp at e
    | succ i => exact h.at_ i (by simpa using e)
  | _, _, _, .p _ _ _ h4 _ h, i, e => by
    cases i with
    | zero => exact h4.symm
    | succ i => exact h.at_ i (by simpa using e)
def RP2 (κ : List Kd) (ρ ρ' : Ev) (j : Nat) (κp : List Kd) : RelK (List Val) (List Val) := fun _ _ _ vs vs' => AP κ ρ ρ' j κp vs vs'
theorem LArg.ok {n : Nat} : ∀ {κp : List Kd} {a a' : AM} {Z S : Sto}, LArg κ j κp a a' → EvR κ c S ρ ρ' → St c Z S → n ≤ S.next → Sim c S n (RP2 κ ρ ρ' j κp) (a ρ S) (a' ρ' Z)
  | _, _, _, _, _, .nil, er, st, hn => .ok st .nil
  | _, _, _, Z, S, .s he hr, er, st, hn => (he c Z S ρ ρ' n er st hn).bind fun v v' S1 Z1 x1 s1 q1 => (hr.ok (er.mono st x1) s1 (Nat.le_trans hn x1.le)).bind fun w w' S2 Z2 x2 s2 q2 => by
    obtain rfl : v = v' := q1
    exact .ok s2 (.s q2)
  | _, _, _, Z, S, .f i h1 h2 h3 hr, er, st, hn => by
    unfold aCons
    rw [eVar_lk, eVar_lk]
    cases e : lk ρ' i with
    | none => trivial
    | some v' =>
      obtain ⟨v, e1, _⟩ := (er.rel i _ h1).q h2 e
      rw [e1]
      exact (hr.ok er st hn).bind fun w w' S2 Z2 x2 s2 q2 => .ok s2 (.f h1 h2 h3 e1 e q2)
  | _, _, _, Z, S, .p h1 h2 h3 hr, er, st, hn => by
    unfold aCons
    rw [eVar_lk, eVar_lk]
    cases e : lk ρ' j with
    | none => trivial
    | some v' =>
      obtain ⟨v, e1, _⟩ := (er.rel j _ h1).q (fun z => by subst z; cases h2) e
      rw [e1]
      exact (hr.ok er st hn).bind fun w w' S2 Z2 x2 s2 q2 => .ok s2 (.p h1 h2 h3 e1 e q2)
/-- an owned object has a new content, all else stays -/
theorem own_new {Z2 S2 : Sto} {rk : RK} {k : Nat} {kd : Kd} {u' : Val} (er : EvR κ c S ρ ρ') (st : St c Z S) (hj : κ[j]? = some kd) (ho : kd.own = true) (hu : us (lk ρ j) (lk ρ' j) k)
    (le : S.next ≤ S2.next) (eq : ∀ q, q < S.next → Free c q → q ≠ k → S2.objs q = S.objs q) (vl : VL c S2 k u') (st2 : St c Z2 S2) : SSim κ rk c S ρ ρ' (.nx ρ S2) (.nx (ρ'.set j (some u')) Z2) := by
  have l2 : j < ρ'.length := by rw [er.len']; exact get_lt hj
  have e1 := hu.1
  have er' : EvR κ c S2 ρ (ρ'.set j (some u')) := by
    refine ⟨er.len, by rw [List.length_set]; exact er.len', fun i kd2 e => ?_, fun i i2 kd2 k2 hne e o q => ?_⟩
    · by_cases hi : j = i
      · subst hi
        rw [hj] at e; cases e
        rw [lk_same l2, e1]
        have : VL c S2 k u' := vl
        cases kd <;> first | (cases ho; done) | exact .inr ⟨k, u', rfl, rfl, this⟩
      · rw [lk_ne hi]
        have q := er.rel i kd2 e
        have keep : ∀ {k2 : Nat} {w : Val}, lk ρ i = some (.loc k2) → lk ρ' i = some w → VL c S k2 w → VL c S2 k2 w := fun {k2 w} a b hv => by
          have hl := hv.lt st
          obtain ⟨f, o, g1, g2⟩ := hv
          refine ⟨f, o, ?_, g2⟩
          rw [eq k2 hl f fun z => by subst z; exact er.na j i kd _ hi hj ho hu ⟨a, _, b, isO_of g2⟩]; exact g1
        cases kd2 with
        | s => exact q
        | c => exact q
        | f => rcases q with q | ⟨k2, w, a, b, q⟩
               · exact .inl q
               · exact .inr ⟨k2, w, a, b, keep a b q⟩
        | o => rcases q with q | ⟨k2, w, a, b, q⟩
               · exact .inl q
               · exact .inr ⟨k2, w, a, b, keep a b q⟩
        | p => rcases q with q | ⟨k2, w, a, b, q⟩
               · exact .inl q
               · exact .inr ⟨k2, w, a, b, keep a b q⟩
    · by_cases hi : j = i
      · subst hi
        obtain ⟨q1, _⟩ := q
        rw [e1] at q1; cases q1
        rw [lk_ne hne]; exact er.na j i2 kd k hne hj ho hu
      · rw [lk_ne hi] at q
        by_cases hi2 : j = i2
        · subst hi2
          intro q2
          obtain ⟨q3, _⟩ := q2
          rw [e1] at q3; cases q3
          exact er.na i j kd2 k hne e o q hu
        · rw [lk_ne hi2]; exact er.na i i2 kd2 k2 hne e o q
  refine ⟨ρ, S2, c, rfl, ⟨le, fun q l f o => eq q l f fun z => by subst z; exact o ⟨j, kd, hj, ho, hu⟩⟩, ⟨fun q ⟨i, kd2, e, o, h⟩ => ?_, fun _ _ => rfl⟩, .refl, st2, er'⟩
  by_cases hi : j = i
  · subst hi
    obtain ⟨q1, _⟩ := h
    rw [e1] at q1; cases q1
    exact .inl ⟨j, kd, hj, ho, hu⟩
  · rw [lk_ne hi] at h; exact .inl ⟨i, kd2, e, o, h⟩
/-! ### f(.., x, ..), x lent -/
def setP (j : Nat) (ρ : Ev) (r : Res Val) : SRes := match r with
  | .ok (.tup [_, u]) S => .nx (ρ.set j (some u)) S
  | _ => .st
variable {rk : RK} {F G : FM} {n c0 i : Nat}
theorem call_lent {kj : Kd} {vs vs' : List Val} (er : EvR κ c S ρ ρ') (st : St c Z S) (hj : κ[j]? = some kj) (hw : kj.own = true) (h : LF κp (.p i) F G) (ha : AP κ ρ ρ' j κp vs vs') :
    SSim κ rk c S ρ ρ' ((noEx (F vs S)).toS ρ fun _ S1 => .nx ρ S1) (setP j ρ' (G vs' Z)) := by
  have := h c Z S vs vs' (ha.ev er hj hw) st
  revert this
  cases G vs' Z with
  | st => intro _; trivial
  | ex a b d => intro _; trivial
  | ok v' Z1 =>
    rintro ⟨v, S1, e, sf, s1, k, u, h1, h2, rfl, h4⟩
    rw [e]
    show SSim κ rk c S ρ ρ' (.nx ρ S1) (.nx (ρ'.set j (some u)) Z1)
    have hk : lk ρ j = some (.loc k) := (ha.at_ i h1).symm.trans h2
    have hus : us (lk ρ j) (lk ρ' j) k := by
      have hr := (er.rel j kj hj).asp hw
      rcases hr with ⟨hr, _⟩ | ⟨k2, w, a, b, hv⟩
      · exfalso
        have : ∀ {κp : List Kd} {vs vs' : List Val}, AP κ ρ ρ' j κp vs vs' → ∀ (i : Nat), κp[i]? = some .p → False := by
          intro κp vs vs' hA
          induction hA with
          | nil => intro i e; simp at e
          | s _ ih => intro i e; cases i with | zero => simp at e | succ i => exact ih i (by simpa using e)
          | f _ _ _ _ _ _ ih => intro i e; cases i with | zero => simp at e | succ i => exact ih i (by simpa using e)
          | p _ _ _ _ h5 _ ih => intro i e; cases i with | zero => rw [hr] at h5; cases h5 | succ i => exact ih i (by simpa using e)
        exact this ha i h1
      · rw [hk] at a; cases a
        obtain ⟨_, o, _, q⟩ := hv
        exact ⟨hk, w, b, isO_of q⟩
    exact own_new er st hj hw hus sf.le (fun q l f ne => sf.eq q l f fun z => ne (by
      have := ha.ownk er hj hw z
      obtain ⟨a, _⟩ := this
      rw [hk] at a; cases a; rfl)) h4 s1
def sCallP (j n : Nat) (G : FM) (a : AM) : SM := fun ρ S => (a ρ S).toS ρ fun vs S1 => if vs.length = n then setP j ρ (G vs S1) else .st
theorem ls_callP {kj : Kd} {a a' : AM} (hj : κ[j]? = some kj) (hw : kj.own = true) (h : LF κp (.p i) F G) (ha : LArg κ j κp a a') : LS κ rk (sDrop (eCallN n F a)) (sCallP j n G a') := fun c Z S ρ ρ' er st => by
  have := ha.ok (n := S.next) er st (Nat.le_refl _)
  unfold sDrop sCallP
  revert this
  cases a' ρ' Z with
  | st => intro _; trivial
  | ex d es Z1 =>
    rintro ⟨S1, e, x, s1⟩
    unfold eCallN
    rw [e]
    exact ⟨ρ, S1, c, rfl, .ofX er st x s1⟩
  | ok vs' Z1 =>
    rintro ⟨vs, S1, e, x, s1, q⟩
    unfold eCallN
    rw [e]
    show SSim κ rk c S ρ ρ' ((if vs.length = n then noEx (F vs S1) else .st).toS ρ _) (if vs'.length = n then _ else _)
    by_cases l : vs'.length = n
    · rw [if_pos l, if_pos (by rw [q.len.1, ← q.len.2]; exact l)]
      exact SSim.after (NxR.ofX er st x s1) (call_lent (er.mono st x) s1 hj hw h q)
    · rw [if_neg l]; trivial
/-- o.m(.., x, ..), o another name -/
def sMethP (j n c : Nat) (i0 : Nat) (G : FM) (a : AM) : SM := fun ρ S => match lk ρ i0 with
  | some v => if isInst c Z0 v then (a ρ S).toS ρ fun vs S1 => if (v :: vs).length = n then setP j ρ (G (v :: vs) S1) else .st else .st
  | none => .st
theorem ls_methP {kj ki : Kd} {a a' : AM} {i0 : Nat} (hj : κ[j]? = some kj) (hw : kj.own = true) (hi : κ[i0]? = some ki) (hc : ki ≠ .c) (hne : i0 ≠ j) (h : LF (.f :: κp) (.p i) F G) (ha : LArg κ j κp a a') :
    LS κ rk (sDrop (eMethN n c0 F (eVar i0) a)) (sMethP j n c0 i0 G a') := fun c Z S ρ ρ' er st => by
  unfold sDrop sMethP
  cases e0 : lk ρ' i0 with
  | none => trivial
  | some v' =>
    obtain ⟨v, e1, qv⟩ := (er.rel i0 _ hi).q hc e0
    dsimp only
    cases ec : isInst c0 Z0 v' with
    | false => trivial
    | true =>
      rw [if_pos rfl]
      have := ha.ok (n := S.next) er st (Nat.le_refl _)
      unfold eMethN
      rw [eVar_lk, e1]
      show SSim κ rk c S ρ ρ' ((if isInst c0 S v then _ else _ : Res Val).toS ρ _) _
      rw [inst_q qv ec, if_pos rfl]
      revert this
      cases a' ρ' Z with
      | st => intro _; trivial
      | ex d es Z1 =>
        rintro ⟨S1, e, x, s1⟩
        rw [e]
        exact ⟨ρ, S1, c, rfl, .ofX er st x s1⟩
      | ok vs' Z1 =>
        rintro ⟨vs, S1, e, x, s1, q⟩
        rw [e]
        show SSim κ rk c S ρ ρ' ((if (v :: vs).length = n then noEx (F (v :: vs) S1) else .st).toS ρ _) (if (v' :: vs').length = n then _ else _)
        by_cases l : (v' :: vs').length = n
        · rw [if_pos l, if_pos (by rw [← l]; simp [q.len.1, q.len.2])]
          exact SSim.after (NxR.ofX er st x s1) (call_lent (er.mono st x) s1 hj hw h (.f hi hc hne e1 e0 q))
        · rw [if_neg l]; trivial
/-- return e, where something is lent -/
def sRetP (j : Nat) (e : EM) : SM := fun ρ S => (e ρ S).toS ρ fun v S1 => match lk ρ j with
  | some u => .rt (.tup [v, u]) S1
  | none => .st
theorem ls_retP {e p : EM} (hj : κ[j]? = some .p) (h : LE RV κ e p) : LS κ (.p j) (sRet e) (sRetP j p) := fun c Z S ρ ρ' er st =>
  .toS er st (h c Z S ρ ρ' S.next er st (Nat.le_refl _)) fun v v' S1 Z1 x s1 q => by
    obtain rfl : v = v' := q
    have er1 := er.mono st x
    cases e : lk ρ' j with
    | none => trivial
    | some u =>
      rcases er1.rel j _ hj with ⟨h, _⟩ | ⟨k, w, a, b, hv⟩
      · rw [e] at h; cases h
      · rw [e] at b; cases b
        exact ⟨v, S1, c, rfl, XF.refl.sf, .refl, s1, k, u, hj, a, rfl, hv⟩
theorem ls_retNP (hj : κ[j]? = some .p) : LS κ (.p j) sRetN (sRetP j (eC .non)) := fun c Z S ρ ρ' er st => ls_retP (e := eC .non) hj le_c c Z S ρ ρ' er st
end
/-- x[i], x[k] = a pair -/
def sSetIx2P (j : Nat) (i i2 e : EM) : SM := fun ρ S => (e ρ S).toS ρ fun t S1 => match t with
  | .tup [u, w] => lsP (lk ρ j) fun xs => (i ρ S1).toS ρ fun a S2 => (match a with
    | .int m => (match ixN xs.length m with
      | some n => (i2 (ρ.set j (some (.lst (xs.set n u)))) S2).toS (ρ.set j (some (.lst (xs.set n u)))) fun b S3 => (match b with
        | .int m2 => (match ixN xs.length m2 with
          | some n2 => .nx ((ρ.set j (some (.lst (xs.set n u)))).set j (some (.lst ((xs.set n u).set n2 w)))) S3
          | none => .st)
        | _ => .st)
      | none => .st)
    | _ => .st)
  | _ => .st
theorem ls_setIx2 {κ : List Kd} {rk : RK} {j : Nat} {kd : Kd} {i i2 e ip ip2 p : EM} (hj : κ[j]? = some kd) (ho : kd.own = true) (hi : LE RV κ i ip) (hi2 : LE RV κ i2 ip2) (h : LE RV κ e p) : LS κ rk (sSetIx2 (eVar j) i (eVar j) i2 e) (sSetIx2P j ip ip2 p) := fun c Z S ρ ρ' er st =>
  .toS er st (h c Z S ρ ρ' S.next er st (Nat.le_refl _)) fun v v' S1 Z1 x s1 q => by
    obtain rfl : v = v' := q
    have er1 := er.mono st x
    cases v <;> first | trivial | skip
    rename_i l
    rcases l with _ | ⟨u, _ | ⟨w, _ | ⟨_, _⟩⟩⟩ <;> first | trivial | skip
    dsimp only
    by_cases hx : ∃ xs, lk ρ' j = some (.lst xs)
    · obtain ⟨xs, hx⟩ := hx
      obtain ⟨k, o, h1, h2, h3, h4⟩ := own_at er1 hj ho hx
      cases o with
      | lst ys =>
        cases h4
        rw [eVar_lk, h1, hx]
        show SSim κ rk c S1 ρ ρ' ((i ρ S1).toS ρ _) ((ip ρ' Z1).toS ρ' _)
        refine .toS er1 s1 (hi c Z1 S1 ρ ρ' S1.next er1 s1 (Nat.le_refl _)) fun a a' S2 Z2 x2 s2 q2 => ?_
        obtain rfl : a = a' := q2
        have er2 := er1.mono s1 x2
        cases a with
        | int m =>
          dsimp only
          unfold setIx
          dsimp only
          rw [xf_obj er1 s1 x2 h2 h3]
          dsimp only
          cases ixN xs.length m with
          | none => trivial
          | some n =>
            dsimp only
            have n1 := own_nx (Z := Z2) (o' := .lst (xs.set n u)) er2 s2 hj ho h1 h2 rfl
            refine SSim.after n1 ?_
            have e9 : ∀ S', eVar j ρ S' = .ok (.loc k) S' := fun S' => by rw [eVar_lk, h1]; rfl
            simp only [e9]
            show SSim κ rk c _ ρ _ ((i2 ρ _).toS ρ _) ((ip2 _ Z2).toS _ _)
            refine .toS n1.ev n1.st (hi2 c Z2 _ ρ _ _ n1.ev n1.st (Nat.le_refl _)) fun b b' S3 Z3 x3 s3 q3 => ?_
            obtain rfl : b = b' := q3
            have er3 := n1.ev.mono n1.st x3
            have hx3 : lk (ρ'.set j (some (.lst (xs.set n u)))) j = some (.lst (xs.set n u)) := lk_same (by rw [er.len']; exact get_lt hj)
            obtain ⟨k3, o3, g1, g2, g3, g4⟩ := own_at er3 hj ho hx3
            rw [h1] at g1; cases g1
            cases b with
            | int m2 =>
              cases o3 with
              | lst zs =>
                cases g4
                dsimp only
                rw [g3]
                dsimp only
                rw [List.length_set]
                cases ixN xs.length m2 with
                | none => trivial
                | some n2 => exact own_put er3 s3 hj ho h1 g2 rfl
              | dk l ks vs => cases l <;> cases g4
              | dt l ks vs => cases l <;> cases g4
              | ins c' vs => cases g4
            | _ => trivial
        | _ => trivial
      | dk l ks vs => cases l <;> cases h4
      | dt l ks vs => cases l <;> cases h4
      | ins c' vs => cases h4
    · rw [lsP_no fun xs z => hx ⟨xs, z⟩]; trivial
/-! ### dict comprehensions -/
def dcGoP {κ : Type} [DecidableEq κ] (kf : Val → Option κ) (tg : Tgt) (tst : BM) (ek ev : EM) (ρ0 : Ev) : List Val → List κ × List Val → Sto → Res (List κ × List Val)
  | [], kv, S => .ok kv S
  | v :: vs, kv, S => match tg.set v ρ0 with
    | some ρ1 => (noEx (tst ρ1 S)).bind fun k S1 => if k then (noEx (ek ρ1 S1)).bind fun a S2 => (noEx (ev ρ1 S2)).bind fun u S3 => (match kf a with
        | some q => if kv.1.length < sizeLine then dcGoP kf tg tst ek ev ρ0 vs (putS q u kv.1 kv.2) S3 else .st
        | none => .st) else dcGoP kf tg tst ek ev ρ0 vs kv S1
    | none => .st
def eDcP (it : IP) (tg : Tgt) (tst : BM) (ek ev : EM) (ws : List Nat) : EM := fun ρ S => (it ρ S).bind fun xs S1 => (dcGoP keyOf tg tst ek ev (wipeE ρ ws) xs ([], []) S1).bind fun kv S2 => .ok (.dk kv.1 kv.2) S2
section
variable {κ : List Kd} {tg : Tgt} {tst tst' : BM} {ek ek' ev ev' : EM} {ws : List Nat} {it : IM} {ip : IP}
theorem dcGo_ok (ht : allS κ tg.slots = true) (h1 : LE RV κ tst tst') (h2 : LE RV κ ek ek') (h3 : LE RV κ ev ev') {c : Cs} {Za S0 : Sto} {ρ0 ρ0' : Ev} {n0 : Nat} {src : Sto → Prop} (s0 : St c Za S0) (er : EvR κ c S0 ρ0 ρ0') (hn : S0.next ≤ n0) (f0 : Free c n0)
    (hs : (∀ S', src S') ∨ ∃ k o, k < S0.next ∧ Free c k ∧ S0.objs k = some o ∧ ∀ S', S'.objs k = some o → src S') :
    ∀ {vs : List Val} {kv kv1 : List Key × List Val} {Z S Z1 : Sto}, XF c S0 S → St c Z S → n0 < S.next → S.objs n0 = some (.dk false kv.1 kv.2) → dcGoP keyOf tg tst' ek' ev' ρ0' vs kv Z = .ok kv1 Z1 →
      ∃ S1, dcGo src tg tst ek ev n0 ρ0 vs S = .ok () S1 ∧ XF c S0 S1 ∧ St c Z1 S1 ∧ n0 < S1.next ∧ S1.objs n0 = some (.dk false kv1.1 kv1.2)
  | [], kv, kv1, Z, S, Z1, x, s, l, o, e => by
    unfold dcGoP at e
    cases e
    unfold dcGo
    have : src S := by
      rcases hs with hs | ⟨k, ob, a, b, d, q⟩
      · exact hs S
      · exact q S ((x.eq k a b).trans d)
    rw [if_pos this]
    exact ⟨S, rfl, x, s, l, o⟩
  | v :: vs, kv, kv1, Z, S, Z1, x, s, l, o, e => by
    unfold dcGoP at e
    unfold dcGo
    have : src S := by
      rcases hs with hs | ⟨k, ob, a, b, d, q⟩
      · exact hs S
      · exact q S ((x.eq k a b).trans d)
    rw [if_pos this]
    cases q : tg.set v ρ0' with
    | none => rw [q] at e; cases e
    | some ρ1' =>
      rw [q] at e
      obtain ⟨ρ1, t1, t2, _⟩ := tgt_ok (allS_ok ht) er q
      rw [t1]
      dsimp only at e ⊢
      obtain ⟨k, Z2, e1, e⟩ := bind_ok e
      have q1 := h1 c Z S ρ1 ρ1' S.next (t2.mono s0 x) s (Nat.le_refl _)
      rw [noEx_ok e1] at q1
      obtain ⟨k2, S2, r1, x2, s2, rfl⟩ := q1
      rw [r1]
      show ∃ S1, (if k2 = true then _ else _ : Res Unit) = _ ∧ _
      have o2 : S2.objs n0 = some (.dk false kv.1 kv.2) := (x2.eq n0 l f0).trans o
      have l2 := Nat.lt_of_lt_of_le l x2.le
      cases k2 with
      | false =>
        rw [if_neg Bool.false_ne_true] at e ⊢
        exact dcGo_ok ht h1 h2 h3 s0 er hn f0 hs (x.trans x2) s2 l2 o2 e
      | true =>
        rw [if_pos rfl] at e ⊢
        obtain ⟨a, Z3, e2, e⟩ := bind_ok e
        obtain ⟨u, Z4, e3, e⟩ := bind_ok e
        have q2 := h2 c Z2 S2 ρ1 ρ1' S2.next (t2.mono s0 (x.trans x2)) s2 (Nat.le_refl _)
        rw [noEx_ok e2] at q2
        obtain ⟨a2, S3, r2, x3, s3, rfl⟩ := q2
        have q3 := h3 c Z3 S3 ρ1 ρ1' S3.next (t2.mono s0 ((x.trans x2).trans x3)) s3 (Nat.le_refl _)
        rw [noEx_ok e3] at q3
        obtain ⟨u2, S4, r3, x4, s4, rfl⟩ := q3
        rw [r2]
        show ∃ S1, ((noEx (ev ρ1 S3)).bind _ : Res Unit) = _ ∧ _
        rw [r3]
        have o3 : S4.objs n0 = some (.dk false kv.1 kv.2) := (x4.eq n0 (Nat.lt_of_lt_of_le l2 x3.le) f0).trans ((x3.eq n0 l2 f0).trans o2)
        have l3 := Nat.lt_of_lt_of_le (Nat.lt_of_lt_of_le l2 x3.le) x4.le
        cases eq : keyOf a2 with
        | none => rw [eq] at e; cases e
        | some qk =>
          rw [eq] at e
          dsimp only at e
          by_cases hz : kv.1.length < sizeLine
          · rw [if_pos hz] at e
            simp only [Res.bind, noEx, o3, eq, if_pos hz]
            exact dcGo_ok ht h1 h2 h3 s0 er hn f0 hs ((((x.trans x2).trans x3).trans x4).putN hn) (s4.putN f0 l3) l3 put_at e
          · rw [if_neg hz] at e; cases e
theorem dcGoP_nx {κ : Type} [DecidableEq κ] {kf : Val → Option κ} {ρ0 : Ev} {i : Nat} {es : List Val} {Z2 : Sto} : ∀ {vs : List Val} {kv : List κ × List Val} {Z : Sto}, dcGoP kf tg tst ek ev ρ0 vs kv Z ≠ .ex i es Z2
  | [], kv, Z, h => by cases h
  | v :: vs, kv, Z, h => by
    unfold dcGoP at h
    split at h
    · rename_i ρ1 _
      cases e1 : noEx (tst ρ1 Z) with
      | ok k Z3 =>
        rw [e1] at h
        cases k with
        | false => exact dcGoP_nx h
        | true =>
          have h : ((noEx (ek ρ1 Z3)).bind _ : Res (List κ × List Val)) = .ex i es Z2 := h
          cases e2 : noEx (ek ρ1 Z3) with
          | ok u Z4 =>
            rw [e2] at h
            have h : ((noEx (ev ρ1 Z4)).bind _ : Res (List κ × List Val)) = .ex i es Z2 := h
            cases e3 : noEx (ev ρ1 Z4) with
            | ok us Z5 =>
              rw [e3] at h
              have h : (match kf u with | some q => _ | none => _ : Res (List κ × List Val)) = .ex i es Z2 := h
              cases e4 : kf u with
              | none => rw [e4] at h; cases h
              | some q =>
                rw [e4] at h
                dsimp only at h
                split at h
                · exact dcGoP_nx h
                · cases h
            | ex a b d => exact absurd e3 noEx_nx
            | st => rw [e3] at h; cases h
          | ex => exact absurd e2 noEx_nx
          | st => rw [e2] at h; cases h
      | ex => exact absurd e1 noEx_nx
      | st => rw [e1] at h; cases h
    · cases h
theorem le_dc (hi : LIe κ it ip) (ht : allS κ tg.slots = true) (hw : allS κ ws = true) (h1 : LE RV κ tst tst') (h2 : LE RV κ ek ek') (h3 : LE RV κ ev ev') : LE RF κ (eDc it tg tst ek ev ws) (eDcP ip tg tst' ek' ev' ws) := fun c Z S ρ ρ' n er s hn => by
  unfold eDc eDcP
  have := hi c Z S ρ ρ' n er s hn
  revert this
  cases ip ρ' Z with
  | st => intro _; trivial
  | ex i es Z1 => rintro ⟨S1, e, x, s1⟩; rw [e]; exact ⟨S1, rfl, x, s1⟩
  | ok xs Z1 =>
    rintro ⟨iv, S1, e, x, s1, rfl, hs⟩
    rw [e]
    show Sim c S n RF ((dcGo _ _ _ _ _ _ _ _ _).bind _) ((dcGoP _ _ _ _ _ _ _ _ _).bind _)
    cases q : dcGoP keyOf tg tst' ek' ev' (wipeE ρ' ws) iv.items ([], []) Z1 with
    | st => trivial
    | ex i es Z2 => exact absurd q dcGoP_nx
    | ok kv Z2 =>
      obtain ⟨xa, sa⟩ := s1.al (o := .dk false [] [])
      have er1 := (er.mono s x).wipe (ws := ws) (allS_ok hw)
      obtain ⟨S3, g1, g2, g3, g4, g5⟩ := dcGo_ok ht h1 h2 h3 s1 er1 (Nat.le_refl _) (fresh_free s1) hs (kv := ([], [])) xa sa (Nat.lt_succ_self _) alloc_at q
      rw [g1]
      exact ⟨_, _, rfl, x.trans g2, g3, S1.next, rfl, Nat.le_trans hn x.le, fresh_free s1, _, g5, rfl⟩
end
end PM

/-! PK, part d: the executor for parts b and c -/
namespace PM
open PySem PySem.Spec L2
theorem runBP_at {i n : Nat} {b : SM} {vs : List Val} {S : Sto} {P : Val → Sto → Prop} {X : XP} {kk : Kp (P, X)} : Rn (runBP i n b vs S) P X kk = Sn (b (vs.map Option.some ++ List.replicate (n - vs.length) none) S) ⟨fun ρ S => (match lk ρ i with
  | some u => P (.tup [.non, u]) S
  | none => False), P, fun _ _ => False, fun _ _ => False, fun c vs _ S => X c vs S⟩ := by
  unfold runBP
  cases b (vs.map Option.some ++ List.replicate (n - vs.length) none) S with
  | nx ρ S1 =>
    show Rn (match lk ρ i with | some u => .ok (.tup [.non, u]) S1 | none => .st) P X = (match lk ρ i with | some u => P (.tup [.non, u]) S1 | none => False)
    cases lk ρ i <;> rfl
  | _ => rfl
section
variable {ρ : Ev} {S : Sto} {X : XP} {D : En}
@[simp ↓] theorem rn_noX {α : Type} {p : Ev → Sto → Res α} {P : α → Sto → Prop} {kk : Kp (P, X)} : Rn (noX p ρ S) P X kk = Rn (p ρ S) P X0 := by
  unfold noX; cases p ρ S <;> rfl
def pop0R (v : Val) (ρ : Ev) (j : Nat) (S : Sto) : Res (Val × Ev) := match v with
  | .lst xs => (match xs[xs.length - 1]? with
    | some u => .ok (u, ρ.set j (some (.lst xs.dropLast))) S
    | none => .st)
  | _ => .st
@[simp ↓] theorem e_xpop0 {j : Nat} {P : Val × Ev → Sto → Prop} {kk : Kp (P, X)} : Rn (eXPop0 j ρ S) P X kk = Rn ((vr (lk ρ j) S).bind fun v S1 => pop0R v ρ j S1) P X := by
  unfold eXPop0
  cases lk ρ j with
  | none => rfl
  | some v => cases v <;> rfl
theorem pop0_snoc {xs : List Val} {u : Val} {j : Nat} : pop0R (.lst (xs ++ [u])) ρ j S = .ok (u, ρ.set j (some (.lst xs))) S := by
  unfold pop0R
  have : (xs ++ [u])[(xs ++ [u]).length - 1]? = some u := by simp
  simp only [this, List.dropLast_concat]
def popR (v w : Val) (ρ : Ev) (j : Nat) (S : Sto) : Res (Val × Ev) := match v, w with
  | .lst xs, .int i => if -(2 ^ 63) ≤ i ∧ i < 2 ^ 63 then (match seqIndex? i xs.length with
      | some n => (match xs[n]? with
        | some u => .ok (u, ρ.set j (some (.lst (xs.eraseIdx n)))) S
        | none => .st)
      | none => .st) else .st
  | _, _ => .st
/-- of a list alone -/
def onL {α : Type} (v : Val) (r : Res α) : Res α := match v with | .lst _ => r | _ => .st
@[simp ↓] theorem rn_onL {α : Type} {xs : List Val} {r : Res α} {P : α → Sto → Prop} {kk : Kp (P, X)} : Rn (onL (.lst xs) r) P X kk = Rn r P X := nr
@[simp ↓] theorem e_xpop {j : Nat} {i : EM} {P : Val × Ev → Sto → Prop} {kk : Kp (P, X)} : Rn (eXPop j i ρ S) P X kk = Rn ((vr (lk ρ j) S).bind fun v _ => onL v ((i ρ S).bind fun w S1 => popR v w ρ j S1)) P X := by
  unfold eXPop
  cases lk ρ j with
  | none => rfl
  | some v =>
    cases v <;> first | rfl | skip
    show Rn ((i ρ S).bind _) P X = Rn ((i ρ S).bind _) P X
    rw [rn_bind, rn_bind]
    refine Rn_ext fun w S1 => ?_
    cases w <;> rfl
theorem pop_at {xs : List Val} {i : Int} {u : Val} {j n : Nat} (h : i = (n : Int)) (hl : n < 2 ^ 62) (e : xs[n]? = some u) : popR (.lst xs) (.int i) ρ j S = .ok (u, ρ.set j (some (.lst (xs.eraseIdx n)))) S := by
  subst h
  have hn : n < xs.length := (List.getElem?_eq_some_iff.mp e).1
  unfold popR
  have h1 : seqIndex? (n : Int) xs.length = some n := by
    unfold seqIndex?
    simp [Int.not_lt.mpr (Int.natCast_nonneg n), hn]
  have h2 : (-(2 ^ 63) : Int) ≤ (n : Int) ∧ (n : Int) < 2 ^ 63 := ⟨by omega, by omega⟩
  simp only [if_pos h2, h1, e]
@[simp ↓] theorem e_xtup {q : AX} {P : Val × Ev → Sto → Prop} {kk : Kp (P, X)} : Rn (eXTup q ρ S) P X kk = Rn ((q ρ S).bind fun v S1 => if v.1.length ≤ sizeLine then .ok (.tup v.1, v.2) S1 else .st) P X := nr
@[simp ↓] theorem e_axlast {p : EX} {P : List Val × Ev → Sto → Prop} {kk : Kp (P, X)} : Rn (aXLast p ρ S) P X kk = Rn ((p ρ S).bind fun v S1 => .ok ([v.1], v.2) S1) P X := nr
@[simp ↓] theorem e_axcons {p : EM} {q : AX} {P : List Val × Ev → Sto → Prop} {kk : Kp (P, X)} : Rn (aXCons p q ρ S) P X kk = Rn ((p ρ S).bind fun u S1 => (q ρ S1).bind fun v S2 => .ok (u :: v.1, v.2) S2) P X := nr
@[simp ↓] theorem s_setX {i : Nat} {p : EX} {kk : Kp D} : Sn (sSetX i p ρ S) D kk = Sn ((p ρ S).toS ρ fun v S1 => .nx (v.2.set i (some v.1)) S1) D := nr
@[simp ↓] theorem s_asgX {t : Tgt} {p : EX} {kk : Kp D} : Sn (sAsgX t p ρ S) D kk = Sn ((p ρ S).toS ρ fun v S1 => match t.set v.1 v.2 with
  | some ρ1 => .nx ρ1 S1
  | none => .st) D := nr
@[simp ↓] theorem s_appX {j : Nat} {p : EX} {kk : Kp D} : Sn (sAppX j p ρ S) D kk = Sn (lsP (lk ρ j) fun _ => (p ρ S).toS ρ fun v S1 => lsP (lk v.2 j) fun xs => if xs.length < sizeLine then .nx (v.2.set j (some (.lst (xs ++ [v.1])))) S1 else .st) D := nr
@[simp ↓] theorem s_setIxX {j : Nat} {i : EM} {p : EX} {kk : Kp D} : Sn (sSetIxX j i p ρ S) D kk = Sn ((p ρ S).toS ρ fun v S1 => lsP (lk v.2 j) fun xs => (i v.2 S1).toS v.2 fun w S2 => match w with
  | .int m => (match ixN xs.length m with
    | some n => .nx (v.2.set j (some (.lst (xs.set n v.1)))) S2
    | none => .st)
  | _ => .st) D := nr
@[simp ↓] theorem s_setIx2P {j : Nat} {i i2 e : EM} {kk : Kp D} : Sn (sSetIx2P j i i2 e ρ S) D kk = Sn ((e ρ S).toS ρ fun t S1 => match t with
  | .tup [u, w] => lsP (lk ρ j) fun xs => (i ρ S1).toS ρ fun a S2 => (match a with
    | .int m => (match ixN xs.length m with
      | some n => (i2 (ρ.set j (some (.lst (xs.set n u)))) S2).toS (ρ.set j (some (.lst (xs.set n u)))) fun b S3 => (match b with
        | .int m2 => (match ixN xs.length m2 with
          | some n2 => .nx ((ρ.set j (some (.lst (xs.set n u)))).set j (some (.lst ((xs.set n u).set n2 w)))) S3
          | none => .st)
        | _ => .st)
      | none => .st)
    | _ => .st)
  | _ => .st) D := nr
/-- the owned dict behind d[y] = u, as a statement's end -/
def putE (o : Option Val) (w u : Val) (f : Val → SRes) : SRes := match o with
  | some d => (match putD d w u with
    | some d' => f d'
    | none => .st)
  | none => .st
@[simp ↓] theorem s_setKP {j : Nat} {i e : EM} {kk : Kp D} : Sn (sSetKP j i e ρ S) D kk = Sn ((e ρ S).toS ρ fun u S1 => (vr (lk ρ j) S1).toS ρ fun d _ => (i ρ S1).toS ρ fun w S2 => putE (some d) w u fun d' => .nx (ρ.set j (some d')) S2) D := by
  unfold sSetKP
  rw [sn_toS, sn_toS]
  refine Rn_ext fun u S1 => ?_
  cases lk ρ j with
  | none => rfl
  | some d => rfl
@[simp ↓] theorem s_callP {j n : Nat} {G : FM} {a : AM} {kk : Kp D} : Sn (sCallP j n G a ρ S) D kk = Sn ((a ρ S).toS ρ fun vs S1 => if vs.length = n then setP j ρ (G vs S1) else .st) D := nr
@[simp ↓] theorem s_methP {j n c i0 : Nat} {G : FM} {a : AM} {kk : Kp D} : Sn (sMethP j n c i0 G a ρ S) D kk = Sn ((vr (lk ρ i0) S).toS ρ fun v _ => if isInst c Z0 v then (a ρ S).toS ρ fun vs S1 => if (v :: vs).length = n then setP j ρ (G (v :: vs) S1) else .st else .st) D := by
  unfold sMethP
  cases lk ρ i0 <;> rfl
@[simp ↓] theorem s_setP {j : Nat} {r : Res Val} {kk : Kp D} : Sn (setP j ρ r) D kk = Rn r (fun v S => match v with
  | .tup [_, u] => D.nx (ρ.set j (some u)) S
  | _ => False) X0 := by
  unfold setP
  cases r with
  | ok v S =>
    cases v <;> first | rfl | skip
    rename_i xs
    rcases xs with _ | ⟨a, _ | ⟨b, _ | ⟨d, l⟩⟩⟩ <;> rfl
  | ex => rfl
  | st => rfl
@[simp ↓] theorem s_retP {j : Nat} {e : EM} {kk : Kp D} : Sn (sRetP j e ρ S) D kk = Sn ((e ρ S).toS ρ fun v S1 => match lk ρ j with
  | some u => .rt (.tup [v, u]) S1
  | none => .st) D := nr
theorem putS_le {kt : Type} [DecidableEq kt] {k : kt} {v : Val} : ∀ {ks : List kt} {vs : List Val}, (putS k v ks vs).1.length ≤ ks.length + 1
  | [], vs => by simp [putS]
  | a :: ks, [] => by simp [putS]
  | a :: ks, b :: vs => by
    have ih := putS_le (k := k) (v := v) (ks := ks) (vs := vs)
    simp only [putS]
    split
    · simp
    · simp only [List.length_cons]; omega
theorem putS_len {kt : Type} [DecidableEq kt] {k : kt} {v : Val} : ∀ {ks : List kt} {vs : List Val}, ks.length = vs.length → (putS k v ks vs).1.length = (putS k v ks vs).2.length
  | [], [], _ => rfl
  | [], _ :: _, h => by simp at h
  | _ :: _, [], h => by simp at h
  | a :: ks, b :: vs, h => by
    have hl : ks.length = vs.length := by simpa using h
    have ih := putS_len (k := k) (v := v) hl
    simp only [putS]
    split
    · simp [hl]
    · simp only [List.length_cons, ih]
/-! a dict comprehension over what is known -/
theorem dcGoP_map {α : Type} {kt : Type} [DecidableEq kt] {kf : Val → Option kt} {tg : Tgt} {tst : BM} {ek ev : EM} {ρ0 : Ev} {f : α → Val} {t : α → Bool} {k : α → kt} {u : α → Val} : ∀ {xs : List α} {kv : List kt × List Val}, kv.1.length + xs.length ≤ sizeLine → kv.1.length = kv.2.length →
    (∀ x ∈ xs, ∃ ρ1, tg.set (f x) ρ0 = some ρ1 ∧ tst ρ1 S = .ok (t x) S ∧ (t x = true → ∃ a, ek ρ1 S = .ok a S ∧ kf a = some (k x) ∧ ev ρ1 S = .ok (u x) S)) →
    dcGoP kf tg tst ek ev ρ0 (xs.map f) kv S = .ok ((xs.filter t).foldl (fun q x => putS (k x) (u x) q.1 q.2) kv) S
  | [], kv, _, _, _ => rfl
  | x :: xs, kv, hl, he, h => by
    obtain ⟨ρ1, h1, h2, h3⟩ := h x List.mem_cons_self
    rw [List.map_cons]
    unfold dcGoP
    rw [h1]
    dsimp only
    rw [h2]
    show (if t x = true then _ else _ : Res (List kt × List Val)) = _
    rw [List.length_cons] at hl
    cases ht : t x with
    | false =>
      rw [if_neg Bool.false_ne_true, List.filter_cons_of_neg (by rw [ht]; decide)]
      exact dcGoP_map (by omega) he fun y hy => h y (List.mem_cons_of_mem _ hy)
    | true =>
      obtain ⟨a, h4, h5, h6⟩ := h3 ht
      rw [if_pos rfl, List.filter_cons_of_pos ht, h4]
      show ((noEx (ev ρ1 S)).bind _ : Res (List kt × List Val)) = _
      rw [h6]
      show (match kf a with | some q => _ | none => _ : Res (List kt × List Val)) = _
      rw [h5]
      dsimp only
      rw [if_pos (by omega), List.foldl_cons]
      have pl : (putS (k x) (u x) kv.1 kv.2).1.length ≤ kv.1.length + 1 := putS_le
      exact dcGoP_map (kv := putS (k x) (u x) kv.1 kv.2) (by omega) (putS_len he) fun y hy => h y (List.mem_cons_of_mem _ hy)
end
end PM

namespace BK
open PySem PySem.Spec L2 PM
noncomputable def G__law_draws_2 : FM := runB 7
  (sSeq (sSet 2 (eLst false aNil))
    (sSeq (sSet 3 (eC (.int 0)))
    (sSeq (sForP (iSeqP (eCutP (eVar 0) oNone (oSome (eC (.int 63))))) (.name 4)
    (sSeq (sSet 5 (eBIP vAbs (aCons (eVar 4) aNil)))
    (sSeq (sIf (tB (eBinP vGe (eVar 5) (eBinP vPow (eC (.int 10)) (eC (.int 18))))) (sForP (iRange1P (eC (.int 24))) (.name 6)
    (sIf (tB (eBinP vGt (eVar 5) (eC (.int 0)))) (sSeq (sAppP 2 (eBinP vMod (eBIP vInt (aCons (eVar 5) aNil)) (eC (.int 1009))))
    (sSet 5 (eBinP vFdiv (eVar 5) (eC (.int 1009)))))
    sNext))
    (sSeq (sAppP 2 (eBinP vMod (eBIP vInt (aCons (eBinP (vAdd false) (eBinP (vAdd false) (eBinP vMul (eVar 5) (eC (.int 48271))) (eBinP vMul (eVar 3) (eC (.int 69621)))) (eC (.int 11))) aNil)) (eC (.int 65537))))
    (sAppP 2 (eBinP vMod (eBIP vInt (aCons (eBinP (vAdd false) (eBinP (vAdd false) (eBinP (vAdd false) (eBinP vMul (eVar 5) (eC (.int 16807))) (eBinP vMul (eVar 3) (eC (.int 40692)))) (eC (.int 7))) (eBinP vMul (eVar 5) (eVar 5))) aNil)) (eC (.int 65521))))))
    (sSet 3 (eBinP (vAdd false) (eVar 3) (eC (.int 1)))))))
    (sSeq (sForP (iRange1P (eVar 1)) (.name 6)
    (sIf (tB (eBinP vLt (eBIP vLen (aCons (eVar 2) aNil)) (eVar 1))) (sAppP 2 (eBinP vMod (eBIP vInt (aCons (eBinP (vAdd false) (eBinP (vAdd false) (eBinP vMul (eBIP vLen (aCons (eVar 2) aNil)) (eC (.int 69621))) (eBinP vMul (eC (.int 977)) (eVar 3))) (eBinP vMul (eBinP vMul (eVar 6) (eVar 6)) (eC (.int 31)))) aNil)) (eC (.int 65521))))
    sNext))
    (sRet (eCutP (eVar 2) oNone (oSome (eVar 1))))))))
noncomputable def G_is_line : FM := runB 2
  (sRet (eAnd (eBIP vIsi (aCons (eVar 0) (aCons (eC (.ty .int)) aNil))) (eAnd (eNot (eBIP vIsi (aCons (eVar 0) (aCons (eC (.ty .bl)) aNil)))) (eChainP vLe vLt (eC (.int 0)) (eVar 0) (eVar 1)))))
noncomputable def G_Net__checked__bx : FM := runB 3
  (sSeq (sIf (tOrM (tNotM (tTruP (eBIP vIsi (aCons (eVar 1) (aCons (eC (.ty .tup)) aNil))))) (tOrM (tB (eBinP vNe (eBIP vLen (aCons (eVar 1) aNil)) (eAttrP 22 0 (eVar 0)))) (tNotM (tTruP (eBIP vAll (aCons (eLcP (iSeqP (eVar 1)) (.name 2) tYesM (eCallN 2 G_is_line (aCons (eVar 2) (aCons (eC (.int 2)) aNil))) [2]) aNil)))))) sNever
    sNext)
    (sRet (eBIP (vList false) (aCons (eVar 1) aNil))))
noncomputable def G_taken : FM := runBP 1 3
  (sSeq (sForP (iSeqP (eBinP vIx (eVar 0) (eC (.int 1)))) (.name 2)
    (sIf (tB (eBinP vEq (eBinP vIx (eVar 1) (eVar 2)) (eC (.int 0)))) (sRetP 1 (eC .non))
    sNext))
    (sIf (tB (eBinP vEq (eBinP vIx (eVar 0) (eC (.int 0))) (eC (.str "turn")))) (sSetIxP 1 (eBinP vIx (eVar 0) (eC (.int 2))) (eBinP vSub (eC (.int 1)) (eBinP vIx (eVar 1) (eBinP vIx (eVar 0) (eC (.int 2))))))
    (sSetIx2P 1 (eBinP vIx (eVar 0) (eC (.int 2))) (eBinP vIx (eVar 0) (eC (.int 3))) (eTup (aCons (eBinP vIx (eVar 1) (eBinP vIx (eVar 0) (eC (.int 3)))) (aCons (eBinP vIx (eVar 1) (eBinP vIx (eVar 0) (eC (.int 2)))) aNil))))))
noncomputable def G_Net_run : FM := runB 4
  (sSeq (sSet 2 (eMethP 2 22 G_Net__checked__bx (eVar 0) (aCons (eVar 1) aNil)))
    (sSeq (sForP (iSeqP (eAttrP 22 1 (eVar 0))) (.name 3)
    (sCallP 2 2 G_taken (aCons (eVar 3) (aCons (eVar 2) aNil))))
    (sRet (eBIP vTuple (aCons (eVar 2) aNil)))))
noncomputable def G_words : FM := runB 3
  (sRet (eLcP (iRange1P (eBinP vShl (eC (.int 1)) (eVar 0))) (.name 2) tYesM (eBIP vTuple (aCons (eLcP (iRange1P (eVar 0)) (.name 1) tYesM (eBinP vAnd (eBinP vShr (eVar 2) (eBinP vSub (eBinP vSub (eVar 0) (eC (.int 1))) (eVar 1))) (eC (.int 1))) [1]) aNil)) [2]))
noncomputable def G_table_ofX : FM := runB 6
  (sSeq (sIf (tOrM (tNotM (tTruP (eCallN 2 G_is_line (aCons (eVar 1) (aCons (eBinP (vAdd false) (eC (.int 6)) (eC (.int 1))) aNil))))) (tOrM (tNotM (tTruP (eCallN 2 G_is_line (aCons (eVar 2) (aCons (eBinP (vAdd false) (eC (.int 6)) (eC (.int 1))) aNil))))) (tOrM (tB (eBinP vLt (eBIP vMin2 (aCons (eVar 1) (aCons (eVar 2) aNil))) (eC (.int 1)))) (tB (eBinP vLt (eAttrP 22 0 (eVar 0)) (eBinP (vAdd false) (eVar 1) (eVar 2))))))) (sRaise 23)
    sNext)
    (sSeq (sSet 3 (eLst false aNil))
    (sSeq (sForP (iSeqP (eCallN 1 G_words (aCons (eVar 1) aNil))) (.name 4)
    (sSeq (sSet 5 (eMethP 2 22 G_Net_run (eVar 0) (aCons (eBinP (vAdd false) (eVar 4) (eBinP vRepT (eTup (aCons (eC (.int 0)) aNil)) (eBinP vSub (eAttrP 22 0 (eVar 0)) (eVar 1)))) aNil)))
    (sSeq (sIf (tOrM (tB (eBinP vNe (eCutP (eVar 5) oNone (oSome (eVar 1))) (eVar 4))) (tTruP (eBIP vAnyI (aCons (eCutP (eVar 5) (oSome (eBinP (vAdd false) (eVar 1) (eVar 2))) oNone) aNil)))) (sRaise 24)
    sNext)
    (sAppP 3 (eCutP (eVar 5) (oSome (eVar 1)) (oSome (eBinP (vAdd false) (eVar 1) (eVar 2))))))))
    (sRet (eVar 3)))))
noncomputable def G__law_found_2 : FM := runB 4
  (sTryP (sRet (eCallXN 3 G_table_ofX (aCons (eVar 0) (aCons (eVar 1) (aCons (eVar 2) aNil))))) 3 [] [(23, (sRet (eBMP isStr vJoin (eC (.str "")) (aCons (eLst false (aCons (eBinP vIx (eLst false (aCons (eC (.str "")) (aCons (eC (.str "bad")) aNil))) (eBIP vInt (aCons (eIsErr 3 (eC (.cls 23)) true) aNil))) (aCons (eBinP vIx (eLst false (aCons (eC (.str "")) (aCons (eC (.str "dirty")) aNil))) (eBIP vInt (aCons (eIsErr 3 (eC (.cls 24)) false) aNil))) aNil))) aNil)))), (24, (sRet (eBMP isStr vJoin (eC (.str "")) (aCons (eLst false (aCons (eBinP vIx (eLst false (aCons (eC (.str "")) (aCons (eC (.str "bad")) aNil))) (eBIP vInt (aCons (eIsErr 3 (eC (.cls 23)) false) aNil))) (aCons (eBinP vIx (eLst false (aCons (eC (.str "")) (aCons (eC (.str "dirty")) aNil))) (eBIP vInt (aCons (eIsErr 3 (eC (.cls 24)) true) aNil))) aNil))) aNil))))])
noncomputable def G_is_gate : FM := runB 6
  (sSeq (sIf (tOrM (tNotM (tTruP (eBIP vIsi (aCons (eVar 0) (aCons (eC (.ty .tup)) aNil))))) (tOrM (tB (eBinP vLt (eBIP vLen (aCons (eVar 0) aNil)) (eC (.int 3)))) (tNotM (tTruP (eBIP vIsi (aCons (eBinP vIx (eVar 0) (eC (.int 1))) (aCons (eC (.ty .tup)) aNil))))))) (sRet (eC (.bl false)))
    sNext)
    (sSeq (sIf (tOrM (tB (eBinP (vInW true) (eBinP vIx (eVar 0) (eC (.int 0))) (eTup (aCons (eC (.str "turn")) (aCons (eC (.str "swap")) aNil))))) (tB (eBinP vNe (eBIP vLen (aCons (eVar 0) aNil)) (eIf (tB (eBinP vEq (eBinP vIx (eVar 0) (eC (.int 0))) (eC (.str "turn")))) (eC (.int 3)) (eC (.int 4)))))) (sRet (eC (.bl false)))
    sNext)
    (sSeq (sSet 2 (eBinP (vAdd false) (eBinP vIx (eVar 0) (eC (.int 1))) (eCutP (eVar 0) (oSome (eC (.int 2))) oNone)))
    (sSeq (sIf (tNotM (tTruP (eBIP vAll (aCons (eLcP (iSeqP (eVar 2)) (.name 4) tYesM (eCallN 2 G_is_line (aCons (eVar 4) (aCons (eVar 1) aNil))) [4]) aNil)))) (sRet (eC (.bl false)))
    sNext)
    (sSeq (sSet 3 (eBIP vAll (aCons (eLcP (iRange1P (eBinP vSub (eBIP vLen (aCons (eBinP vIx (eVar 0) (eC (.int 1))) aNil)) (eC (.int 1)))) (.name 5) tYesM (eBinP vLt (eBinP vIx (eBinP vIx (eVar 0) (eC (.int 1))) (eVar 5)) (eBinP vIx (eBinP vIx (eVar 0) (eC (.int 1))) (eBinP (vAdd false) (eVar 5) (eC (.int 1))))) [5]) aNil)))
    (sRet (eAnd (eVar 3) (eBinP vEq (eBIP vLenD (aCons (eDcP (iSeqP (eVar 2)) (.name 4) tYesM (eVar 4) (eC (.bl true)) [4]) aNil)) (eBIP vLen (aCons (eVar 2) aNil))))))))))
noncomputable def G_Net___init__ : FM := runBP 0 4
  (sSeq (sIf (tOrM (tNotM (tTruP (eCallN 2 G_is_line (aCons (eVar 1) (aCons (eBinP (vAdd false) (eC (.int 400)) (eC (.int 1))) aNil))))) (tOrM (tB (eBinP vEq (eVar 1) (eC (.int 0)))) (tB (eBinP vGt (eBIP vLen (aCons (eVar 2) aNil)) (eC (.int 100000)))))) sNever
    sNext)
    (sSeq (sIf (tNotM (tTruP (eBIP vAll (aCons (eLcP (iSeqP (eVar 2)) (.name 3) tYesM (eCallN 2 G_is_gate (aCons (eVar 3) (aCons (eVar 1) aNil))) [3]) aNil)))) sNever
    sNext)
    (sSeq (sAttrP 22 0 0 (eVar 1))
    (sAttrP 22 1 0 (eBIP (vList false) (aCons (eVar 2) aNil))))))
noncomputable def G_Net_gates : FM := runB 1
  (sRet (eBIP (vList false) (aCons (eAttrP 22 1 (eVar 0)) aNil)))
noncomputable def G__law_taken : FM := runB 7
  (sSeq (sSet 2 (eBIP (vList false) (aCons (eVar 1) aNil)))
    (sSeq (sForP (iSeqP (eVar 0)) (.name 3)
    (sIf (tTruP (eBIP vAll (aCons (eLcP (iSeqP (eBinP vIx (eVar 3) (eC (.int 1)))) (.name 6) tYesM (eBinP vEq (eBinP vIx (eVar 2) (eVar 6)) (eC (.int 1))) [6]) aNil))) (sIf (tB (eBinP vEq (eBinP vIx (eVar 3) (eC (.int 0))) (eC (.str "turn")))) (sSetIxP 2 (eBinP vIx (eVar 3) (eC (.int 2))) (eBinP vSub (eC (.int 1)) (eBinP vIx (eVar 2) (eBinP vIx (eVar 3) (eC (.int 2))))))
    (sSeq (sPar 4 5 (aCons (eBinP vIx (eVar 2) (eBinP vIx (eVar 3) (eC (.int 2)))) (aCons (eBinP vIx (eVar 2) (eBinP vIx (eVar 3) (eC (.int 3)))) aNil)))
    (sSeq (sSetIxP 2 (eBinP vIx (eVar 3) (eC (.int 2))) (eVar 5))
    (sSetIxP 2 (eBinP vIx (eVar 3) (eC (.int 3))) (eVar 4)))))
    sNext))
    (sRet (eBIP vTuple (aCons (eVar 2) aNil)))))
noncomputable def G__law_words : FM := runB 5
  (sSeq (sSet 1 (eLst false (aCons (eTup aNil) aNil)))
    (sSeq (sForP (iRange1P (eVar 0)) (.name 2)
    (sSeq (sSet 3 (eLst false aNil))
    (sSeq (sForP (iSeqP (eVar 1)) (.name 4)
    (sSet 3 (eBinP (vAdd false) (eVar 3) (eLst false (aCons (eBinP (vAdd false) (eVar 4) (eTup (aCons (eC (.int 0)) aNil))) (aCons (eBinP (vAdd false) (eVar 4) (eTup (aCons (eC (.int 1)) aNil))) aNil))))))
    (sSet 1 (eVar 3)))))
    (sRet (eVar 1))))
noncomputable def G__law_due : FM := runB 7
  (sSeq (sIf (tOrM (tB (eBinP vLt (eVar 2) (eC (.int 1)))) (tOrM (tB (eBinP vGt (eVar 2) (eC (.int 6)))) (tOrM (tB (eBinP vLt (eVar 3) (eC (.int 1)))) (tOrM (tB (eBinP vGt (eVar 3) (eC (.int 6)))) (tB (eBinP vLt (eVar 1) (eBinP (vAdd false) (eVar 2) (eVar 3)))))))) (sRet (eC (.str "bad")))
    sNext)
    (sSeq (sSet 4 (eLst false aNil))
    (sSeq (sForP (iSeqP (eCallN 1 G__law_words (aCons (eVar 2) aNil))) (.name 5)
    (sSeq (sSet 6 (eCallN 2 G__law_taken (aCons (eVar 0) (aCons (eBinP (vAdd false) (eVar 5) (eBinP vRepT (eTup (aCons (eC (.int 0)) aNil)) (eBinP vSub (eVar 1) (eVar 2)))) aNil))))
    (sSeq (sIf (tOrM (tB (eBinP vNe (eCutP (eVar 6) oNone (oSome (eVar 2))) (eVar 5))) (tB (eBinP (vInW false) (eC (.int 1)) (eCutP (eVar 6) (oSome (eBinP (vAdd false) (eVar 2) (eVar 3))) oNone)))) (sRet (eC (.str "dirty")))
    sNext)
    (sAppP 4 (eCutP (eVar 6) (oSome (eVar 2)) (oSome (eBinP (vAdd false) (eVar 2) (eVar 3))))))))
    (sRet (eVar 4)))))
noncomputable def G__law_gates : FM := runB 13
  (sSeq (sSet 4 (eLst false aNil))
    (sSeq (sForP (iRange1P (eVar 2)) (.name 5)
    (sSeq (sPar 6 7 (aCons (eBinP vIx (eVar 0) (eBinP (vAdd false) (eVar 1) (eBinP vMul (eC (.int 2)) (eVar 5)))) (aCons (eBinP vIx (eVar 0) (eBinP (vAdd false) (eBinP (vAdd false) (eVar 1) (eBinP vMul (eC (.int 2)) (eVar 5))) (eC (.int 1)))) aNil)))
    (sSeq (sSet 8 (eListRP (eC (.int 0)) (eVar 3)))
    (sSeq (sSetX 9 (noX (eXPop 8 (eBinP vMod (eVar 6) (eVar 3)))))
    (sSeq (sSet 10 (eTup (aCons (eC (.str "turn")) (aCons (eTup aNil) (aCons (eVar 9) aNil)))))
    (sSeq (sIf (tAndM (tB (eBinP vEq (eBinP vMod (eBinP vFdiv (eVar 6) (eVar 3)) (eC (.int 3))) (eC (.int 0)))) (tB (eBinP vGt (eBIP vLen (aCons (eVar 8) aNil)) (eC (.int 0))))) (sSetX 10 (noX (eXTup (aXCons (eC (.str "swap")) (aXCons (eTup aNil) (aXCons (eVar 9) (aXLast (eXPop 8 (eBinP vMod (eBinP vFdiv (eVar 6) (eC (.int 64))) (eBIP vLen (aCons (eVar 8) aNil)))))))))))
    sNext)
    (sSeq (sSet 11 (eLst false aNil))
    (sSeq (sForP (iRange1P (eBinP vMod (eBinP vFdiv (eVar 6) (eC (.int 512))) (eC (.int 4)))) (.name 12)
    (sIf (tB (eBinP vGt (eBIP vLen (aCons (eVar 8) aNil)) (eC (.int 0)))) (sAppX 11 (noX (eXPop 8 (eBinP vMod (eBinP vFdiv (eVar 7) (eBinP (vAdd false) (eVar 12) (eC (.int 1)))) (eBIP vLen (aCons (eVar 8) aNil))))))
    sNext))
    (sAppP 4 (eBinP (vAdd false) (eTup (aCons (eBinP vIx (eVar 10) (eC (.int 0))) (aCons (eBIP vTuple (aCons (eBIP (vSortB false) (aCons (eVar 11) aNil)) aNil)) aNil))) (eCutP (eVar 10) (oSome (eC (.int 2))) oNone)))))))))))
    (sRet (eVar 4))))
noncomputable def G_law_21 : FM := runB 9
  (sSeq (sSet 1 (eCallN 2 G__law_draws_2 (aCons (eVar 0) (aCons (eC (.int 60)) aNil))))
    (sSeq (sSet 2 (eBinP (vAdd false) (eC (.int 2)) (eBinP vMod (eBinP vIx (eVar 1) (eC (.int 50))) (eC (.int 6)))))
    (sSeq (sAsg (.tup [(.name 3), (.name 4)]) (eTup (aCons (eBinP vMod (eBinP vIx (eVar 1) (eC (.int 51))) (eC (.int 5))) (aCons (eBinP vMod (eBinP vIx (eVar 1) (eC (.int 52))) (eC (.int 5))) aNil))))
    (sSeq (sSet 5 (eCallN 4 G__law_gates (aCons (eVar 1) (aCons (eC (.int 0)) (aCons (eBinP vMod (eBinP vIx (eVar 1) (eC (.int 53))) (eC (.int 9))) (aCons (eVar 2) aNil))))))
    (sSeq (sIf (tB (eBinP vGt (eBinP vMod (eBinP vIx (eVar 1) (eC (.int 54))) (eC (.int 3))) (eC (.int 0)))) (sSet 5 (eLcP (iSeqP (eVar 5)) (.name 8) (tAndM (tB (eBinP vGe (eBIP (vBest min) (aCons (eCutP (eVar 8) (oSome (eC (.int 2))) oNone) aNil)) (eVar 3))) (tB (eBinP vLt (eBIP (vBest max) (aCons (eCutP (eVar 8) (oSome (eC (.int 2))) oNone) aNil)) (eBinP (vAdd false) (eVar 3) (eVar 4))))) (eVar 8) [8]))
    sNext)
    (sSeq (sIf (tB (eBinP vEq (eBinP vMod (eBinP vIx (eVar 1) (eC (.int 55))) (eC (.int 12))) (eC (.int 0)))) (sAsg (.tup [(.name 3), (.name 4)]) (eBinP vIx (eLst false (aCons (eTup (aCons (eC (.int 7)) (aCons (eC (.int 1)) aNil))) (aCons (eTup (aCons (eC (.int 1)) (aCons (eC (.int 7)) aNil))) (aCons (eTup (aCons (eC (.int 0)) (aCons (eC (.int 1)) aNil))) (aCons (eTup (aCons (eC (.int 1)) (aCons (eC (.int 0)) aNil))) (aCons (eTup (aCons (eUnP vNeg (eC (.int 1))) (aCons (eC (.int 1)) aNil))) aNil)))))) (eBinP vMod (eBinP vIx (eVar 1) (eC (.int 56))) (eC (.int 5)))))
    sNext)
    (sSeq (sSet 6 (eMakeP 3 22 G_Net___init__ (aCons (eVar 2) (aCons (eVar 5) aNil))))
    (sSeq (sSet 7 (eCallN 3 G__law_found_2 (aCons (eVar 6) (aCons (eVar 3) (aCons (eVar 4) aNil)))))
    (sRet (eAnd (eBinP vEq (eVar 7) (eCallN 4 G__law_due (aCons (eVar 5) (aCons (eVar 2) (aCons (eVar 3) (aCons (eVar 4) aNil)))))) (eBinP vEq (eMethP 1 22 G_Net_gates (eVar 6) aNil) (eVar 5))))))))))))
noncomputable def G_Net__checked : FM := runB 3
  (sSeq (sIf (tOrM (tNotM (tTruP (eBIP vIsi (aCons (eVar 1) (aCons (eC (.ty .tup)) aNil))))) (tOrM (tB (eBinP vNe (eBIP vLen (aCons (eVar 1) aNil)) (eAttrP 22 0 (eVar 0)))) (tNotM (tTruP (eBIP vAll (aCons (eLcP (iSeqP (eVar 1)) (.name 2) tYesM (eCallN 2 G_is_line (aCons (eVar 2) (aCons (eC (.int 2)) aNil))) [2]) aNil)))))) sNever
    sNext)
    (sRet (eBIP (vList false) (aCons (eVar 1) aNil))))
end BK

/-! PK, part e: what a suite may ask -/
namespace PM
open PySem PySem.Spec L2
theorem q_bind {α β : Type} {r : Res α} {g : α → Sto → Res β} {S : Sto} {v : β} {S1 : Sto} (h : r.bind g = .ok v S1) (h1 : ∀ a S', r = .ok a S' → S' = S) (h2 : ∀ a, g a S = .ok v S1 → S1 = S) : S1 = S := by
  cases r with
  | ok a S' =>
    obtain rfl := h1 a S' rfl
    exact h2 a h
  | ex => cases h
  | st => cases h
theorem q_lst {r : AM} (h : Qe r) : Qe (eLst false r) := fun ρ S v S1 e => by
  unfold eLst at e
  refine q_bind e (fun a S' => h ρ S a S') fun a e => ?_
  split at e
  · cases e; rfl
  · cases e
theorem vIx_st {v w u : Val} {S S1 : Sto} (h : vIx v w S = .ok u S1) : S1 = S := by
  unfold vIx at h
  split at h
  · split at h <;> cases h; rfl
  · split at h <;> cases h; rfl
  · split at h
    · split at h <;> cases h; rfl
    · cases h
  · cases h
theorem q_ix {a b : EM} (h : Qe a) (h2 : Qe b) : Qe (eBin vIx a b) := fun ρ S v S1 e => by
  unfold eBin at e
  exact q_bind e (fun x S' => h ρ S x S') fun x e => q_bind e (fun y S' => h2 ρ S y S') fun y e => vIx_st e
theorem q_int {r : AM} (h : Qe r) : Qe (eBI vInt r) := fun ρ S v S1 e => by
  unfold eBI at e
  refine q_bind e (fun x S' => h ρ S x S') fun x e => ?_
  unfold vInt at e
  split at e <;> first | (cases e; rfl) | cases e
theorem q_join {o : EM} {r : AM} (h : Qe o) (h2 : Qe r) : Qe (eBM isStr vJoin o r) := fun ρ S v S1 e => by
  unfold eBM at e
  refine q_bind e (fun x S' => h ρ S x S') fun x e => ?_
  split at e
  · refine q_bind e (fun y S' => h2 ρ S y S') fun y e => ?_
    unfold vJoin at e
    split at e <;> (repeat' first | (cases e; rfl) | (cases e; done) | split at e)
  · cases e
end PM

namespace K51
open PySem PySem.Spec L2 PM BK
def topS (i : Nat) : Stmt := PySem.Challenge.pw_backstair_k51_clean_nets.main.body.getD i (.Pass ⟨0, 0, 0, 0⟩)
abbrev s__law_draws : Stmt := topS 18
abbrev N__law_draws : List Str := ["_law_script", "_law_many", "_law_draws_here", "_law_at", "_law_cell", "_law_number", "_law_k"]
theorem sc__law_draws : FnScope N__law_draws ["_law_script", "_law_many"] (defScope s__law_draws) := ⟨rfl, rfl, rfl, by decide +kernel, rfl, by decide +kernel, by decide +kernel⟩
abbrev s__law_gates : Stmt := topS 20
abbrev N__law_gates : List Str := ["_law_draws_here", "_law_at", "_law_many", "_law_lines", "_law_gates_here", "_law_k", "_law_draw", "_law_more", "_law_left", "_law_i", "_law_gate", "_law_controls", "_law_j"]
theorem sc__law_gates : FnScope N__law_gates ["_law_draws_here", "_law_at", "_law_many", "_law_lines"] (defScope s__law_gates) := ⟨rfl, rfl, rfl, by decide +kernel, rfl, by decide +kernel, by decide +kernel⟩
abbrev s_is_line : Stmt := topS 9
abbrev N_is_line : List Str := ["value", "lines"]
theorem sc_is_line : FnScope N_is_line ["value", "lines"] (defScope s_is_line) := ⟨rfl, rfl, rfl, by decide +kernel, rfl, by decide +kernel, by decide +kernel⟩
abbrev s_is_gate : Stmt := topS 10
abbrev N_is_gate : List Str := ["gate", "lines", "used", "ascending", "line", "k"]
theorem sc_is_gate : FnScope N_is_gate ["gate", "lines"] (defScope s_is_gate) := ⟨rfl, rfl, rfl, by decide +kernel, rfl, by decide +kernel, by decide +kernel⟩
abbrev s_Net___init__ : Stmt := inClass (topS 12) 0
abbrev N_Net___init__ : List Str := ["self", "lines", "gates", "gate"]
theorem sc_Net___init__ : FnScope N_Net___init__ ["self", "lines", "gates"] (defScope s_Net___init__) := ⟨rfl, rfl, rfl, by decide +kernel, rfl, by decide +kernel, by decide +kernel⟩
abbrev s_words : Stmt := topS 15
abbrev N_words : List Str := ["count", "k", "number"]
theorem sc_words : FnScope N_words ["count"] (defScope s_words) := ⟨rfl, rfl, rfl, by decide +kernel, rfl, by decide +kernel, by decide +kernel⟩
abbrev s_Net__checked : Stmt := inClass (topS 12) 2
abbrev N_Net__checked : List Str := ["self", "bits", "bit"]
theorem sc_Net__checked : FnScope N_Net__checked ["self", "bits"] (defScope s_Net__checked) := ⟨rfl, rfl, rfl, by decide +kernel, rfl, by decide +kernel, by decide +kernel⟩
abbrev s_taken : Stmt := topS 11
abbrev N_taken : List Str := ["gate", "bits", "line"]
theorem sc_taken : FnScope N_taken ["gate", "bits"] (defScope s_taken) := ⟨rfl, rfl, rfl, by decide +kernel, rfl, by decide +kernel, by decide +kernel⟩
abbrev s_Net_run : Stmt := inClass (topS 12) 3
abbrev N_Net_run : List Str := ["self", "bits", "row", "gate"]
theorem sc_Net_run : FnScope N_Net_run ["self", "bits"] (defScope s_Net_run) := ⟨rfl, rfl, rfl, by decide +kernel, rfl, by decide +kernel, by decide +kernel⟩
abbrev s_table_of : Stmt := topS 16
abbrev N_table_of : List Str := ["net", "k", "m", "found", "word", "bits"]
theorem sc_table_of : FnScope N_table_of ["net", "k", "m"] (defScope s_table_of) := ⟨rfl, rfl, rfl, by decide +kernel, rfl, by decide +kernel, by decide +kernel⟩
abbrev s__law_found : Stmt := topS 25
abbrev N__law_found : List Str := ["_law_net", "_law_k", "_law_m", "e"]
theorem sc__law_found : FnScope N__law_found ["_law_net", "_law_k", "_law_m"] (defScope s__law_found) := ⟨rfl, rfl, rfl, by decide +kernel, rfl, by decide +kernel, by decide +kernel⟩
abbrev s__law_words : Stmt := topS 22
abbrev N__law_words : List Str := ["_law_many", "_law_found_here", "_law_k", "_law_longer", "_law_word"]
theorem sc__law_words : FnScope N__law_words ["_law_many"] (defScope s__law_words) := ⟨rfl, rfl, rfl, by decide +kernel, rfl, by decide +kernel, by decide +kernel⟩
abbrev s__law_taken : Stmt := topS 21
abbrev N__law_taken : List Str := ["_law_gates_here", "_law_bits", "_law_row", "_law_gate", "_law_first", "_law_second", "_law_line"]
theorem sc__law_taken : FnScope N__law_taken ["_law_gates_here", "_law_bits"] (defScope s__law_taken) := ⟨rfl, rfl, rfl, by decide +kernel, rfl, by decide +kernel, by decide +kernel⟩
abbrev s__law_due : Stmt := topS 24
abbrev N__law_due : List Str := ["_law_gates_here", "_law_lines", "_law_k", "_law_m", "_law_found_here", "_law_word", "_law_bits"]
theorem sc__law_due : FnScope N__law_due ["_law_gates_here", "_law_lines", "_law_k", "_law_m"] (defScope s__law_due) := ⟨rfl, rfl, rfl, by decide +kernel, rfl, by decide +kernel, by decide +kernel⟩
abbrev s_Net_gates : Stmt := inClass (topS 12) 1
abbrev N_Net_gates : List Str := ["self"]
theorem sc_Net_gates : FnScope N_Net_gates ["self"] (defScope s_Net_gates) := ⟨rfl, rfl, rfl, by decide +kernel, rfl, by decide +kernel, by decide +kernel⟩
abbrev s_law : Stmt := topS 26
abbrev N_law : List Str := ["_law_script", "_law_draws_here", "_law_lines", "_law_k", "_law_m", "_law_gates_here", "_law_net", "_law_found_here", "_law_gate"]
theorem sc_law : FnScope N_law ["_law_script"] (defScope s_law) := ⟨rfl, rfl, rfl, by decide +kernel, rfl, by decide +kernel, by decide +kernel⟩
/-! ### over the store -/
noncomputable def B__law_draws : SM :=
  (sSeq (sSet 2 (eLst true aNil)) (sSeq (sSet 3 (eC (.int 0))) (sSeq (sFor (iSeq (eCut false (eVar 0) oNone (oSome (eC (.int 63))))) (.name 4) (sSeq (sSet 5 (eBI vAbs (aCons (eVar 4) aNil))) (sSeq (sIf (tB (eBin vGe (eVar 5) (eBin vPow (eC (.int 10)) (eC (.int 18))))) (sFor (iRange1 (eC (.int 24))) (.name 6) (sIf (tB (eBin vGt (eVar 5) (eC (.int 0)))) (sSeq (sDrop (eBM isLst vAppend (eVar 2) (aCons (eBin vMod (eBI vInt (aCons (eVar 5) aNil)) (eC (.int 1009))) aNil))) (sSet 5 (eBin vFdiv (eVar 5) (eC (.int 1009))))) sNext)) (sSeq (sDrop (eBM isLst vAppend (eVar 2) (aCons (eBin vMod (eBI vInt (aCons (eBin (vAdd false) (eBin (vAdd false) (eBin vMul (eVar 5) (eC (.int 48271))) (eBin vMul (eVar 3) (eC (.int 69621)))) (eC (.int 11))) aNil)) (eC (.int 65537))) aNil))) (sDrop (eBM isLst vAppend (eVar 2) (aCons (eBin vMod (eBI vInt (aCons (eBin (vAdd false) (eBin (vAdd false) (eBin (vAdd false) (eBin vMul (eVar 5) (eC (.int 16807))) (eBin vMul (eVar 3) (eC (.int 40692)))) (eC (.int 7))) (eBin vMul (eVar 5) (eVar 5))) aNil)) (eC (.int 65521))) aNil))))) (sSet 3 (eBin (vAdd false) (eVar 3) (eC (.int 1))))))) (sSeq (sFor (iRange1 (eVar 1)) (.name 6) (sIf (tB (eBin vLt (eBI vLen (aCons (eVar 2) aNil)) (eVar 1))) (sDrop (eBM isLst vAppend (eVar 2) (aCons (eBin vMod (eBI vInt (aCons (eBin (vAdd false) (eBin (vAdd false) (eBin vMul (eBI vLen (aCons (eVar 2) aNil)) (eC (.int 69621))) (eBin vMul (eC (.int 977)) (eVar 3))) (eBin vMul (eBin vMul (eVar 6) (eVar 6)) (eC (.int 31)))) aNil)) (eC (.int 65521))) aNil))) sNext)) (sRet (eCut false (eVar 2) oNone (oSome (eVar 1))))))))
noncomputable def F__law_draws : FM := runB 7 B__law_draws
noncomputable def B__law_gates : SM :=
  (sSeq (sSet 4 (eLst true aNil)) (sSeq (sFor (iRange1 (eVar 2)) (.name 5) (sSeq (sPar 6 7 (aCons (eBin vIx (eVar 0) (eBin (vAdd false) (eVar 1) (eBin vMul (eC (.int 2)) (eVar 5)))) (aCons (eBin vIx (eVar 0) (eBin (vAdd false) (eBin (vAdd false) (eVar 1) (eBin vMul (eC (.int 2)) (eVar 5))) (eC (.int 1)))) aNil))) (sSeq (sSet 8 (eListR true (eC (.int 0)) (eVar 3))) (sSeq (sSet 9 (eBM isLst vPopAt (eVar 8) (aCons (eBin vMod (eVar 6) (eVar 3)) aNil))) (sSeq (sSet 10 (eTup (aCons (eC (.str "turn")) (aCons (eTup aNil) (aCons (eVar 9) aNil))))) (sSeq (sIf (tAndM (tB (eBin vEq (eBin vMod (eBin vFdiv (eVar 6) (eVar 3)) (eC (.int 3))) (eC (.int 0)))) (tB (eBin vGt (eBI vLen (aCons (eVar 8) aNil)) (eC (.int 0))))) (sSet 10 (eTup (aCons (eC (.str "swap")) (aCons (eTup aNil) (aCons (eVar 9) (aCons (eBM isLst vPopAt (eVar 8) (aCons (eBin vMod (eBin vFdiv (eVar 6) (eC (.int 64))) (eBI vLen (aCons (eVar 8) aNil))) aNil)) aNil)))))) sNext) (sSeq (sSet 11 (eLst true aNil)) (sSeq (sFor (iRange1 (eBin vMod (eBin vFdiv (eVar 6) (eC (.int 512))) (eC (.int 4)))) (.name 12) (sIf (tB (eBin vGt (eBI vLen (aCons (eVar 8) aNil)) (eC (.int 0)))) (sDrop (eBM isLst vAppend (eVar 11) (aCons (eBM isLst vPopAt (eVar 8) (aCons (eBin vMod (eBin vFdiv (eVar 7) (eBin (vAdd false) (eVar 12) (eC (.int 1)))) (eBI vLen (aCons (eVar 8) aNil))) aNil)) aNil))) sNext)) (sDrop (eBM isLst vAppend (eVar 4) (aCons (eBin (vAdd false) (eTup (aCons (eBin vIx (eVar 10) (eC (.int 0))) (aCons (eBI vTuple (aCons (eBI (vSortB false) (aCons (eVar 11) aNil)) aNil)) aNil))) (eCut false (eVar 10) (oSome (eC (.int 2))) oNone)) aNil))))))))))) (sRet (eFrz (eVar 4)))))
noncomputable def F__law_gates : FM := runB 13 B__law_gates
noncomputable def B_is_line : SM :=
  (sRet (eAnd (eBI vIsi (aCons (eVar 0) (aCons (eC (.ty .int)) aNil))) (eAnd (eNot (eBI vIsi (aCons (eVar 0) (aCons (eC (.ty .bl)) aNil)))) (eChain vLe vLt (eC (.int 0)) (eVar 0) (eVar 1)))))
noncomputable def F_is_line : FM := runB 2 B_is_line
noncomputable def B_is_gate : SM :=
  (sSeq (sIf (tOrM (tNotM (tTru (eBI vIsi (aCons (eVar 0) (aCons (eC (.ty .tup)) aNil))))) (tOrM (tB (eBin vLt (eBI vLen (aCons (eVar 0) aNil)) (eC (.int 3)))) (tNotM (tTru (eBI vIsi (aCons (eBin vIx (eVar 0) (eC (.int 1))) (aCons (eC (.ty .tup)) aNil))))))) (sRet (eC (.bl false))) sNext) (sSeq (sIf (tOrM (tB (eBin (vInW true) (eBin vIx (eVar 0) (eC (.int 0))) (eTup (aCons (eC (.str "turn")) (aCons (eC (.str "swap")) aNil))))) (tB (eBin vNe (eBI vLen (aCons (eVar 0) aNil)) (eIf (tB (eBin vEq (eBin vIx (eVar 0) (eC (.int 0))) (eC (.str "turn")))) (eC (.int 3)) (eC (.int 4)))))) (sRet (eC (.bl false))) sNext) (sSeq (sSet 2 (eBin (vAdd false) (eBin vIx (eVar 0) (eC (.int 1))) (eCut false (eVar 0) (oSome (eC (.int 2))) oNone))) (sSeq (sIf (tNotM (tTru (eBI vAll (aCons (eLc false (iSeq (eVar 2)) (.name 4) tYesM (eCallN 2 F_is_line (aCons (eVar 4) (aCons (eVar 1) aNil))) [4]) aNil)))) (sRet (eC (.bl false))) sNext) (sSeq (sSet 3 (eBI vAll (aCons (eLc false (iRange1 (eBin vSub (eBI vLen (aCons (eBin vIx (eVar 0) (eC (.int 1))) aNil)) (eC (.int 1)))) (.name 5) tYesM (eBin vLt (eBin vIx (eBin vIx (eVar 0) (eC (.int 1))) (eVar 5)) (eBin vIx (eBin vIx (eVar 0) (eC (.int 1))) (eBin (vAdd false) (eVar 5) (eC (.int 1))))) [5]) aNil))) (sRet (eAnd (eVar 3) (eBin vEq (eBI vLenD (aCons (eDc (iSeq (eVar 2)) (.name 4) tYesM (eVar 4) (eC (.bl true)) [4]) aNil)) (eBI vLen (aCons (eVar 2) aNil))))))))))
noncomputable def F_is_gate : FM := runB 6 B_is_gate
noncomputable def B_Net___init__ : SM :=
  (sSeq (sIf (tOrM (tNotM (tTru (eCallN 2 F_is_line (aCons (eVar 1) (aCons (eBin (vAdd false) (eC (.int 400)) (eC (.int 1))) aNil))))) (tOrM (tB (eBin vEq (eVar 1) (eC (.int 0)))) (tB (eBin vGt (eBI vLen (aCons (eVar 2) aNil)) (eC (.int 100000)))))) sNever sNext) (sSeq (sIf (tNotM (tTru (eBI vAll (aCons (eLc false (iSeq (eVar 2)) (.name 3) tYesM (eCallN 2 F_is_gate (aCons (eVar 3) (aCons (eVar 1) aNil))) [3]) aNil)))) sNever sNext) (sSeq (sAttr 22 0 (eVar 0) (eVar 1)) (sAttr 22 1 (eVar 0) (eBI (vList false) (aCons (eVar 2) aNil))))))
noncomputable def F_Net___init__ : FM := runB 4 B_Net___init__
noncomputable def B_words : SM :=
  (sRet (eLc false (iRange1 (eBin vShl (eC (.int 1)) (eVar 0))) (.name 2) tYesM (eBI vTuple (aCons (eLc false (iRange1 (eVar 0)) (.name 1) tYesM (eBin vAnd (eBin vShr (eVar 2) (eBin vSub (eBin vSub (eVar 0) (eC (.int 1))) (eVar 1))) (eC (.int 1))) [1]) aNil)) [2]))
noncomputable def F_words : FM := runB 3 B_words
noncomputable def B_Net__checked : SM :=
  (sSeq (sIf (tOrM (tNotM (tTru (eBI vIsi (aCons (eVar 1) (aCons (eC (.ty .tup)) aNil))))) (tOrM (tB (eBin vNe (eBI vLen (aCons (eVar 1) aNil)) (eAttr 22 0 (eVar 0)))) (tNotM (tTru (eBI vAll (aCons (eLc false (iSeq (eVar 1)) (.name 2) tYesM (eCallN 2 F_is_line (aCons (eVar 2) (aCons (eC (.int 2)) aNil))) [2]) aNil)))))) sNever sNext) (sRet (eBI (vList false) (aCons (eVar 1) aNil))))
noncomputable def F_Net__checked : FM := runB 3 B_Net__checked
noncomputable def B_Net__checked__bx : SM :=
  (sSeq (sIf (tOrM (tNotM (tTru (eBI vIsi (aCons (eVar 1) (aCons (eC (.ty .tup)) aNil))))) (tOrM (tB (eBin vNe (eBI vLen (aCons (eVar 1) aNil)) (eAttr 22 0 (eVar 0)))) (tNotM (tTru (eBI vAll (aCons (eLc false (iSeq (eVar 1)) (.name 2) tYesM (eCallN 2 F_is_line (aCons (eVar 2) (aCons (eC (.int 2)) aNil))) [2]) aNil)))))) sNever sNext) (sRet (eBI (vList true) (aCons (eVar 1) aNil))))
noncomputable def F_Net__checked__bx : FM := runB 3 B_Net__checked__bx
noncomputable def B_taken : SM :=
  (sSeq (sFor (iSeq (eBin vIx (eVar 0) (eC (.int 1)))) (.name 2) (sIf (tB (eBin vEq (eBin vIx (eVar 1) (eVar 2)) (eC (.int 0)))) sRetN sNext)) (sIf (tB (eBin vEq (eBin vIx (eVar 0) (eC (.int 0))) (eC (.str "turn")))) (sSetIx (eVar 1) (eBin vIx (eVar 0) (eC (.int 2))) (eBin vSub (eC (.int 1)) (eBin vIx (eVar 1) (eBin vIx (eVar 0) (eC (.int 2)))))) (sSetIx2 (eVar 1) (eBin vIx (eVar 0) (eC (.int 2))) (eVar 1) (eBin vIx (eVar 0) (eC (.int 3))) (eTup (aCons (eBin vIx (eVar 1) (eBin vIx (eVar 0) (eC (.int 3)))) (aCons (eBin vIx (eVar 1) (eBin vIx (eVar 0) (eC (.int 2)))) aNil))))))
noncomputable def F_taken : FM := runB 3 B_taken
noncomputable def B_Net_run : SM :=
  (sSeq (sSet 2 (eMethN 2 22 F_Net__checked__bx (eVar 0) (aCons (eVar 1) aNil))) (sSeq (sFor (iSeq (eAttr 22 1 (eVar 0))) (.name 3) (sDrop (eCallN 2 F_taken (aCons (eVar 3) (aCons (eVar 2) aNil))))) (sRet (eBI vTuple (aCons (eVar 2) aNil)))))
noncomputable def F_Net_run : FM := runB 4 B_Net_run
noncomputable def B_table_of : SM :=
  (sSeq (sIf (tOrM (tNotM (tTru (eCallN 2 F_is_line (aCons (eVar 1) (aCons (eBin (vAdd false) (eC (.int 6)) (eC (.int 1))) aNil))))) (tOrM (tNotM (tTru (eCallN 2 F_is_line (aCons (eVar 2) (aCons (eBin (vAdd false) (eC (.int 6)) (eC (.int 1))) aNil))))) (tOrM (tB (eBin vLt (eBI vMin2 (aCons (eVar 1) (aCons (eVar 2) aNil))) (eC (.int 1)))) (tB (eBin vLt (eAttr 22 0 (eVar 0)) (eBin (vAdd false) (eVar 1) (eVar 2))))))) (sRaise 23) sNext) (sSeq (sSet 3 (eLst true aNil)) (sSeq (sFor (iSeq (eCallN 1 F_words (aCons (eVar 1) aNil))) (.name 4) (sSeq (sSet 5 (eMethN 2 22 F_Net_run (eVar 0) (aCons (eBin (vAdd false) (eVar 4) (eBin vRepT (eTup (aCons (eC (.int 0)) aNil)) (eBin vSub (eAttr 22 0 (eVar 0)) (eVar 1)))) aNil))) (sSeq (sIf (tOrM (tB (eBin vNe (eCut false (eVar 5) oNone (oSome (eVar 1))) (eVar 4))) (tTru (eBI vAnyI (aCons (eCut false (eVar 5) (oSome (eBin (vAdd false) (eVar 1) (eVar 2))) oNone) aNil)))) (sRaise 24) sNext) (sDrop (eBM isLst vAppend (eVar 3) (aCons (eCut false (eVar 5) (oSome (eVar 1)) (oSome (eBin (vAdd false) (eVar 1) (eVar 2)))) aNil)))))) (sRet (eFrz (eVar 3))))))
noncomputable def F_table_of : FM := runB 6 B_table_of
noncomputable def B__law_found : SM :=
  (sTry (sRet (eCallXN 3 F_table_of (aCons (eVar 0) (aCons (eVar 1) (aCons (eVar 2) aNil))))) 3 [] [(23, (sRet (eBM isStr vJoin (eC (.str "")) (aCons (eLst false (aCons (eBin vIx (eLst false (aCons (eC (.str "")) (aCons (eC (.str "bad")) aNil))) (eBI vInt (aCons (eIsErr 3 (eC (.cls 23)) true) aNil))) (aCons (eBin vIx (eLst false (aCons (eC (.str "")) (aCons (eC (.str "dirty")) aNil))) (eBI vInt (aCons (eIsErr 3 (eC (.cls 24)) false) aNil))) aNil))) aNil)))), (24, (sRet (eBM isStr vJoin (eC (.str "")) (aCons (eLst false (aCons (eBin vIx (eLst false (aCons (eC (.str "")) (aCons (eC (.str "bad")) aNil))) (eBI vInt (aCons (eIsErr 3 (eC (.cls 23)) false) aNil))) (aCons (eBin vIx (eLst false (aCons (eC (.str "")) (aCons (eC (.str "dirty")) aNil))) (eBI vInt (aCons (eIsErr 3 (eC (.cls 24)) true) aNil))) aNil))) aNil))))])
noncomputable def F__law_found : FM := runB 4 B__law_found
noncomputable def B__law_words : SM :=
  (sSeq (sSet 1 (eLst false (aCons (eTup aNil) aNil))) (sSeq (sFor (iRange1 (eVar 0)) (.name 2) (sSeq (sSet 3 (eLst false aNil)) (sSeq (sFor (iSeq (eVar 1)) (.name 4) (sSet 3 (eBin (vAdd false) (eVar 3) (eLst false (aCons (eBin (vAdd false) (eVar 4) (eTup (aCons (eC (.int 0)) aNil))) (aCons (eBin (vAdd false) (eVar 4) (eTup (aCons (eC (.int 1)) aNil))) aNil)))))) (sSet 1 (eVar 3))))) (sRet (eVar 1))))
noncomputable def F__law_words : FM := runB 5 B__law_words
noncomputable def B__law_taken : SM :=
  (sSeq (sSet 2 (eBI (vList true) (aCons (eVar 1) aNil))) (sSeq (sFor (iSeq (eVar 0)) (.name 3) (sIf (tTru (eBI vAll (aCons (eLc false (iSeq (eBin vIx (eVar 3) (eC (.int 1)))) (.name 6) tYesM (eBin vEq (eBin vIx (eVar 2) (eVar 6)) (eC (.int 1))) [6]) aNil))) (sIf (tB (eBin vEq (eBin vIx (eVar 3) (eC (.int 0))) (eC (.str "turn")))) (sSetIx (eVar 2) (eBin vIx (eVar 3) (eC (.int 2))) (eBin vSub (eC (.int 1)) (eBin vIx (eVar 2) (eBin vIx (eVar 3) (eC (.int 2)))))) (sSeq (sPar 4 5 (aCons (eBin vIx (eVar 2) (eBin vIx (eVar 3) (eC (.int 2)))) (aCons (eBin vIx (eVar 2) (eBin vIx (eVar 3) (eC (.int 3)))) aNil))) (sSeq (sSetIx (eVar 2) (eBin vIx (eVar 3) (eC (.int 2))) (eVar 5)) (sSetIx (eVar 2) (eBin vIx (eVar 3) (eC (.int 3))) (eVar 4))))) sNext)) (sRet (eBI vTuple (aCons (eVar 2) aNil)))))
noncomputable def F__law_taken : FM := runB 7 B__law_taken
noncomputable def B__law_due : SM :=
  (sSeq (sIf (tOrM (tB (eBin vLt (eVar 2) (eC (.int 1)))) (tOrM (tB (eBin vGt (eVar 2) (eC (.int 6)))) (tOrM (tB (eBin vLt (eVar 3) (eC (.int 1)))) (tOrM (tB (eBin vGt (eVar 3) (eC (.int 6)))) (tB (eBin vLt (eVar 1) (eBin (vAdd false) (eVar 2) (eVar 3)))))))) (sRet (eC (.str "bad"))) sNext) (sSeq (sSet 4 (eLst true aNil)) (sSeq (sFor (iSeq (eCallN 1 F__law_words (aCons (eVar 2) aNil))) (.name 5) (sSeq (sSet 6 (eCallN 2 F__law_taken (aCons (eVar 0) (aCons (eBin (vAdd false) (eVar 5) (eBin vRepT (eTup (aCons (eC (.int 0)) aNil)) (eBin vSub (eVar 1) (eVar 2)))) aNil)))) (sSeq (sIf (tOrM (tB (eBin vNe (eCut false (eVar 6) oNone (oSome (eVar 2))) (eVar 5))) (tB (eBin (vInW false) (eC (.int 1)) (eCut false (eVar 6) (oSome (eBin (vAdd false) (eVar 2) (eVar 3))) oNone)))) (sRet (eC (.str "dirty"))) sNext) (sDrop (eBM isLst vAppend (eVar 4) (aCons (eCut false (eVar 6) (oSome (eVar 2)) (oSome (eBin (vAdd false) (eVar 2) (eVar 3)))) aNil)))))) (sRet (eFrz (eVar 4))))))
noncomputable def F__law_due : FM := runB 7 B__law_due
noncomputable def B_Net_gates : SM :=
  (sRet (eBI (vList false) (aCons (eAttr 22 1 (eVar 0)) aNil)))
noncomputable def F_Net_gates : FM := runB 1 B_Net_gates
noncomputable def B_law : SM :=
  (sSeq (sSet 1 (eCallN 2 F__law_draws (aCons (eVar 0) (aCons (eC (.int 60)) aNil)))) (sSeq (sSet 2 (eBin (vAdd false) (eC (.int 2)) (eBin vMod (eBin vIx (eVar 1) (eC (.int 50))) (eC (.int 6))))) (sSeq (sAsg (.tup [(.name 3), (.name 4)]) (eTup (aCons (eBin vMod (eBin vIx (eVar 1) (eC (.int 51))) (eC (.int 5))) (aCons (eBin vMod (eBin vIx (eVar 1) (eC (.int 52))) (eC (.int 5))) aNil)))) (sSeq (sSet 5 (eCallN 4 F__law_gates (aCons (eVar 1) (aCons (eC (.int 0)) (aCons (eBin vMod (eBin vIx (eVar 1) (eC (.int 53))) (eC (.int 9))) (aCons (eVar 2) aNil)))))) (sSeq (sIf (tB (eBin vGt (eBin vMod (eBin vIx (eVar 1) (eC (.int 54))) (eC (.int 3))) (eC (.int 0)))) (sSet 5 (eLc false (iSeq (eVar 5)) (.name 8) (tAndM (tB (eBin vGe (eBI (vBest min) (aCons (eCut false (eVar 8) (oSome (eC (.int 2))) oNone) aNil)) (eVar 3))) (tB (eBin vLt (eBI (vBest max) (aCons (eCut false (eVar 8) (oSome (eC (.int 2))) oNone) aNil)) (eBin (vAdd false) (eVar 3) (eVar 4))))) (eVar 8) [8])) sNext) (sSeq (sIf (tB (eBin vEq (eBin vMod (eBin vIx (eVar 1) (eC (.int 55))) (eC (.int 12))) (eC (.int 0)))) (sAsg (.tup [(.name 3), (.name 4)]) (eBin vIx (eLst false (aCons (eTup (aCons (eC (.int 7)) (aCons (eC (.int 1)) aNil))) (aCons (eTup (aCons (eC (.int 1)) (aCons (eC (.int 7)) aNil))) (aCons (eTup (aCons (eC (.int 0)) (aCons (eC (.int 1)) aNil))) (aCons (eTup (aCons (eC (.int 1)) (aCons (eC (.int 0)) aNil))) (aCons (eTup (aCons (eUn vNeg (eC (.int 1))) (aCons (eC (.int 1)) aNil))) aNil)))))) (eBin vMod (eBin vIx (eVar 1) (eC (.int 56))) (eC (.int 5))))) sNext) (sSeq (sSet 6 (eFrz (eMakeN 3 22 F_Net___init__ (aCons (eVar 2) (aCons (eVar 5) aNil))))) (sSeq (sSet 7 (eCallN 3 F__law_found (aCons (eVar 6) (aCons (eVar 3) (aCons (eVar 4) aNil))))) (sRet (eAnd (eBin vEq (eVar 7) (eCallN 4 F__law_due (aCons (eVar 5) (aCons (eVar 2) (aCons (eVar 3) (aCons (eVar 4) aNil)))))) (eBin vEq (eMethN 1 22 F_Net_gates (eVar 6) aNil) (eVar 5))))))))))))
noncomputable def F_law : FM := runB 9 B_law
structure Ad where
  _law_draws : Addr
  fd__law_draws : FuncData
  _law_gates : Addr
  fd__law_gates : FuncData
  is_line : Addr
  fd_is_line : FuncData
  is_gate : Addr
  fd_is_gate : FuncData
  Net___init__ : Addr
  fd_Net___init__ : FuncData
  words : Addr
  fd_words : FuncData
  Net__checked : Addr
  fd_Net__checked : FuncData
  taken : Addr
  fd_taken : FuncData
  Net_run : Addr
  fd_Net_run : FuncData
  table_of : Addr
  fd_table_of : FuncData
  _law_found : Addr
  fd__law_found : FuncData
  _law_words : Addr
  fd__law_words : FuncData
  _law_taken : Addr
  fd__law_taken : FuncData
  _law_due : Addr
  fd__law_due : FuncData
  Net_gates : Addr
  fd_Net_gates : FuncData
  law : Addr
  fd_law : FuncData
  c_BackError : Addr
  c_BadNet : Addr
  c_BadBits : Addr
  c_BadTable : Addr
  c_NotClean : Addr
  c_Net : Addr
def tb (A : Ad) : Tbl where
  cl := fun c => match c with
    | 0 => some A.c_BackError
    | 20 => some A.c_BadNet
    | 21 => some A.c_BadBits
    | 23 => some A.c_BadTable
    | 24 => some A.c_NotClean
    | 22 => some A.c_Net
    | _ => none
  fl := fun c => match c with
    | 22 => ["lines", "_gates"]
    | _ => []
structure Tx (K : PySem.W.Frag) (mg : Str → Option Value) (A : Ad) : Prop where
  F__law_draws : Fun K "_law_draws" "_law_draws" s__law_draws A._law_draws A.fd__law_draws
  b__law_draws : Binds K A.fd__law_draws ["_law_script", "_law_many"] []
  g__law_draws : mg "_law_draws" = some (.ref A._law_draws)
  F__law_gates : Fun K "_law_gates" "_law_gates" s__law_gates A._law_gates A.fd__law_gates
  b__law_gates : Binds K A.fd__law_gates ["_law_draws_here", "_law_at", "_law_many", "_law_lines"] []
  g__law_gates : mg "_law_gates" = some (.ref A._law_gates)
  F_is_line : Fun K "is_line" "is_line" s_is_line A.is_line A.fd_is_line
  b_is_line : Binds K A.fd_is_line ["value", "lines"] []
  g_is_line : mg "is_line" = some (.ref A.is_line)
  F_is_gate : Fun K "is_gate" "is_gate" s_is_gate A.is_gate A.fd_is_gate
  b_is_gate : Binds K A.fd_is_gate ["gate", "lines"] []
  g_is_gate : mg "is_gate" = some (.ref A.is_gate)
  F_Net___init__ : Fun K "__init__" "Net.__init__" s_Net___init__ A.Net___init__ A.fd_Net___init__
  b_Net___init__ : Binds K A.fd_Net___init__ ["self", "lines", "gates"] []
  F_words : Fun K "words" "words" s_words A.words A.fd_words
  b_words : Binds K A.fd_words ["count"] []
  g_words : mg "words" = some (.ref A.words)
  F_Net__checked : Fun K "_checked" "Net._checked" s_Net__checked A.Net__checked A.fd_Net__checked
  b_Net__checked : Binds K A.fd_Net__checked ["self", "bits"] []
  m_Net__checked : Meth K A.c_Net "_checked" A.Net__checked
  F_taken : Fun K "taken" "taken" s_taken A.taken A.fd_taken
  b_taken : Binds K A.fd_taken ["gate", "bits"] []
  g_taken : mg "taken" = some (.ref A.taken)
  F_Net_run : Fun K "run" "Net.run" s_Net_run A.Net_run A.fd_Net_run
  b_Net_run : Binds K A.fd_Net_run ["self", "bits"] []
  m_Net_run : Meth K A.c_Net "run" A.Net_run
  F_table_of : Fun K "table_of" "table_of" s_table_of A.table_of A.fd_table_of
  b_table_of : Binds K A.fd_table_of ["net", "k", "m"] []
  g_table_of : mg "table_of" = some (.ref A.table_of)
  F__law_found : Fun K "_law_found" "_law_found" s__law_found A._law_found A.fd__law_found
  b__law_found : Binds K A.fd__law_found ["_law_net", "_law_k", "_law_m"] []
  g__law_found : mg "_law_found" = some (.ref A._law_found)
  F__law_words : Fun K "_law_words" "_law_words" s__law_words A._law_words A.fd__law_words
  b__law_words : Binds K A.fd__law_words ["_law_many"] []
  g__law_words : mg "_law_words" = some (.ref A._law_words)
  F__law_taken : Fun K "_law_taken" "_law_taken" s__law_taken A._law_taken A.fd__law_taken
  b__law_taken : Binds K A.fd__law_taken ["_law_gates_here", "_law_bits"] []
  g__law_taken : mg "_law_taken" = some (.ref A._law_taken)
  F__law_due : Fun K "_law_due" "_law_due" s__law_due A._law_due A.fd__law_due
  b__law_due : Binds K A.fd__law_due ["_law_gates_here", "_law_lines", "_law_k", "_law_m"] []
  g__law_due : mg "_law_due" = some (.ref A._law_due)
  F_Net_gates : Fun K "gates" "Net.gates" s_Net_gates A.Net_gates A.fd_Net_gates
  b_Net_gates : Binds K A.fd_Net_gates ["self"] []
  m_Net_gates : Meth K A.c_Net "gates" A.Net_gates
  F_law : Fun K "law" "law" s_law A.law A.fd_law
  b_law : Binds K A.fd_law ["_law_script"] []
  g_law : mg "law" = some (.ref A.law)
  O_Net : CO K (tb A) 22 A.c_Net
  g_Net : mg "Net" = some (.ref A.c_Net)
  M_Net : Mk K A.c_Net A.Net___init__
  E_BackError : EO K mg (tb A) 0 A.c_BackError "BackError"
  E_BadNet : EO K mg (tb A) 20 A.c_BadNet "BadNet"
  E_BadBits : EO K mg (tb A) 21 A.c_BadBits "BadBits"
  E_BadTable : EO K mg (tb A) 23 A.c_BadTable "BadTable"
  E_NotClean : EO K mg (tb A) 24 A.c_NotClean "NotClean"
  x_BadTable_BackError : PySem.W.exmOne K (.ref A.c_BadTable) (.ref A.c_BackError) = some true
  x_NotClean_BackError : PySem.W.exmOne K (.ref A.c_NotClean) (.ref A.c_BackError) = some true
  xc_BadTable : ExcC K A.c_BadTable
  xc_NotClean : ExcC K A.c_NotClean
  ki_BadTable_BadTable : PySem.W.kitOne K (.ref A.c_BadTable) (.ref A.c_BadTable) = some true
  ki_BadTable_NotClean : PySem.W.kitOne K (.ref A.c_BadTable) (.ref A.c_NotClean) = some false
  ki_NotClean_BadTable : PySem.W.kitOne K (.ref A.c_NotClean) (.ref A.c_BadTable) = some false
  ki_NotClean_NotClean : PySem.W.kitOne K (.ref A.c_NotClean) (.ref A.c_NotClean) = some true
  z_abs : mg "abs" = none
  z_all : mg "all" = none
  z_any : mg "any" = none
  z_bool : mg "bool" = none
  z_int : mg "int" = none
  z_isinstance : mg "isinstance" = none
  z_len : mg "len" = none
  z_list : mg "list" = none
  z_max : mg "max" = none
  z_min : mg "min" = none
  z_range : mg "range" = none
  z_sorted : mg "sorted" = none
  z_tuple : mg "tuple" = none
  k_MOST_BITS : ∃ t, mg "MOST_BITS" = some (.int 6 t)
  k_MOST_GATES : ∃ t, mg "MOST_GATES" = some (.int 100000 t)
  k_MOST_LINES : ∃ t, mg "MOST_LINES" = some (.int 400 t)
section
variable {P : Program} {w : World} {K : PySem.W.Frag} {mg : Str → Option Value} {base : Heap} {A : Ad}
theorem c_MOST_BITS {X : Cx} {Ew : XW} {pos : Pos} (Z : Tx X.K X.mg A) (hg : Gl X "MOST_BITS") : PEm (tb A) X Ew (.Name "MOST_BITS" pos) (eC (.int 6)) := by
  obtain ⟨t, e⟩ := Z.k_MOST_BITS
  exact m_glob (z := .int 6) hg e ⟨t, rfl⟩ (fun _ => .int _)
theorem c_MOST_GATES {X : Cx} {Ew : XW} {pos : Pos} (Z : Tx X.K X.mg A) (hg : Gl X "MOST_GATES") : PEm (tb A) X Ew (.Name "MOST_GATES" pos) (eC (.int 100000)) := by
  obtain ⟨t, e⟩ := Z.k_MOST_GATES
  exact m_glob (z := .int 100000) hg e ⟨t, rfl⟩ (fun _ => .int _)
theorem c_MOST_LINES {X : Cx} {Ew : XW} {pos : Pos} (Z : Tx X.K X.mg A) (hg : Gl X "MOST_LINES") : PEm (tb A) X Ew (.Name "MOST_LINES" pos) (eC (.int 400)) := by
  obtain ⟨t, e⟩ := Z.k_MOST_LINES
  exact m_glob (z := .int 400) hg e ⟨t, rfl⟩ (fun _ => .int _)
theorem ok__law_draws (Z : Tx K mg A) : FnOk P w K mg base (L2.CX P w) 1 A._law_draws A.fd__law_draws ["_law_script", "_law_many"] (spD K (tb A) 2 F__law_draws) :=
  fn_ok Z.F__law_draws sc__law_draws fun _ _ _ _ _ _ h => by
    unfold B__law_draws
    exact (mb_cons (ms_set (i := 2) h.nd rfl (by first | exact .inl rfl | exact .inr rfl) (m_lst ma_nil))
      (mb_cons (ms_set (i := 3) h.nd rfl (by first | exact .inl rfl | exact .inr rfl) m_int)
      (mb_cons (ms_for h.hp h.calm (i_seq (m_cut (m_var 0) mo_none (mo_some m_int))) (g_name h.nd rfl (by first | exact .inl rfl | exact .inr rfl)) (mb_cons (ms_set (i := 5) h.nd rfl (by first | exact .inl rfl | exact .inr rfl) (m_callB call_abs l_abs (by rfl) Z.z_abs b_abs (ma_cons (m_var 4) ma_nil)))
      (mb_cons (ms_if (mt_cmp op_ge o_ge (m_var 5) (m_op op_pow o_pow m_int m_int) (nomark _)) (mb_one (ms_for h.hp h.calm (i_range1 (by rfl) Z.z_range m_int) (g_name h.nd rfl (by first | exact .inl rfl | exact .inr rfl)) (mb_one (ms_if (mt_cmp op_gt o_gt (m_var 5) m_int (nomark _)) (mb_cons (ms_expr (m_bm PySem.F.plainAttrs_list PySem.F.slot_list_append PySem.F.type_list_append mt_append isLst_ok w_append (m_var 2) (ma_cons (m_op op_mod o_mod (m_callTy call_int1 l_int (by rfl) Z.z_int b_int (ma_cons (m_var 5) ma_nil)) m_int) ma_nil)))
      (mb_one (ms_set (i := 5) h.nd rfl (by first | exact .inl rfl | exact .inr rfl) (m_op op_fdiv o_fdiv (m_var 5) m_int)))) mb_nil)))) (mb_cons (ms_expr (m_bm PySem.F.plainAttrs_list PySem.F.slot_list_append PySem.F.type_list_append mt_append isLst_ok w_append (m_var 2) (ma_cons (m_op op_mod o_mod (m_callTy call_int1 l_int (by rfl) Z.z_int b_int (ma_cons (m_op add_all (o_add false) (m_op add_all (o_add false) (m_op op_mul o_mul (m_var 5) m_int) (m_op op_mul o_mul (m_var 3) m_int)) m_int) ma_nil)) m_int) ma_nil)))
      (mb_one (ms_expr (m_bm PySem.F.plainAttrs_list PySem.F.slot_list_append PySem.F.type_list_append mt_append isLst_ok w_append (m_var 2) (ma_cons (m_op op_mod o_mod (m_callTy call_int1 l_int (by rfl) Z.z_int b_int (ma_cons (m_op add_all (o_add false) (m_op add_all (o_add false) (m_op add_all (o_add false) (m_op op_mul o_mul (m_var 5) m_int) (m_op op_mul o_mul (m_var 3) m_int)) m_int) (m_op op_mul o_mul (m_var 5) (m_var 5))) ma_nil)) m_int) ma_nil))))))
      (mb_one (ms_set (i := 3) h.nd rfl (by first | exact .inl rfl | exact .inr rfl) (m_op add_all (o_add false) (m_var 3) m_int))))))
      (mb_cons (ms_for h.hp h.calm (i_range1 (by rfl) Z.z_range (m_var 1)) (g_name h.nd rfl (by first | exact .inl rfl | exact .inr rfl)) (mb_one (ms_if (mt_cmp op_lt o_lt (m_callB call_len l_len (by rfl) Z.z_len b_len (ma_cons (m_var 2) ma_nil)) (m_var 1) (nomark _)) (mb_one (ms_expr (m_bm PySem.F.plainAttrs_list PySem.F.slot_list_append PySem.F.type_list_append mt_append isLst_ok w_append (m_var 2) (ma_cons (m_op op_mod o_mod (m_callTy call_int1 l_int (by rfl) Z.z_int b_int (ma_cons (m_op add_all (o_add false) (m_op add_all (o_add false) (m_op op_mul o_mul (m_callB call_len l_len (by rfl) Z.z_len b_len (ma_cons (m_var 2) ma_nil)) m_int) (m_op op_mul o_mul m_int (m_var 3))) (m_op op_mul o_mul (m_op op_mul o_mul (m_var 6) (m_var 6)) m_int)) ma_nil)) m_int) ma_nil)))) mb_nil)))
      (mb_one (ms_ret (m_cut (m_var 2) mo_none (mo_some (m_var 1)))))))))
theorem ok__law_gates (Z : Tx K mg A) : FnOk P w K mg base (L2.CX P w) 1 A._law_gates A.fd__law_gates ["_law_draws_here", "_law_at", "_law_many", "_law_lines"] (spD K (tb A) 4 F__law_gates) :=
  fn_ok Z.F__law_gates sc__law_gates fun _ _ _ _ _ _ h => by
    unfold B__law_gates
    exact (mb_cons (ms_set (i := 4) h.nd rfl (by first | exact .inl rfl | exact .inr rfl) (m_lst ma_nil))
      (mb_cons (ms_for h.hp h.calm (i_range1 (by rfl) Z.z_range (m_var 2)) (g_name h.nd rfl (by first | exact .inl rfl | exact .inr rfl)) (mb_cons (ms_par (i := 6) (j := 7) h.calm h.nd rfl rfl (by decide) rfl rfl (ma_cons (m_ix (m_var 0) (m_op add_all (o_add false) (m_var 1) (m_op op_mul o_mul m_int (m_var 5)))) (ma_cons (m_ix (m_var 0) (m_op add_all (o_add false) (m_op add_all (o_add false) (m_var 1) (m_op op_mul o_mul m_int (m_var 5))) m_int)) ma_nil)))
      (mb_cons (ms_set (i := 8) h.nd rfl (by first | exact .inl rfl | exact .inr rfl) (m_listR1 h.calm (by rfl) Z.z_list (by rfl) Z.z_range (m_var 3)))
      (mb_cons (ms_set (i := 9) h.nd rfl (by first | exact .inl rfl | exact .inr rfl) (m_bm PySem.F.plainAttrs_list PySem.F.slot_list_pop PySem.F.type_list_pop mt_popAt isLst_ok w_popAt (m_var 8) (ma_cons (m_op op_mod o_mod (m_var 6) (m_var 3)) ma_nil)))
      (mb_cons (ms_set (i := 10) h.nd rfl (by first | exact .inl rfl | exact .inr rfl) (m_tup (ma_cons m_str (ma_cons (m_tup ma_nil) (ma_cons (m_var 9) ma_nil)))))
      (mb_cons (ms_if (mw_and (mt_cmp (op_eqD h.hu) o_eq (m_op op_mod o_mod (m_op op_fdiv o_fdiv (m_var 6) (m_var 3)) m_int) m_int (nomark _)) (mw_and1 (mt_cmp op_gt o_gt (m_callB call_len l_len (by rfl) Z.z_len b_len (ma_cons (m_var 8) ma_nil)) m_int (nomark _)))).pt (mb_one (ms_set (i := 10) h.nd rfl (by first | exact .inl rfl | exact .inr rfl) (m_tup (ma_cons m_str (ma_cons (m_tup ma_nil) (ma_cons (m_var 9) (ma_cons (m_bm PySem.F.plainAttrs_list PySem.F.slot_list_pop PySem.F.type_list_pop mt_popAt isLst_ok w_popAt (m_var 8) (ma_cons (m_op op_mod o_mod (m_op op_fdiv o_fdiv (m_var 6) m_int) (m_callB call_len l_len (by rfl) Z.z_len b_len (ma_cons (m_var 8) ma_nil))) ma_nil)) ma_nil))))))) mb_nil)
      (mb_cons (ms_set (i := 11) h.nd rfl (by first | exact .inl rfl | exact .inr rfl) (m_lst ma_nil))
      (mb_cons (ms_for h.hp h.calm (i_range1 (by rfl) Z.z_range (m_op op_mod o_mod (m_op op_fdiv o_fdiv (m_var 6) m_int) m_int)) (g_name h.nd rfl (by first | exact .inl rfl | exact .inr rfl)) (mb_one (ms_if (mt_cmp op_gt o_gt (m_callB call_len l_len (by rfl) Z.z_len b_len (ma_cons (m_var 8) ma_nil)) m_int (nomark _)) (mb_one (ms_expr (m_bm PySem.F.plainAttrs_list PySem.F.slot_list_append PySem.F.type_list_append mt_append isLst_ok w_append (m_var 11) (ma_cons (m_bm PySem.F.plainAttrs_list PySem.F.slot_list_pop PySem.F.type_list_pop mt_popAt isLst_ok w_popAt (m_var 8) (ma_cons (m_op op_mod o_mod (m_op op_fdiv o_fdiv (m_var 7) (m_op add_all (o_add false) (m_var 12) m_int)) (m_callB call_len l_len (by rfl) Z.z_len b_len (ma_cons (m_var 8) ma_nil))) ma_nil)) ma_nil)))) mb_nil)))
      (mb_one (ms_expr (m_bm PySem.F.plainAttrs_list PySem.F.slot_list_append PySem.F.type_list_append mt_append isLst_ok w_append (m_var 4) (ma_cons (m_op add_all (o_add false) (m_tup (ma_cons (m_ix (m_var 10) m_int) (ma_cons (m_callTy call_tuple_of l_tuple (by rfl) Z.z_tuple b_tuple (ma_cons (m_callB cr_sortB (l_sortB false) (by rfl) Z.z_sorted b_sorted (ma_cons (m_var 11) ma_nil)) ma_nil)) ma_nil))) (m_cut (m_var 10) (mo_some m_int) mo_none)) ma_nil))))))))))))
      (mb_one (ms_ret (m_frz (m_var 4))))))
theorem ok_is_line (Z : Tx K mg A) : FnOk P w K mg base (L2.CX P w) 1 A.is_line A.fd_is_line ["value", "lines"] (spD K (tb A) 2 F_is_line) :=
  fn_ok Z.F_is_line sc_is_line fun _ _ _ _ _ _ h => by
    unfold B_is_line
    exact (mb_one (ms_ret (m_and (m_callB call_isi l_isi (by rfl) Z.z_isinstance b_isinstance (ma_cons (m_var 0) (ma_cons (m_bltn (v := .ty .int) (z := .ty "int") (by rfl) Z.z_int b_int rfl (fun _ => .ty .int)) ma_nil))) (m_and (m_not (m_callB call_isi l_isi (by rfl) Z.z_isinstance b_isinstance (ma_cons (m_var 0) (ma_cons (m_bltn (v := .ty .bl) (z := .ty "bool") (by rfl) Z.z_bool b_bool rfl (fun _ => .ty .bl)) ma_nil)))) (m_one (m_chain op_le op_lt o_le o_lt m_int (m_var 0) (m_var 1)))))))
theorem ok_is_gate (Z : Tx K mg A) : FnOk P w K mg base (L2.CX P w) 2 A.is_gate A.fd_is_gate ["gate", "lines"] (spD K (tb A) 2 F_is_gate) :=
  fn_ok Z.F_is_gate sc_is_gate fun _ _ _ _ _ _ h => by
    unfold B_is_gate
    exact (mb_cons (ms_if (mw_or (mt_not (mt_tru (m_callB call_isi l_isi (by rfl) Z.z_isinstance b_isinstance (ma_cons (m_var 0) (ma_cons (m_bltn (v := .ty .tup) (z := .ty "tuple") (by rfl) Z.z_tuple b_tuple rfl (fun _ => .ty .tup)) ma_nil))))) (mw_or (mt_cmp op_lt o_lt (m_callB call_len l_len (by rfl) Z.z_len b_len (ma_cons (m_var 0) ma_nil)) m_int (nomark _)) (mw_or1 (mt_not (mt_tru (m_callB call_isi l_isi (by rfl) Z.z_isinstance b_isinstance (ma_cons (m_ix (m_var 0) m_int) (ma_cons (m_bltn (v := .ty .tup) (z := .ty "tuple") (by rfl) Z.z_tuple b_tuple rfl (fun _ => .ty .tup)) ma_nil)))))))).pt (mb_one (ms_ret m_bl)) mb_nil)
      (mb_cons (ms_if (mw_or (mt_cmp (or_notIn h.hu65) (o_in true) (m_ix (m_var 0) m_int) (m_tup (ma_cons m_str (ma_cons m_str ma_nil))) (by rfl)) (mw_or1 (mt_cmp (op_neD h.hu) o_ne (m_callB call_len l_len (by rfl) Z.z_len b_len (ma_cons (m_var 0) ma_nil)) (m_if (mt_cmp (op_eqD h.hu) o_eq (m_ix (m_var 0) m_int) m_str (nomark _)) m_int m_int) (nomark _)))).pt (mb_one (ms_ret m_bl)) mb_nil)
      (mb_cons (ms_set (i := 2) h.nd rfl (by first | exact .inl rfl | exact .inr rfl) (m_op add_all (o_add false) (m_ix (m_var 0) m_int) (m_cut (m_var 0) (mo_some m_int) mo_none)))
      (mb_cons (ms_if (mt_not (mt_tru (m_callB (cr_all h.calm) l_all (by rfl) Z.z_all b_all (ma_cons (m_lc (own := [("line", 4)]) h.calm h.nd (i_seq (m_var 2)) (blkOk_by (N := N_is_gate) (sc := defScope s_is_gate) (by decide +kernel)) (by decide) (fun _ _ _ _ _ => (g_name (h.blk _ _ _ _ _).nd rfl (by first | exact .inl rfl | exact .inr rfl))) (fun _ _ _ _ _ => mts_nil) (fun _ _ _ _ _ => (m_call (ok_is_line Z) ((h.blk _ _ _ _ _).room.mono (by decide)) (by rfl) Z.g_is_line Z.F_is_line.kp Z.b_is_line (ma_cons (m_var 4) (ma_cons (m_var 1) ma_nil))))) ma_nil)))) (mb_one (ms_ret m_bl)) mb_nil)
      (mb_cons (ms_set (i := 3) h.nd rfl (by first | exact .inl rfl | exact .inr rfl) (m_callB (cr_all h.calm) l_all (by rfl) Z.z_all b_all (ma_cons (m_lc (own := [("k", 5)]) h.calm h.nd (i_range1 (by rfl) Z.z_range (m_op op_sub o_sub (m_callB call_len l_len (by rfl) Z.z_len b_len (ma_cons (m_ix (m_var 0) m_int) ma_nil)) m_int)) (blkOk_by (N := N_is_gate) (sc := defScope s_is_gate) (by decide +kernel)) (by decide) (fun _ _ _ _ _ => (g_name (h.blk _ _ _ _ _).nd rfl (by first | exact .inl rfl | exact .inr rfl))) (fun _ _ _ _ _ => mts_nil) (fun _ _ _ _ _ => (m_cmp op_lt o_lt (m_ix (m_ix (m_var 0) m_int) (m_var 5)) (m_ix (m_ix (m_var 0) m_int) (m_op add_all (o_add false) (m_var 5) m_int)) (nomark _)))) ma_nil)))
      (mb_one (ms_ret (m_and (m_var 3) (m_one (m_cmp (op_eqD h.hu) o_eq (m_callB call_lenD l_lenD (by rfl) Z.z_len b_len (ma_cons (m_dc (own := [("line", 4)]) h.calm h.nd (i_seq (m_var 2)) (blkOk_by (N := N_is_gate) (sc := defScope s_is_gate) (by decide +kernel)) (by decide) (fun _ _ _ _ _ => (g_name (h.blk _ _ _ _ _).nd rfl (by first | exact .inl rfl | exact .inr rfl))) (fun _ _ _ _ _ => mts_nil) (fun _ _ _ _ _ => (m_var 4)) (fun _ _ _ _ _ => m_bl)) ma_nil)) (m_callB call_len l_len (by rfl) Z.z_len b_len (ma_cons (m_var 2) ma_nil)) (nomark _)))))))))))
theorem ok_Net___init__ (Z : Tx K mg A) : FnOk P w K mg base (L2.CX P w) 3 A.Net___init__ A.fd_Net___init__ ["self", "lines", "gates"] (spD K (tb A) 3 F_Net___init__) :=
  fn_ok Z.F_Net___init__ sc_Net___init__ fun _ _ _ _ _ _ h => by
    unfold B_Net___init__
    exact (mb_cons (ms_if (mw_or (mt_not (mt_tru (m_call (ok_is_line Z) (h.room.mono (by decide)) (by rfl) Z.g_is_line Z.F_is_line.kp Z.b_is_line (ma_cons (m_var 1) (ma_cons (m_op add_all (o_add false) (c_MOST_LINES Z (by rfl)) m_int) ma_nil))))) (mw_or (mt_cmp (op_eqD h.hu) o_eq (m_var 1) m_int (nomark _)) (mw_or1 (mt_cmp op_gt o_gt (m_callB call_len l_len (by rfl) Z.z_len b_len (ma_cons (m_var 2) ma_nil)) (c_MOST_GATES Z (by rfl)) (nomark _))))).pt (mb_one ms_never) mb_nil)
      (mb_cons (ms_if (mt_not (mt_tru (m_callB (cr_all h.calm) l_all (by rfl) Z.z_all b_all (ma_cons (m_lc (own := [("gate", 3)]) h.calm h.nd (i_seq (m_var 2)) (blkOk_by (N := N_Net___init__) (sc := defScope s_Net___init__) (by decide +kernel)) (by decide) (fun _ _ _ _ _ => (g_name (h.blk _ _ _ _ _).nd rfl (by first | exact .inl rfl | exact .inr rfl))) (fun _ _ _ _ _ => mts_nil) (fun _ _ _ _ _ => (m_call (ok_is_gate Z) ((h.blk _ _ _ _ _).room.mono (by decide)) (by rfl) Z.g_is_gate Z.F_is_gate.kp Z.b_is_gate (ma_cons (m_var 3) (ma_cons (m_var 1) ma_nil))))) ma_nil)))) (mb_one ms_never) mb_nil)
      (mb_cons (ms_attr (i := 0) Z.O_Net (by rfl) (m_var 0) (m_var 1))
      (mb_one (ms_attr (i := 1) Z.O_Net (by rfl) (m_var 0) (m_callTy call_list_of (l_list false) (by rfl) Z.z_list b_list (ma_cons (m_var 2) ma_nil)))))))
theorem ok_words (Z : Tx K mg A) : FnOk P w K mg base (L2.CX P w) 1 A.words A.fd_words ["count"] (spD K (tb A) 1 F_words) :=
  fn_ok Z.F_words sc_words fun _ _ _ _ _ _ h => by
    unfold B_words
    exact (mb_one (ms_ret (m_lc (own := [("number", 2)]) h.calm h.nd (i_range1 (by rfl) Z.z_range (m_op op_shlW o_shl m_int (m_var 0))) (blkOk_by (N := N_words) (sc := defScope s_words) (by decide +kernel)) (by decide) (fun _ _ _ _ _ => (g_name (h.blk _ _ _ _ _).nd rfl (by first | exact .inl rfl | exact .inr rfl))) (fun _ _ _ _ _ => mts_nil) (fun _ _ _ _ _ => (m_callTy call_tuple_of l_tuple (by rfl) Z.z_tuple b_tuple (ma_cons (m_lc (own := [("k", 1)]) (h.blk _ _ _ _ _).calm (h.blk _ _ _ _ _).nd (i_range1 (by rfl) Z.z_range (m_var 0)) (blkOk_nest (blkOk_by (N := N_words) (sc := (retScope (bodyAt s_words 0))) (by decide +kernel))) (by decide) (fun _ _ _ _ _ => (g_name ((h.blk _ _ _ _ _).blk _ _ _ _ _).nd rfl (by first | exact .inl rfl | exact .inr rfl))) (fun _ _ _ _ _ => mts_nil) (fun _ _ _ _ _ => (m_op op_and o_and (m_op op_shr o_shr (m_var 2) (m_op op_sub o_sub (m_op op_sub o_sub (m_var 0) m_int) (m_var 1))) m_int))) ma_nil))))))
theorem ok_Net__checked (Z : Tx K mg A) : FnOk P w K mg base (L2.CX P w) 2 A.Net__checked A.fd_Net__checked ["self", "bits"] (spD K (tb A) 2 F_Net__checked) :=
  fn_ok Z.F_Net__checked sc_Net__checked fun _ _ _ _ _ _ h => by
    unfold B_Net__checked
    exact (mb_cons (ms_if (mw_or (mt_not (mt_tru (m_callB call_isi l_isi (by rfl) Z.z_isinstance b_isinstance (ma_cons (m_var 1) (ma_cons (m_bltn (v := .ty .tup) (z := .ty "tuple") (by rfl) Z.z_tuple b_tuple rfl (fun _ => .ty .tup)) ma_nil))))) (mw_or (mt_cmp (op_neD h.hu) o_ne (m_callB call_len l_len (by rfl) Z.z_len b_len (ma_cons (m_var 1) ma_nil)) (m_attr (i := 0) Z.O_Net (by rfl) (m_var 0)) (nomark _)) (mw_or1 (mt_not (mt_tru (m_callB (cr_all h.calm) l_all (by rfl) Z.z_all b_all (ma_cons (m_lc (own := [("bit", 2)]) h.calm h.nd (i_seq (m_var 1)) (blkOk_by (N := N_Net__checked) (sc := defScope s_Net__checked) (by decide +kernel)) (by decide) (fun _ _ _ _ _ => (g_name (h.blk _ _ _ _ _).nd rfl (by first | exact .inl rfl | exact .inr rfl))) (fun _ _ _ _ _ => mts_nil) (fun _ _ _ _ _ => (m_call (ok_is_line Z) ((h.blk _ _ _ _ _).room.mono (by decide)) (by rfl) Z.g_is_line Z.F_is_line.kp Z.b_is_line (ma_cons (m_var 2) (ma_cons m_int ma_nil))))) ma_nil))))))).pt (mb_one ms_never) mb_nil)
      (mb_one (ms_ret (m_callTy call_list_of (l_list false) (by rfl) Z.z_list b_list (ma_cons (m_var 1) ma_nil)))))
theorem ok_Net__checked__bx (Z : Tx K mg A) : FnOk P w K mg base (L2.CX P w) 2 A.Net__checked A.fd_Net__checked ["self", "bits"] (spD K (tb A) 2 F_Net__checked__bx) :=
  fn_ok Z.F_Net__checked sc_Net__checked fun _ _ _ _ _ _ h => by
    unfold B_Net__checked__bx
    exact (mb_cons (ms_if (mw_or (mt_not (mt_tru (m_callB call_isi l_isi (by rfl) Z.z_isinstance b_isinstance (ma_cons (m_var 1) (ma_cons (m_bltn (v := .ty .tup) (z := .ty "tuple") (by rfl) Z.z_tuple b_tuple rfl (fun _ => .ty .tup)) ma_nil))))) (mw_or (mt_cmp (op_neD h.hu) o_ne (m_callB call_len l_len (by rfl) Z.z_len b_len (ma_cons (m_var 1) ma_nil)) (m_attr (i := 0) Z.O_Net (by rfl) (m_var 0)) (nomark _)) (mw_or1 (mt_not (mt_tru (m_callB (cr_all h.calm) l_all (by rfl) Z.z_all b_all (ma_cons (m_lc (own := [("bit", 2)]) h.calm h.nd (i_seq (m_var 1)) (blkOk_by (N := N_Net__checked) (sc := defScope s_Net__checked) (by decide +kernel)) (by decide) (fun _ _ _ _ _ => (g_name (h.blk _ _ _ _ _).nd rfl (by first | exact .inl rfl | exact .inr rfl))) (fun _ _ _ _ _ => mts_nil) (fun _ _ _ _ _ => (m_call (ok_is_line Z) ((h.blk _ _ _ _ _).room.mono (by decide)) (by rfl) Z.g_is_line Z.F_is_line.kp Z.b_is_line (ma_cons (m_var 2) (ma_cons m_int ma_nil))))) ma_nil))))))).pt (mb_one ms_never) mb_nil)
      (mb_one (ms_ret (m_callTy call_list_of (l_list true) (by rfl) Z.z_list b_list (ma_cons (m_var 1) ma_nil)))))
theorem ok_taken (Z : Tx K mg A) : FnOk P w K mg base (L2.CX P w) 1 A.taken A.fd_taken ["gate", "bits"] (spD K (tb A) 2 F_taken) :=
  fn_ok Z.F_taken sc_taken fun _ _ _ _ _ _ h => by
    unfold B_taken
    exact (mb_cons (ms_for h.hp h.calm (i_seq (m_ix (m_var 0) m_int)) (g_name h.nd rfl (by first | exact .inl rfl | exact .inr rfl)) (mb_one (ms_if (mt_cmp (op_eqD h.hu) o_eq (m_ix (m_var 1) (m_var 2)) m_int (nomark _)) (mb_one ms_retN) mb_nil)))
      (mb_one (ms_if (mt_cmp (op_eqD h.hu) o_eq (m_ix (m_var 0) m_int) m_str (nomark _)) (mb_one (ms_setIx (m_op op_sub o_sub m_int (m_ix (m_var 1) (m_ix (m_var 0) m_int))) (m_var 1) (m_ix (m_var 0) m_int))) (mb_one (ms_setIx2 h.calm (m_tup (ma_cons (m_ix (m_var 1) (m_ix (m_var 0) m_int)) (ma_cons (m_ix (m_var 1) (m_ix (m_var 0) m_int)) ma_nil))) (m_var 1) (m_ix (m_var 0) m_int) (m_var 1) (m_ix (m_var 0) m_int))))))
theorem ok_Net_run (Z : Tx K mg A) : FnOk P w K mg base (L2.CX P w) 3 A.Net_run A.fd_Net_run ["self", "bits"] (spD K (tb A) 2 F_Net_run) :=
  fn_ok Z.F_Net_run sc_Net_run fun _ _ _ _ _ _ h => by
    unfold B_Net_run
    exact (mb_cons (ms_set (i := 2) h.nd rfl (by first | exact .inl rfl | exact .inr rfl) (m_meth Z.O_Net (by show ("_checked" : Str) ∉ (["lines", "_gates"] : List Str); decide +kernel) (m_var 0) Z.m_Net__checked (ok_Net__checked__bx Z) (h.room.mono (by decide)) Z.b_Net__checked (ma_cons (m_var 1) ma_nil)))
      (mb_cons (ms_for h.hp h.calm (i_seq (m_attr (i := 1) Z.O_Net (by rfl) (m_var 0))) (g_name h.nd rfl (by first | exact .inl rfl | exact .inr rfl)) (mb_one (ms_expr (m_call (ok_taken Z) (h.room.mono (by decide)) (by rfl) Z.g_taken Z.F_taken.kp Z.b_taken (ma_cons (m_var 3) (ma_cons (m_var 2) ma_nil))))))
      (mb_one (ms_ret (m_callTy call_tuple_of l_tuple (by rfl) Z.z_tuple b_tuple (ma_cons (m_var 2) ma_nil))))))
theorem ok_table_of (Z : Tx K mg A) : FnOk P w K mg base (L2.CX P w) 4 A.table_of A.fd_table_of ["net", "k", "m"] (spD K (tb A) 3 F_table_of) :=
  fn_ok Z.F_table_of sc_table_of fun _ _ _ _ _ _ h => by
    unfold B_table_of
    exact (mb_cons (ms_if (mw_or (mt_not (mt_tru (m_call (ok_is_line Z) (h.room.mono (by decide)) (by rfl) Z.g_is_line Z.F_is_line.kp Z.b_is_line (ma_cons (m_var 1) (ma_cons (m_op add_all (o_add false) (c_MOST_BITS Z (by rfl)) m_int) ma_nil))))) (mw_or (mt_not (mt_tru (m_call (ok_is_line Z) (h.room.mono (by decide)) (by rfl) Z.g_is_line Z.F_is_line.kp Z.b_is_line (ma_cons (m_var 2) (ma_cons (m_op add_all (o_add false) (c_MOST_BITS Z (by rfl)) m_int) ma_nil))))) (mw_or (mt_cmp op_lt o_lt (m_callB (call_min2 h.calm) l_min2 (by rfl) Z.z_min b_min (ma_cons (m_var 1) (ma_cons (m_var 2) ma_nil))) m_int (nomark _)) (mw_or1 (mt_cmp op_lt o_lt (m_attr (i := 0) Z.O_Net (by rfl) (m_var 0)) (m_op add_all (o_add false) (m_var 1) (m_var 2)) (nomark _)))))).pt (mb_one (ms_raise h.calm h.tk Z.E_BadTable (by rfl))) mb_nil)
      (mb_cons (ms_set (i := 3) h.nd rfl (by first | exact .inl rfl | exact .inr rfl) (m_lst ma_nil))
      (mb_cons (ms_for h.hp h.calm (i_seq (m_call (ok_words Z) (h.room.mono (by decide)) (by rfl) Z.g_words Z.F_words.kp Z.b_words (ma_cons (m_var 1) ma_nil))) (g_name h.nd rfl (by first | exact .inl rfl | exact .inr rfl)) (mb_cons (ms_set (i := 5) h.nd rfl (by first | exact .inl rfl | exact .inr rfl) (m_meth Z.O_Net (by show ("run" : Str) ∉ (["lines", "_gates"] : List Str); decide +kernel) (m_var 0) Z.m_Net_run (ok_Net_run Z) (h.room.mono (by decide)) Z.b_Net_run (ma_cons (m_op add_all (o_add false) (m_var 4) (m_op op_repA o_repT (m_tup (ma_cons m_int ma_nil)) (m_op op_sub o_sub (m_attr (i := 0) Z.O_Net (by rfl) (m_var 0)) (m_var 1)))) ma_nil)))
      (mb_cons (ms_if (mw_or (mt_cmp (op_neD h.hu) o_ne (m_cut (m_var 5) mo_none (mo_some (m_var 1))) (m_var 4) (nomark _)) (mw_or1 (mt_tru (m_callB (cr_anyI h.calm) l_anyI (by rfl) Z.z_any b_any (ma_cons (m_cut (m_var 5) (mo_some (m_op add_all (o_add false) (m_var 1) (m_var 2))) mo_none) ma_nil))))).pt (mb_one (ms_raise h.calm h.tk Z.E_NotClean (by rfl))) mb_nil)
      (mb_one (ms_expr (m_bm PySem.F.plainAttrs_list PySem.F.slot_list_append PySem.F.type_list_append mt_append isLst_ok w_append (m_var 3) (ma_cons (m_cut (m_var 5) (mo_some (m_var 1)) (mo_some (m_op add_all (o_add false) (m_var 1) (m_var 2)))) ma_nil)))))))
      (mb_one (ms_ret (m_frz (m_var 3)))))))
theorem ok__law_found (Z : Tx K mg A) : FnOk P w K mg base (L2.CX P w) 5 A._law_found A.fd__law_found ["_law_net", "_law_k", "_law_m"] (spD K (tb A) 3 F__law_found) :=
  fn_ok Z.F__law_found sc__law_found fun _ _ _ _ _ _ h => by
    unfold B__law_found
    exact (mb_one (ms_try (i := 3) rfl rfl rfl h.nd rfl rfl ⟨by rfl, by decide, .inl Z.E_BackError.gC⟩ h.tk (all_c (fun C hC => by cases hC; exact Z.x_BadTable_BackError) (all_c (fun C hC => by cases hC; exact Z.x_NotClean_BackError) all_n)) all_n (fun W pn xe tk hp => (mb_one (ms_ret (m_callX (h.tr pn xe tk hp).tk (ok_table_of Z) ((h.tr pn xe tk hp).room.mono (by decide)) (by rfl) Z.g_table_of Z.F_table_of.kp Z.b_table_of (ma_cons (m_var 0) (ma_cons (m_var 1) (ma_cons (m_var 2) ma_nil))))))) (all_c (fun C a oe d pn hC hz hf hd => by
        cases hC
        obtain rfl := hd rfl
        exact (mb_one (ms_ret (m_bm PySem.F.plainAttrs_str PySem.F.slot_str_join PySem.F.type_str_join mt_join isStr_ok w_join m_str (ma_cons (m_lst (ma_cons (m_ix (m_lst (ma_cons m_str (ma_cons m_str ma_nil))) (m_callTy call_int1 l_int (by rfl) Z.z_int b_int (ma_cons (m_isErr (zv := .cls 23) Z.xc_BadTable hz hf Z.z_isinstance (by rfl) (pv 3) (pe_glob (v := .ref A.c_BadTable) (by rfl) Z.E_BadTable.gC rfl) (fun _ h => h) Z.ki_BadTable_BadTable) ma_nil))) (ma_cons (m_ix (m_lst (ma_cons m_str (ma_cons m_str ma_nil))) (m_callTy call_int1 l_int (by rfl) Z.z_int b_int (ma_cons (m_isErr (zv := .cls 24) Z.xc_BadTable hz hf Z.z_isinstance (by rfl) (pv 3) (pe_glob (v := .ref A.c_NotClean) (by rfl) Z.E_NotClean.gC rfl) (fun _ h => h) Z.ki_BadTable_NotClean) ma_nil))) ma_nil))) ma_nil))))) (all_c (fun C a oe d pn hC hz hf hd => by
        cases hC
        obtain rfl := hd rfl
        exact (mb_one (ms_ret (m_bm PySem.F.plainAttrs_str PySem.F.slot_str_join PySem.F.type_str_join mt_join isStr_ok w_join m_str (ma_cons (m_lst (ma_cons (m_ix (m_lst (ma_cons m_str (ma_cons m_str ma_nil))) (m_callTy call_int1 l_int (by rfl) Z.z_int b_int (ma_cons (m_isErr (zv := .cls 23) Z.xc_NotClean hz hf Z.z_isinstance (by rfl) (pv 3) (pe_glob (v := .ref A.c_BadTable) (by rfl) Z.E_BadTable.gC rfl) (fun _ h => h) Z.ki_NotClean_BadTable) ma_nil))) (ma_cons (m_ix (m_lst (ma_cons m_str (ma_cons m_str ma_nil))) (m_callTy call_int1 l_int (by rfl) Z.z_int b_int (ma_cons (m_isErr (zv := .cls 24) Z.xc_NotClean hz hf Z.z_isinstance (by rfl) (pv 3) (pe_glob (v := .ref A.c_NotClean) (by rfl) Z.E_NotClean.gC rfl) (fun _ h => h) Z.ki_NotClean_NotClean) ma_nil))) ma_nil))) ma_nil))))) all_n))))
theorem ok__law_words (Z : Tx K mg A) : FnOk P w K mg base (L2.CX P w) 1 A._law_words A.fd__law_words ["_law_many"] (spD K (tb A) 1 F__law_words) :=
  fn_ok Z.F__law_words sc__law_words fun _ _ _ _ _ _ h => by
    unfold B__law_words
    exact (mb_cons (ms_set (i := 1) h.nd rfl (by first | exact .inl rfl | exact .inr rfl) (m_lst (ma_cons (m_tup ma_nil) ma_nil)))
      (mb_cons (ms_for h.hp h.calm (i_range1 (by rfl) Z.z_range (m_var 0)) (g_name h.nd rfl (by first | exact .inl rfl | exact .inr rfl)) (mb_cons (ms_set (i := 3) h.nd rfl (by first | exact .inl rfl | exact .inr rfl) (m_lst ma_nil))
      (mb_cons (ms_for h.hp h.calm (i_seq (m_var 1)) (g_name h.nd rfl (by first | exact .inl rfl | exact .inr rfl)) (mb_one (ms_set (i := 3) h.nd rfl (by first | exact .inl rfl | exact .inr rfl) (m_op add_all (o_add false) (m_var 3) (m_lst (ma_cons (m_op add_all (o_add false) (m_var 4) (m_tup (ma_cons m_int ma_nil))) (ma_cons (m_op add_all (o_add false) (m_var 4) (m_tup (ma_cons m_int ma_nil))) ma_nil)))))))
      (mb_one (ms_set (i := 1) h.nd rfl (by first | exact .inl rfl | exact .inr rfl) (m_var 3))))))
      (mb_one (ms_ret (m_var 1)))))
theorem ok__law_taken (Z : Tx K mg A) : FnOk P w K mg base (L2.CX P w) 1 A._law_taken A.fd__law_taken ["_law_gates_here", "_law_bits"] (spD K (tb A) 2 F__law_taken) :=
  fn_ok Z.F__law_taken sc__law_taken fun _ _ _ _ _ _ h => by
    unfold B__law_taken
    exact (mb_cons (ms_set (i := 2) h.nd rfl (by first | exact .inl rfl | exact .inr rfl) (m_callTy call_list_of (l_list true) (by rfl) Z.z_list b_list (ma_cons (m_var 1) ma_nil)))
      (mb_cons (ms_for h.hp h.calm (i_seq (m_var 0)) (g_name h.nd rfl (by first | exact .inl rfl | exact .inr rfl)) (mb_one (ms_if (mt_tru (m_callB (cr_all h.calm) l_all (by rfl) Z.z_all b_all (ma_cons (m_lc (own := [("_law_line", 6)]) h.calm h.nd (i_seq (m_ix (m_var 3) m_int)) (blkOk_by (N := N__law_taken) (sc := defScope s__law_taken) (by decide +kernel)) (by decide) (fun _ _ _ _ _ => (g_name (h.blk _ _ _ _ _).nd rfl (by first | exact .inl rfl | exact .inr rfl))) (fun _ _ _ _ _ => mts_nil) (fun _ _ _ _ _ => (m_cmp (op_eqD (h.blk _ _ _ _ _).hu) o_eq (m_ix (m_var 2) (m_var 6)) m_int (nomark _)))) ma_nil))) (mb_one (ms_if (mt_cmp (op_eqD h.hu) o_eq (m_ix (m_var 3) m_int) m_str (nomark _)) (mb_one (ms_setIx (m_op op_sub o_sub m_int (m_ix (m_var 2) (m_ix (m_var 3) m_int))) (m_var 2) (m_ix (m_var 3) m_int))) (mb_cons (ms_par (i := 4) (j := 5) h.calm h.nd rfl rfl (by decide) rfl rfl (ma_cons (m_ix (m_var 2) (m_ix (m_var 3) m_int)) (ma_cons (m_ix (m_var 2) (m_ix (m_var 3) m_int)) ma_nil)))
      (mb_cons (ms_setIx (m_var 5) (m_var 2) (m_ix (m_var 3) m_int))
      (mb_one (ms_setIx (m_var 4) (m_var 2) (m_ix (m_var 3) m_int))))))) mb_nil)))
      (mb_one (ms_ret (m_callTy call_tuple_of l_tuple (by rfl) Z.z_tuple b_tuple (ma_cons (m_var 2) ma_nil))))))
theorem ok__law_due (Z : Tx K mg A) : FnOk P w K mg base (L2.CX P w) 2 A._law_due A.fd__law_due ["_law_gates_here", "_law_lines", "_law_k", "_law_m"] (spD K (tb A) 4 F__law_due) :=
  fn_ok Z.F__law_due sc__law_due fun _ _ _ _ _ _ h => by
    unfold B__law_due
    exact (mb_cons (ms_if (mw_or (mt_cmp op_lt o_lt (m_var 2) m_int (nomark _)) (mw_or (mt_cmp op_gt o_gt (m_var 2) m_int (nomark _)) (mw_or (mt_cmp op_lt o_lt (m_var 3) m_int (nomark _)) (mw_or (mt_cmp op_gt o_gt (m_var 3) m_int (nomark _)) (mw_or1 (mt_cmp op_lt o_lt (m_var 1) (m_op add_all (o_add false) (m_var 2) (m_var 3)) (nomark _))))))).pt (mb_one (ms_ret m_str)) mb_nil)
      (mb_cons (ms_set (i := 4) h.nd rfl (by first | exact .inl rfl | exact .inr rfl) (m_lst ma_nil))
      (mb_cons (ms_for h.hp h.calm (i_seq (m_call (ok__law_words Z) (h.room.mono (by decide)) (by rfl) Z.g__law_words Z.F__law_words.kp Z.b__law_words (ma_cons (m_var 2) ma_nil))) (g_name h.nd rfl (by first | exact .inl rfl | exact .inr rfl)) (mb_cons (ms_set (i := 6) h.nd rfl (by first | exact .inl rfl | exact .inr rfl) (m_call (ok__law_taken Z) (h.room.mono (by decide)) (by rfl) Z.g__law_taken Z.F__law_taken.kp Z.b__law_taken (ma_cons (m_var 0) (ma_cons (m_op add_all (o_add false) (m_var 5) (m_op op_repA o_repT (m_tup (ma_cons m_int ma_nil)) (m_op op_sub o_sub (m_var 1) (m_var 2)))) ma_nil))))
      (mb_cons (ms_if (mw_or (mt_cmp (op_neD h.hu) o_ne (m_cut (m_var 6) mo_none (mo_some (m_var 2))) (m_var 5) (nomark _)) (mw_or1 (mt_cmp (or_in h.hu65) (o_in false) m_int (m_cut (m_var 6) (mo_some (m_op add_all (o_add false) (m_var 2) (m_var 3))) mo_none) (by rfl)))).pt (mb_one (ms_ret m_str)) mb_nil)
      (mb_one (ms_expr (m_bm PySem.F.plainAttrs_list PySem.F.slot_list_append PySem.F.type_list_append mt_append isLst_ok w_append (m_var 4) (ma_cons (m_cut (m_var 6) (mo_some (m_var 2)) (mo_some (m_op add_all (o_add false) (m_var 2) (m_var 3)))) ma_nil)))))))
      (mb_one (ms_ret (m_frz (m_var 4)))))))
theorem ok_Net_gates (Z : Tx K mg A) : FnOk P w K mg base (L2.CX P w) 1 A.Net_gates A.fd_Net_gates ["self"] (spD K (tb A) 1 F_Net_gates) :=
  fn_ok Z.F_Net_gates sc_Net_gates fun _ _ _ _ _ _ h => by
    unfold B_Net_gates
    exact (mb_one (ms_ret (m_callTy call_list_of (l_list false) (by rfl) Z.z_list b_list (ma_cons (m_attr (i := 1) Z.O_Net (by rfl) (m_var 0)) ma_nil))))
theorem ok_law (Z : Tx K mg A) : FnOk P w K mg base (L2.CX P w) 6 A.law A.fd_law ["_law_script"] (spD K (tb A) 1 F_law) :=
  fn_ok Z.F_law sc_law fun _ _ _ _ _ _ h => by
    unfold B_law
    exact (mb_cons (ms_set (i := 1) h.nd rfl (by first | exact .inl rfl | exact .inr rfl) (m_call (ok__law_draws Z) (h.room.mono (by decide)) (by rfl) Z.g__law_draws Z.F__law_draws.kp Z.b__law_draws (ma_cons (m_var 0) (ma_cons m_int ma_nil))))
      (mb_cons (ms_set (i := 2) h.nd rfl (by first | exact .inl rfl | exact .inr rfl) (m_op add_all (o_add false) m_int (m_op op_mod o_mod (m_ix (m_var 1) m_int) m_int)))
      (mb_cons (ms_asg (m_tup (ma_cons (m_op op_mod o_mod (m_ix (m_var 1) m_int) m_int) (ma_cons (m_op op_mod o_mod (m_ix (m_var 1) m_int) m_int) ma_nil))) (g_tup h.calm (gs_cons (g_name h.nd rfl (by first | exact .inl rfl | exact .inr rfl)) (gs_cons (g_name h.nd rfl (by first | exact .inl rfl | exact .inr rfl)) gs_nil))))
      (mb_cons (ms_set (i := 5) h.nd rfl (by first | exact .inl rfl | exact .inr rfl) (m_call (ok__law_gates Z) (h.room.mono (by decide)) (by rfl) Z.g__law_gates Z.F__law_gates.kp Z.b__law_gates (ma_cons (m_var 1) (ma_cons m_int (ma_cons (m_op op_mod o_mod (m_ix (m_var 1) m_int) m_int) (ma_cons (m_var 2) ma_nil))))))
      (mb_cons (ms_if (mt_cmp op_gt o_gt (m_op op_mod o_mod (m_ix (m_var 1) m_int) m_int) m_int (nomark _)) (mb_one (ms_setLc (i := 5) (own := [("_law_gate", 8)]) h.calm h.nd rfl rfl (sw_true rfl rfl rfl (by decide +kernel)) (i_seq (m_var 5)) (blkOk_by (N := N_law) (sc := defScope s_law) (by decide +kernel)) (by decide) (fun _ _ _ _ _ => (g_name (h.blk _ _ _ _ _).nd rfl (by first | exact .inl rfl | exact .inr rfl))) (fun _ _ _ _ _ => mts_one (mw_and (mt_cmp op_ge o_ge (m_callB (cr_min (h.blk _ _ _ _ _).calm (h.blk _ _ _ _ _).hu) (l_best min) (by rfl) Z.z_min b_min (ma_cons (m_cut (m_var 8) (mo_some m_int) mo_none) ma_nil)) (m_var 3) (nomark _)) (mw_and1 (mt_cmp op_lt o_lt (m_callB (cr_max (h.blk _ _ _ _ _).calm (h.blk _ _ _ _ _).hu) (l_best max) (by rfl) Z.z_max b_max (ma_cons (m_cut (m_var 8) (mo_some m_int) mo_none) ma_nil)) (m_op add_all (o_add false) (m_var 3) (m_var 4)) (nomark _)))).pt) (fun _ _ _ _ _ => (m_var 8)))) mb_nil)
      (mb_cons (ms_if (mt_cmp (op_eqD h.hu) o_eq (m_op op_mod o_mod (m_ix (m_var 1) m_int) m_int) m_int (nomark _)) (mb_one (ms_asg (m_ix (m_lst (ma_cons (m_tup (ma_cons m_int (ma_cons m_int ma_nil))) (ma_cons (m_tup (ma_cons m_int (ma_cons m_int ma_nil))) (ma_cons (m_tup (ma_cons m_int (ma_cons m_int ma_nil))) (ma_cons (m_tup (ma_cons m_int (ma_cons m_int ma_nil))) (ma_cons (m_tup (ma_cons (m_un un_neg o_neg m_int) (ma_cons m_int ma_nil))) ma_nil)))))) (m_op op_mod o_mod (m_ix (m_var 1) m_int) m_int)) (g_tup h.calm (gs_cons (g_name h.nd rfl (by first | exact .inl rfl | exact .inr rfl)) (gs_cons (g_name h.nd rfl (by first | exact .inl rfl | exact .inr rfl)) gs_nil))))) mb_nil)
      (mb_cons (ms_set (i := 6) h.nd rfl (by first | exact .inl rfl | exact .inr rfl) (m_frz (m_make Z.O_Net Z.M_Net (ok_Net___init__ Z) (h.room.mono (by decide)) (by rfl) Z.g_Net Z.b_Net___init__ (ma_cons (m_var 2) (ma_cons (m_var 5) ma_nil)))))
      (mb_cons (ms_set (i := 7) h.nd rfl (by first | exact .inl rfl | exact .inr rfl) (m_call (ok__law_found Z) (h.room.mono (by decide)) (by rfl) Z.g__law_found Z.F__law_found.kp Z.b__law_found (ma_cons (m_var 6) (ma_cons (m_var 3) (ma_cons (m_var 4) ma_nil)))))
      (mb_one (ms_ret (m_and (m_cmp (op_eqD h.hu) o_eq (m_var 7) (m_call (ok__law_due Z) (h.room.mono (by decide)) (by rfl) Z.g__law_due Z.F__law_due.kp Z.b__law_due (ma_cons (m_var 5) (ma_cons (m_var 2) (ma_cons (m_var 3) (ma_cons (m_var 4) ma_nil))))) (nomark _)) (m_one (m_cmp (op_eqD h.hu) o_eq (m_meth0 Z.O_Net (by show ("gates" : Str) ∉ (["lines", "_gates"] : List Str); decide +kernel) (m_var 6) Z.m_Net_gates (ok_Net_gates Z) (h.room.mono (by decide)) Z.b_Net_gates) (m_var 5) (nomark _))))))))))))))
end
/-! ### lifts -/
theorem lf__law_draws : LF [.s, .s] .v F__law_draws G__law_draws_2 := by
  unfold F__law_draws G__law_draws_2 B__law_draws
  exact lf_of (κ2 := [.o, .s, .s, .s, .s]) rfl (ls_seq (ls_setO 2 rfl (le_lstN lv_nil))
      (ls_seq (ls_set 3 rfl le_c)
      (ls_seq (ls_for (li_seq (le_cut (LE.q (le_var 0 rfl)) lo_none (lo_some le_c))) rfl (ls_seq (ls_set 5 rfl (le_bi (rl_abs) (nx_abs) (la_cons (LE.q (le_var 4 rfl)) la_nil)))
      (ls_seq (ls_if (lt_b (le_bin rs_ge nx_ge (LE.q (le_var 5 rfl)) (LE.q (le_bin rs_pow nx_pow (LE.q le_c) (LE.q le_c))))) (ls_for (li_range1 le_c) rfl (ls_if (lt_b (le_bin rs_gt nx_gt (LE.q (le_var 5 rfl)) (LE.q le_c))) (ls_seq (ls_app rfl rfl (le_bin rs_mod nx_mod (LE.q (le_bi (rl_int) (nx_int) (la_cons (LE.q (le_var 5 rfl)) la_nil))) (LE.q le_c)))
      (ls_set 5 rfl (le_bin rs_fdiv nx_fdiv (LE.q (le_var 5 rfl)) (LE.q le_c)))) ls_next)) (ls_seq (ls_app rfl rfl (le_bin rs_mod nx_mod (LE.q (le_bi (rl_int) (nx_int) (la_cons (LE.q (le_bin rs_add nx_add (LE.q (le_bin rs_add nx_add (LE.q (le_bin rs_mul nx_mul (LE.q (le_var 5 rfl)) (LE.q le_c))) (LE.q (le_bin rs_mul nx_mul (LE.q (le_var 3 rfl)) (LE.q le_c))))) (LE.q le_c))) la_nil))) (LE.q le_c)))
      (ls_app rfl rfl (le_bin rs_mod nx_mod (LE.q (le_bi (rl_int) (nx_int) (la_cons (LE.q (le_bin rs_add nx_add (LE.q (le_bin rs_add nx_add (LE.q (le_bin rs_add nx_add (LE.q (le_bin rs_mul nx_mul (LE.q (le_var 5 rfl)) (LE.q le_c))) (LE.q (le_bin rs_mul nx_mul (LE.q (le_var 3 rfl)) (LE.q le_c))))) (LE.q le_c))) (LE.q (le_bin rs_mul nx_mul (LE.q (le_var 5 rfl)) (LE.q (le_var 5 rfl)))))) la_nil))) (LE.q le_c)))))
      (ls_set 3 rfl (le_bin rs_add nx_add (LE.q (le_var 3 rfl)) (LE.q le_c))))))
      (ls_seq (ls_for (li_range1 (le_var 1 rfl)) rfl (ls_if (lt_b (le_bin rs_lt nx_lt (LE.q (le_bi (rl_len) (nx_len) (la_cons (le_varQ 2 rfl (by decide)) la_nil))) (LE.q (le_var 1 rfl)))) (ls_app rfl rfl (le_bin rs_mod nx_mod (LE.q (le_bi (rl_int) (nx_int) (la_cons (LE.q (le_bin rs_add nx_add (LE.q (le_bin rs_add nx_add (LE.q (le_bin rs_mul nx_mul (LE.q (le_bi (rl_len) (nx_len) (la_cons (le_varQ 2 rfl (by decide)) la_nil))) (LE.q le_c))) (LE.q (le_bin rs_mul nx_mul (LE.q le_c) (LE.q (le_var 3 rfl)))))) (LE.q (le_bin rs_mul nx_mul (LE.q (le_bin rs_mul nx_mul (LE.q (le_var 6 rfl)) (LE.q (le_var 6 rfl)))) (LE.q le_c))))) la_nil))) (LE.q le_c))) ls_next))
      (ls_ret (le_cut (le_varQ 2 rfl (by decide)) lo_none (lo_some (le_var 1 rfl))))))))
theorem lf__law_gates : LF [.s, .s, .s, .s] .v F__law_gates G__law_gates := by
  unfold F__law_gates G__law_gates B__law_gates
  exact lf_of (κ2 := [.o, .s, .s, .s, .o, .s, .s, .o, .s]) rfl (ls_seq (ls_setO 4 rfl (le_lstN lv_nil))
      (ls_seq (ls_for (li_range1 (le_var 2 rfl)) rfl (ls_seq (ls_par 6 7 rfl rfl (lv_cons (le_bin rs_ix nx_ix (LE.q (le_var 0 rfl)) (LE.q (le_bin rs_add nx_add (LE.q (le_var 1 rfl)) (LE.q (le_bin rs_mul nx_mul (LE.q le_c) (LE.q (le_var 5 rfl))))))) (lv_cons (le_bin rs_ix nx_ix (LE.q (le_var 0 rfl)) (LE.q (le_bin rs_add nx_add (LE.q (le_bin rs_add nx_add (LE.q (le_var 1 rfl)) (LE.q (le_bin rs_mul nx_mul (LE.q le_c) (LE.q (le_var 5 rfl)))))) (LE.q le_c)))) lv_nil)))
      (ls_seq (ls_setO 8 rfl (le_listRN le_c (le_var 3 rfl)))
      (ls_seq (ls_setX 9 rfl (lx_pop (j := 8) rfl rfl (le_bin rs_mod nx_mod (LE.q (le_var 6 rfl)) (LE.q (le_var 3 rfl)))))
      (ls_seq (ls_set 10 rfl (le_tup (lv_cons le_c (lv_cons (le_tup lv_nil) (lv_cons (le_var 9 rfl) lv_nil)))))
      (ls_seq (ls_if (lt_and (lt_b (le_bin rs_eq nx_eq (LE.q (le_bin rs_mod nx_mod (LE.q (le_bin rs_fdiv nx_fdiv (LE.q (le_var 6 rfl)) (LE.q (le_var 3 rfl)))) (LE.q le_c))) (LE.q le_c))) (lt_b (le_bin rs_gt nx_gt (LE.q (le_bi (rl_len) (nx_len) (la_cons (le_varQ 8 rfl (by decide)) la_nil))) (LE.q le_c)))) (ls_setX 10 rfl (lx_tup (lax_cons le_c (lax_cons (le_tup lv_nil) (lax_cons (le_var 9 rfl) (lax_last (lx_pop (j := 8) rfl rfl (le_bin rs_mod nx_mod (LE.q (le_bin rs_fdiv nx_fdiv (LE.q (le_var 6 rfl)) (LE.q le_c))) (LE.q (le_bi (rl_len) (nx_len) (la_cons (le_varQ 8 rfl (by decide)) la_nil))))))))))) ls_next)
      (ls_seq (ls_setO 11 rfl (le_lstN lv_nil))
      (ls_seq (ls_for (li_range1 (le_bin rs_mod nx_mod (LE.q (le_bin rs_fdiv nx_fdiv (LE.q (le_var 6 rfl)) (LE.q le_c))) (LE.q le_c))) rfl (ls_if (lt_b (le_bin rs_gt nx_gt (LE.q (le_bi (rl_len) (nx_len) (la_cons (le_varQ 8 rfl (by decide)) la_nil))) (LE.q le_c))) (ls_appX rfl rfl (lx_pop (j := 8) rfl rfl (le_bin rs_mod nx_mod (LE.q (le_bin rs_fdiv nx_fdiv (LE.q (le_var 7 rfl)) (LE.q (le_bin rs_add nx_add (LE.q (le_var 12 rfl)) (LE.q le_c))))) (LE.q (le_bi (rl_len) (nx_len) (la_cons (le_varQ 8 rfl (by decide)) la_nil)))))) ls_next))
      (ls_app rfl rfl (le_bin rs_add nx_add (LE.q (le_tup (lv_cons (le_bin rs_ix nx_ix (LE.q (le_var 10 rfl)) (LE.q le_c)) (lv_cons (le_bi (rl_tuple) (nx_tuple) (la_cons (LE.q (le_bi (rl_sortB) (nx_sortB) (la_cons (le_varQ 11 rfl (by decide)) la_nil))) la_nil)) lv_nil)))) (LE.q (le_cut (LE.q (le_var 10 rfl)) (lo_some le_c) lo_none))))))))))))
      (ls_retZ 4 rfl)))
theorem lf_is_line : LF [.s, .s] .v F_is_line G_is_line := by
  unfold F_is_line G_is_line B_is_line
  exact lf_of (κ2 := []) rfl (ls_ret (le_and (le_bi (rl_isi) (nx_isi) (la_cons (LE.q (le_var 0 rfl)) (la_cons (LE.q le_c) la_nil))) (le_and (le_not (le_bi (rl_isi) (nx_isi) (la_cons (LE.q (le_var 0 rfl)) (la_cons (LE.q le_c) la_nil)))) (le_chain rs_le nx_le rs_lt nx_lt (LE.q le_c) (LE.q (le_var 0 rfl)) (LE.q (le_var 1 rfl))))))
theorem lf_is_gate : LF [.s, .s] .v F_is_gate G_is_gate := by
  unfold F_is_gate G_is_gate B_is_gate
  exact lf_of (κ2 := [.s, .s, .s, .s]) rfl (ls_seq (ls_if (lt_or (lt_not (lt_tru (LE.q (le_bi (rl_isi) (nx_isi) (la_cons (LE.q (le_var 0 rfl)) (la_cons (LE.q le_c) la_nil)))))) (lt_or (lt_b (le_bin rs_lt nx_lt (LE.q (le_bi (rl_len) (nx_len) (la_cons (LE.q (le_var 0 rfl)) la_nil))) (LE.q le_c))) (lt_not (lt_tru (LE.q (le_bi (rl_isi) (nx_isi) (la_cons (LE.q (le_bin rs_ix nx_ix (LE.q (le_var 0 rfl)) (LE.q le_c))) (la_cons (LE.q le_c) la_nil)))))))) (ls_ret le_c) ls_next)
      (ls_seq (ls_if (lt_or (lt_b (le_bin (rs_in true) (nx_in true) (LE.q (le_bin rs_ix nx_ix (LE.q (le_var 0 rfl)) (LE.q le_c))) (LE.q (le_tup (lv_cons le_c (lv_cons le_c lv_nil)))))) (lt_b (le_bin rs_ne nx_ne (LE.q (le_bi (rl_len) (nx_len) (la_cons (LE.q (le_var 0 rfl)) la_nil))) (LE.q (le_if (lt_b (le_bin rs_eq nx_eq (LE.q (le_bin rs_ix nx_ix (LE.q (le_var 0 rfl)) (LE.q le_c))) (LE.q le_c))) le_c le_c))))) (ls_ret le_c) ls_next)
      (ls_seq (ls_set 2 rfl (le_bin rs_add nx_add (LE.q (le_bin rs_ix nx_ix (LE.q (le_var 0 rfl)) (LE.q le_c))) (LE.q (le_cut (LE.q (le_var 0 rfl)) (lo_some le_c) lo_none))))
      (ls_seq (ls_if (lt_not (lt_tru (LE.q (le_bi (rl_all) (nx_all) (la_cons (LE.q (le_lc (LI.le (li_seq (le_var 2 rfl))) rfl rfl lt_yes (le_call lf_is_line (lr_s (le_var 4 rfl) (lr_s (le_var 1 rfl) lr_nil))))) la_nil))))) (ls_ret le_c) ls_next)
      (ls_seq (ls_set 3 rfl (le_bi (rl_all) (nx_all) (la_cons (LE.q (le_lc (LI.le (li_range1 (le_bin rs_sub nx_sub (LE.q (le_bi (rl_len) (nx_len) (la_cons (LE.q (le_bin rs_ix nx_ix (LE.q (le_var 0 rfl)) (LE.q le_c))) la_nil))) (LE.q le_c)))) rfl rfl lt_yes (le_bin rs_lt nx_lt (LE.q (le_bin rs_ix nx_ix (LE.q (le_bin rs_ix nx_ix (LE.q (le_var 0 rfl)) (LE.q le_c))) (LE.q (le_var 5 rfl)))) (LE.q (le_bin rs_ix nx_ix (LE.q (le_bin rs_ix nx_ix (LE.q (le_var 0 rfl)) (LE.q le_c))) (LE.q (le_bin rs_add nx_add (LE.q (le_var 5 rfl)) (LE.q le_c)))))))) la_nil)))
      (ls_ret (le_and (le_var 3 rfl) (le_bin rs_eq nx_eq (LE.q (le_bi (rl_lenD) (nx_lenD) (la_cons (LE.fq (le_dc (LI.le (li_seq (le_var 2 rfl))) rfl rfl lt_yes (le_var 4 rfl) le_c)) la_nil))) (LE.q (le_bi (rl_len) (nx_len) (la_cons (LE.q (le_var 2 rfl)) la_nil)))))))))))
theorem lf_Net___init__ : LF [.p, .s, .s] (.p 0) F_Net___init__ G_Net___init__ := by
  unfold F_Net___init__ G_Net___init__ B_Net___init__
  exact lf_ofP (κ2 := [.s]) rfl rfl (ls_seq (ls_if (lt_or (lt_not (lt_tru (LE.q (le_call lf_is_line (lr_s (le_var 1 rfl) (lr_s (le_bin rs_add nx_add (LE.q le_c) (LE.q le_c)) lr_nil)))))) (lt_or (lt_b (le_bin rs_eq nx_eq (LE.q (le_var 1 rfl)) (LE.q le_c))) (lt_b (le_bin rs_gt nx_gt (LE.q (le_bi (rl_len) (nx_len) (la_cons (LE.q (le_var 2 rfl)) la_nil))) (LE.q le_c))))) ls_never ls_next)
      (ls_seq (ls_if (lt_not (lt_tru (LE.q (le_bi (rl_all) (nx_all) (la_cons (LE.q (le_lc (LI.le (li_seq (le_var 2 rfl))) rfl rfl lt_yes (le_call lf_is_gate (lr_s (le_var 3 rfl) (lr_s (le_var 1 rfl) lr_nil))))) la_nil))))) ls_never ls_next)
      (ls_seq (ls_attr rfl rfl (le_var 1 rfl))
      (ls_attr rfl rfl (le_bi (rl_list) (nx_list) (la_cons (LE.q (le_var 2 rfl)) la_nil))))))
theorem lf_words : LF [.s] .v F_words G_words := by
  unfold F_words G_words B_words
  exact lf_of (κ2 := [.s, .s]) rfl (ls_ret (le_lc (LI.le (li_range1 (le_bin rs_shl nx_shl (LE.q le_c) (LE.q (le_var 0 rfl))))) rfl rfl lt_yes (le_bi (rl_tuple) (nx_tuple) (la_cons (LE.q (le_lc (LI.le (li_range1 (le_var 0 rfl))) rfl rfl lt_yes (le_bin rs_and nx_and (LE.q (le_bin rs_shr nx_shr (LE.q (le_var 2 rfl)) (LE.q (le_bin rs_sub nx_sub (LE.q (le_bin rs_sub nx_sub (LE.q (le_var 0 rfl)) (LE.q le_c))) (LE.q (le_var 1 rfl)))))) (LE.q le_c)))) la_nil))))
theorem lf_Net__checked : LF [.f, .s] .v F_Net__checked G_Net__checked := by
  unfold F_Net__checked G_Net__checked B_Net__checked
  exact lf_of (κ2 := [.s]) rfl (ls_seq (ls_if (lt_or (lt_not (lt_tru (LE.q (le_bi (rl_isi) (nx_isi) (la_cons (LE.q (le_var 1 rfl)) (la_cons (LE.q le_c) la_nil)))))) (lt_or (lt_b (le_bin rs_ne nx_ne (LE.q (le_bi (rl_len) (nx_len) (la_cons (LE.q (le_var 1 rfl)) la_nil))) (LE.q (le_attr (le_varQ 0 rfl (by decide)))))) (lt_not (lt_tru (LE.q (le_bi (rl_all) (nx_all) (la_cons (LE.q (le_lc (LI.le (li_seq (le_var 1 rfl))) rfl rfl lt_yes (le_call lf_is_line (lr_s (le_var 2 rfl) (lr_s le_c lr_nil))))) la_nil))))))) ls_never ls_next)
      (ls_ret (le_bi (rl_list) (nx_list) (la_cons (LE.q (le_var 1 rfl)) la_nil))))
theorem lf_Net__checked__bx : LF [.f, .s] .f F_Net__checked__bx G_Net__checked__bx := by
  unfold F_Net__checked__bx G_Net__checked__bx B_Net__checked__bx
  exact lf_ofF (κ2 := [.s]) rfl (nn (nn_seq nn_ret)) (ls_seq (ls_if (lt_or (lt_not (lt_tru (LE.q (le_bi (rl_isi) (nx_isi) (la_cons (LE.q (le_var 1 rfl)) (la_cons (LE.q le_c) la_nil)))))) (lt_or (lt_b (le_bin rs_ne nx_ne (LE.q (le_bi (rl_len) (nx_len) (la_cons (LE.q (le_var 1 rfl)) la_nil))) (LE.q (le_attr (le_varQ 0 rfl (by decide)))))) (lt_not (lt_tru (LE.q (le_bi (rl_all) (nx_all) (la_cons (LE.q (le_lc (LI.le (li_seq (le_var 1 rfl))) rfl rfl lt_yes (le_call lf_is_line (lr_s (le_var 2 rfl) (lr_s le_c lr_nil))))) la_nil))))))) ls_never ls_next)
      (ls_retF (le_biN rln_list nx_list (la_cons (LE.q (le_var 1 rfl)) la_nil))))
theorem lf_taken : LF [.s, .p] (.p 1) F_taken G_taken := by
  unfold F_taken G_taken B_taken
  exact lf_ofP (κ2 := [.s]) rfl rfl (ls_seq (ls_for (li_seq (le_bin rs_ix nx_ix (LE.q (le_var 0 rfl)) (LE.q le_c))) rfl (ls_if (lt_b (le_bin rs_eq nx_eq (LE.q (le_bin rs_ix nx_ix (le_varQ 1 rfl (by decide)) (LE.q (le_var 2 rfl)))) (LE.q le_c))) (ls_retNP rfl) ls_next))
      (ls_if (lt_b (le_bin rs_eq nx_eq (LE.q (le_bin rs_ix nx_ix (LE.q (le_var 0 rfl)) (LE.q le_c))) (LE.q le_c))) (ls_setIx rfl rfl (le_bin rs_ix nx_ix (LE.q (le_var 0 rfl)) (LE.q le_c)) (le_bin rs_sub nx_sub (LE.q le_c) (LE.q (le_bin rs_ix nx_ix (le_varQ 1 rfl (by decide)) (LE.q (le_bin rs_ix nx_ix (LE.q (le_var 0 rfl)) (LE.q le_c))))))) (ls_setIx2 rfl rfl (le_bin rs_ix nx_ix (LE.q (le_var 0 rfl)) (LE.q le_c)) (le_bin rs_ix nx_ix (LE.q (le_var 0 rfl)) (LE.q le_c)) (le_tup (lv_cons (le_bin rs_ix nx_ix (le_varQ 1 rfl (by decide)) (LE.q (le_bin rs_ix nx_ix (LE.q (le_var 0 rfl)) (LE.q le_c)))) (lv_cons (le_bin rs_ix nx_ix (le_varQ 1 rfl (by decide)) (LE.q (le_bin rs_ix nx_ix (LE.q (le_var 0 rfl)) (LE.q le_c)))) lv_nil))))))
theorem lf_Net_run : LF [.f, .s] .v F_Net_run G_Net_run := by
  unfold F_Net_run G_Net_run B_Net_run
  exact lf_of (κ2 := [.o, .s]) rfl (ls_seq (ls_setO 2 rfl (le_methF lf_Net__checked__bx (le_varQ 0 rfl (by decide)) (lr_s (le_var 1 rfl) lr_nil)))
      (ls_seq (ls_for (li_seq (le_attr (le_varQ 0 rfl (by decide)))) rfl (ls_callP rfl rfl lf_taken (.s (le_var 3 rfl) (.p rfl rfl (by decide) .nil))))
      (ls_ret (le_bi (rl_tuple) (nx_tuple) (la_cons (le_varQ 2 rfl (by decide)) la_nil)))))
theorem lf_table_of : LF [.s, .s, .s] .v F_table_of G_table_ofX := by
  unfold F_table_of G_table_ofX B_table_of
  exact lf_of (κ2 := [.o, .s, .s]) rfl (ls_seq (ls_if (lt_or (lt_not (lt_tru (LE.q (le_call lf_is_line (lr_s (le_var 1 rfl) (lr_s (le_bin rs_add nx_add (LE.q le_c) (LE.q le_c)) lr_nil)))))) (lt_or (lt_not (lt_tru (LE.q (le_call lf_is_line (lr_s (le_var 2 rfl) (lr_s (le_bin rs_add nx_add (LE.q le_c) (LE.q le_c)) lr_nil)))))) (lt_or (lt_b (le_bin rs_lt nx_lt (LE.q (le_bi (rl_min2) (nx_min2) (la_cons (LE.q (le_var 1 rfl)) (la_cons (LE.q (le_var 2 rfl)) la_nil)))) (LE.q le_c))) (lt_b (le_bin rs_lt nx_lt (LE.q (le_attr (LE.q (le_var 0 rfl)))) (LE.q (le_bin rs_add nx_add (LE.q (le_var 1 rfl)) (LE.q (le_var 2 rfl))))))))) ls_raise ls_next)
      (ls_seq (ls_setO 3 rfl (le_lstN lv_nil))
      (ls_seq (ls_for (li_seq (le_call lf_words (lr_s (le_var 1 rfl) lr_nil))) rfl (ls_seq (ls_set 5 rfl (le_meth lf_Net_run (LE.q (le_var 0 rfl)) (lr_s (le_bin rs_add nx_add (LE.q (le_var 4 rfl)) (LE.q (le_bin rs_repT nx_repT (LE.q (le_tup (lv_cons le_c lv_nil))) (LE.q (le_bin rs_sub nx_sub (LE.q (le_attr (LE.q (le_var 0 rfl)))) (LE.q (le_var 1 rfl))))))) lr_nil)))
      (ls_seq (ls_if (lt_or (lt_b (le_bin rs_ne nx_ne (LE.q (le_cut (LE.q (le_var 5 rfl)) lo_none (lo_some (le_var 1 rfl)))) (LE.q (le_var 4 rfl)))) (lt_tru (LE.q (le_bi (rl_anyI) (nx_anyI) (la_cons (LE.q (le_cut (LE.q (le_var 5 rfl)) (lo_some (le_bin rs_add nx_add (LE.q (le_var 1 rfl)) (LE.q (le_var 2 rfl)))) lo_none)) la_nil))))) ls_raise ls_next)
      (ls_app rfl rfl (le_cut (LE.q (le_var 5 rfl)) (lo_some (le_var 1 rfl)) (lo_some (le_bin rs_add nx_add (LE.q (le_var 1 rfl)) (LE.q (le_var 2 rfl)))))))))
      (ls_retZ 3 rfl))))
theorem lf__law_found : LF [.s, .s, .s] .v F__law_found G__law_found_2 := by
  unfold F__law_found G__law_found_2 B__law_found
  exact lf_of (κ2 := [.s]) rfl (ls_try rfl rfl (ls_ret (le_callX lf_table_of (lr_s (le_var 0 rfl) (lr_s (le_var 1 rfl) (lr_s (le_var 2 rfl) lr_nil))))) (.cons (ls_ret (le_bm rm_join isStr_q nx_join (LE.q le_c) (la_cons (LE.q (le_lst (lv_cons (le_bin rs_ix nx_ix (LE.q (le_lst (lv_cons le_c (lv_cons le_c lv_nil)))) (LE.q (le_bi (rl_int) (nx_int) (la_cons (LE.q (le_isErr rfl)) la_nil)))) (lv_cons (le_bin rs_ix nx_ix (LE.q (le_lst (lv_cons le_c (lv_cons le_c lv_nil)))) (LE.q (le_bi (rl_int) (nx_int) (la_cons (LE.q (le_isErr rfl)) la_nil)))) lv_nil)))) la_nil))) (qs_ret (q_join q_c (q_cons (q_lst (q_cons (q_ix (q_lst (q_cons q_c (q_cons q_c q_nil))) (q_int (q_cons q_isErr q_nil))) (q_cons (q_ix (q_lst (q_cons q_c (q_cons q_c q_nil))) (q_int (q_cons q_isErr q_nil))) q_nil))) q_nil))) (.cons (ls_ret (le_bm rm_join isStr_q nx_join (LE.q le_c) (la_cons (LE.q (le_lst (lv_cons (le_bin rs_ix nx_ix (LE.q (le_lst (lv_cons le_c (lv_cons le_c lv_nil)))) (LE.q (le_bi (rl_int) (nx_int) (la_cons (LE.q (le_isErr rfl)) la_nil)))) (lv_cons (le_bin rs_ix nx_ix (LE.q (le_lst (lv_cons le_c (lv_cons le_c lv_nil)))) (LE.q (le_bi (rl_int) (nx_int) (la_cons (LE.q (le_isErr rfl)) la_nil)))) lv_nil)))) la_nil))) (qs_ret (q_join q_c (q_cons (q_lst (q_cons (q_ix (q_lst (q_cons q_c (q_cons q_c q_nil))) (q_int (q_cons q_isErr q_nil))) (q_cons (q_ix (q_lst (q_cons q_c (q_cons q_c q_nil))) (q_int (q_cons q_isErr q_nil))) q_nil))) q_nil))) .nil)))
theorem lf__law_words : LF [.s] .v F__law_words G__law_words := by
  unfold F__law_words G__law_words B__law_words
  exact lf_of (κ2 := [.s, .s, .s, .s]) rfl (ls_seq (ls_set 1 rfl (le_lst (lv_cons (le_tup lv_nil) lv_nil)))
      (ls_seq (ls_for (li_range1 (le_var 0 rfl)) rfl (ls_seq (ls_set 3 rfl (le_lst lv_nil))
      (ls_seq (ls_for (li_seq (le_var 1 rfl)) rfl (ls_set 3 rfl (le_bin rs_add nx_add (LE.q (le_var 3 rfl)) (LE.q (le_lst (lv_cons (le_bin rs_add nx_add (LE.q (le_var 4 rfl)) (LE.q (le_tup (lv_cons le_c lv_nil)))) (lv_cons (le_bin rs_add nx_add (LE.q (le_var 4 rfl)) (LE.q (le_tup (lv_cons le_c lv_nil)))) lv_nil)))))))
      (ls_set 1 rfl (le_var 3 rfl)))))
      (ls_ret (le_var 1 rfl))))
theorem lf__law_taken : LF [.s, .s] .v F__law_taken G__law_taken := by
  unfold F__law_taken G__law_taken B__law_taken
  exact lf_of (κ2 := [.o, .s, .s, .s, .s]) rfl (ls_seq (ls_setO 2 rfl (le_biN rln_list nx_list (la_cons (LE.q (le_var 1 rfl)) la_nil)))
      (ls_seq (ls_for (li_seq (le_var 0 rfl)) rfl (ls_if (lt_tru (LE.q (le_bi (rl_all) (nx_all) (la_cons (LE.q (le_lc (LI.le (li_seq (le_bin rs_ix nx_ix (LE.q (le_var 3 rfl)) (LE.q le_c)))) rfl rfl lt_yes (le_bin rs_eq nx_eq (LE.q (le_bin rs_ix nx_ix (le_varQ 2 rfl (by decide)) (LE.q (le_var 6 rfl)))) (LE.q le_c)))) la_nil)))) (ls_if (lt_b (le_bin rs_eq nx_eq (LE.q (le_bin rs_ix nx_ix (LE.q (le_var 3 rfl)) (LE.q le_c))) (LE.q le_c))) (ls_setIx rfl rfl (le_bin rs_ix nx_ix (LE.q (le_var 3 rfl)) (LE.q le_c)) (le_bin rs_sub nx_sub (LE.q le_c) (LE.q (le_bin rs_ix nx_ix (le_varQ 2 rfl (by decide)) (LE.q (le_bin rs_ix nx_ix (LE.q (le_var 3 rfl)) (LE.q le_c))))))) (ls_seq (ls_par 4 5 rfl rfl (lv_cons (le_bin rs_ix nx_ix (le_varQ 2 rfl (by decide)) (LE.q (le_bin rs_ix nx_ix (LE.q (le_var 3 rfl)) (LE.q le_c)))) (lv_cons (le_bin rs_ix nx_ix (le_varQ 2 rfl (by decide)) (LE.q (le_bin rs_ix nx_ix (LE.q (le_var 3 rfl)) (LE.q le_c)))) lv_nil)))
      (ls_seq (ls_setIx rfl rfl (le_bin rs_ix nx_ix (LE.q (le_var 3 rfl)) (LE.q le_c)) (le_var 5 rfl))
      (ls_setIx rfl rfl (le_bin rs_ix nx_ix (LE.q (le_var 3 rfl)) (LE.q le_c)) (le_var 4 rfl))))) ls_next))
      (ls_ret (le_bi (rl_tuple) (nx_tuple) (la_cons (le_varQ 2 rfl (by decide)) la_nil)))))
theorem lf__law_due : LF [.s, .s, .s, .s] .v F__law_due G__law_due := by
  unfold F__law_due G__law_due B__law_due
  exact lf_of (κ2 := [.o, .s, .s]) rfl (ls_seq (ls_if (lt_or (lt_b (le_bin rs_lt nx_lt (LE.q (le_var 2 rfl)) (LE.q le_c))) (lt_or (lt_b (le_bin rs_gt nx_gt (LE.q (le_var 2 rfl)) (LE.q le_c))) (lt_or (lt_b (le_bin rs_lt nx_lt (LE.q (le_var 3 rfl)) (LE.q le_c))) (lt_or (lt_b (le_bin rs_gt nx_gt (LE.q (le_var 3 rfl)) (LE.q le_c))) (lt_b (le_bin rs_lt nx_lt (LE.q (le_var 1 rfl)) (LE.q (le_bin rs_add nx_add (LE.q (le_var 2 rfl)) (LE.q (le_var 3 rfl)))))))))) (ls_ret le_c) ls_next)
      (ls_seq (ls_setO 4 rfl (le_lstN lv_nil))
      (ls_seq (ls_for (li_seq (le_call lf__law_words (lr_s (le_var 2 rfl) lr_nil))) rfl (ls_seq (ls_set 6 rfl (le_call lf__law_taken (lr_s (le_var 0 rfl) (lr_s (le_bin rs_add nx_add (LE.q (le_var 5 rfl)) (LE.q (le_bin rs_repT nx_repT (LE.q (le_tup (lv_cons le_c lv_nil))) (LE.q (le_bin rs_sub nx_sub (LE.q (le_var 1 rfl)) (LE.q (le_var 2 rfl))))))) lr_nil))))
      (ls_seq (ls_if (lt_or (lt_b (le_bin rs_ne nx_ne (LE.q (le_cut (LE.q (le_var 6 rfl)) lo_none (lo_some (le_var 2 rfl)))) (LE.q (le_var 5 rfl)))) (lt_b (le_bin (rs_in false) (nx_in false) (LE.q le_c) (LE.q (le_cut (LE.q (le_var 6 rfl)) (lo_some (le_bin rs_add nx_add (LE.q (le_var 2 rfl)) (LE.q (le_var 3 rfl)))) lo_none))))) (ls_ret le_c) ls_next)
      (ls_app rfl rfl (le_cut (LE.q (le_var 6 rfl)) (lo_some (le_var 2 rfl)) (lo_some (le_bin rs_add nx_add (LE.q (le_var 2 rfl)) (LE.q (le_var 3 rfl)))))))))
      (ls_retZ 4 rfl))))
theorem lf_Net_gates : LF [.f] .v F_Net_gates G_Net_gates := by
  unfold F_Net_gates G_Net_gates B_Net_gates
  exact lf_of (κ2 := []) rfl (ls_ret (le_bi (rl_list) (nx_list) (la_cons (LE.q (le_attr (le_varQ 0 rfl (by decide)))) la_nil)))
theorem lf_law : LF [.s] .v F_law G_law_21 := by
  unfold F_law G_law_21 B_law
  exact lf_of (κ2 := [.s, .s, .s, .s, .s, .s, .s, .s]) rfl (ls_seq (ls_set 1 rfl (le_call lf__law_draws (lr_s (le_var 0 rfl) (lr_s le_c lr_nil))))
      (ls_seq (ls_set 2 rfl (le_bin rs_add nx_add (LE.q le_c) (LE.q (le_bin rs_mod nx_mod (LE.q (le_bin rs_ix nx_ix (LE.q (le_var 1 rfl)) (LE.q le_c))) (LE.q le_c)))))
      (ls_seq (ls_asg rfl (le_tup (lv_cons (le_bin rs_mod nx_mod (LE.q (le_bin rs_ix nx_ix (LE.q (le_var 1 rfl)) (LE.q le_c))) (LE.q le_c)) (lv_cons (le_bin rs_mod nx_mod (LE.q (le_bin rs_ix nx_ix (LE.q (le_var 1 rfl)) (LE.q le_c))) (LE.q le_c)) lv_nil))))
      (ls_seq (ls_set 5 rfl (le_call lf__law_gates (lr_s (le_var 1 rfl) (lr_s le_c (lr_s (le_bin rs_mod nx_mod (LE.q (le_bin rs_ix nx_ix (LE.q (le_var 1 rfl)) (LE.q le_c))) (LE.q le_c)) (lr_s (le_var 2 rfl) lr_nil))))))
      (ls_seq (ls_if (lt_b (le_bin rs_gt nx_gt (LE.q (le_bin rs_mod nx_mod (LE.q (le_bin rs_ix nx_ix (LE.q (le_var 1 rfl)) (LE.q le_c))) (LE.q le_c))) (LE.q le_c))) (ls_set 5 rfl (le_lc (LI.le (li_seq (le_var 5 rfl))) rfl rfl (lt_and (lt_b (le_bin rs_ge nx_ge (LE.q (le_bi (rl_best min) (nx_best min) (la_cons (LE.q (le_cut (LE.q (le_var 8 rfl)) (lo_some le_c) lo_none)) la_nil))) (LE.q (le_var 3 rfl)))) (lt_b (le_bin rs_lt nx_lt (LE.q (le_bi (rl_best max) (nx_best max) (la_cons (LE.q (le_cut (LE.q (le_var 8 rfl)) (lo_some le_c) lo_none)) la_nil))) (LE.q (le_bin rs_add nx_add (LE.q (le_var 3 rfl)) (LE.q (le_var 4 rfl))))))) (le_var 8 rfl))) ls_next)
      (ls_seq (ls_if (lt_b (le_bin rs_eq nx_eq (LE.q (le_bin rs_mod nx_mod (LE.q (le_bin rs_ix nx_ix (LE.q (le_var 1 rfl)) (LE.q le_c))) (LE.q le_c))) (LE.q le_c))) (ls_asg rfl (le_bin rs_ix nx_ix (LE.q (le_lst (lv_cons (le_tup (lv_cons le_c (lv_cons le_c lv_nil))) (lv_cons (le_tup (lv_cons le_c (lv_cons le_c lv_nil))) (lv_cons (le_tup (lv_cons le_c (lv_cons le_c lv_nil))) (lv_cons (le_tup (lv_cons le_c (lv_cons le_c lv_nil))) (lv_cons (le_tup (lv_cons (le_un rs_neg nx_neg (LE.q le_c)) (lv_cons le_c lv_nil))) lv_nil))))))) (LE.q (le_bin rs_mod nx_mod (LE.q (le_bin rs_ix nx_ix (LE.q (le_var 1 rfl)) (LE.q le_c))) (LE.q le_c))))) ls_next)
      (ls_seq (ls_set 6 rfl (le_frz (le_make lf_Net___init__ (lr_s (le_var 2 rfl) (lr_s (le_var 5 rfl) lr_nil)))))
      (ls_seq (ls_set 7 rfl (le_call lf__law_found (lr_s (le_var 6 rfl) (lr_s (le_var 3 rfl) (lr_s (le_var 4 rfl) lr_nil)))))
      (ls_ret (le_and (le_bin rs_eq nx_eq (LE.q (le_var 7 rfl)) (LE.q (le_call lf__law_due (lr_s (le_var 5 rfl) (lr_s (le_var 2 rfl) (lr_s (le_var 3 rfl) (lr_s (le_var 4 rfl) lr_nil))))))) (le_bin rs_eq nx_eq (LE.q (le_meth lf_Net_gates (LE.q (le_var 6 rfl)) lr_nil)) (LE.q (le_var 5 rfl)))))))))))))
end K51

set_option maxHeartbeats 2000000
/-! what several laws share -/
namespace BK
open PySem PySem.Spec L2 PM
theorem rn_lcM {α : Type} {f g : α → Val} {xs : List α} {it : IP} {tg : Tgt} {elt : EM} {ws : List Nat} {ρ : Ev} {S : Sto} {P : Val → Sto → Prop} {X : XP} (hit : it ρ S = .ok (xs.map f) S) (hl : xs.length ≤ 1000000)
    (he : ∀ x ∈ xs, ∃ ρ1, tg.set (f x) (wipeE ρ ws) = some ρ1 ∧ elt ρ1 S = .ok (g x) S) (h : P (.lst (xs.map g)) S) : Rn (eLcP it tg tYesM elt ws ρ S) P X := by
  rw [eLcP_map hit (sz hl) he]; exact h
/-- .. as an equation, with a test -/
theorem rn_lcF {α : Type} {f g : α → Val} {t : α → Bool} {xs : List α} {it : IP} {tg : Tgt} {tst : BM} {elt : EM} {ws : List Nat} {ρ : Ev} {S : Sto} {P : Val → Sto → Prop} {X : XP} (hit : it ρ S = .ok (xs.map f) S) (hl : xs.length ≤ 1000000)
    (he : ∀ x ∈ xs, ∃ ρ1, tg.set (f x) (wipeE ρ ws) = some ρ1 ∧ tst ρ1 S = .ok (t x) S ∧ (t x = true → elt ρ1 S = .ok (g x) S)) (h : P (.lst ((xs.filter t).map g)) S) : Rn (eLcP it tg tst elt ws ρ S) P X := by
  rw [eLcP_filter hit (sz hl) he]; exact h
theorem v_allB (l : List Bool) {S : Sto} : vAll [.lst (l.map Val.bl)] S = .ok (.bl (l.all id)) S := by
  have : ∀ l : List Bool, blsOf (l.map Val.bl) = some l := fun l => by
    induction l with
    | nil => rfl
    | cons a l ih => rw [List.map_cons]; unfold blsOf; rw [ih]; rfl
  unfold vAll
  simp only [lstOf, Option.bind, this]
theorem v_allF {α : Type} {f : α → Bool} (l : List α) {S : Sto} : vAll [.lst (l.map fun x => Val.bl (f x))] S = .ok (.bl (l.all f)) S := by
  have := v_allB (l.map f) (S := S)
  rw [List.map_map, List.all_map] at this
  exact this
theorem v_allT {α : Type} (l : List α) {S : Sto} : vAll [.lst (l.map fun _ => Val.bl true)] S = .ok (.bl true) S := by
  rw [v_allF (f := fun _ => true)]; simp
theorem ixN_n {n m : Nat} (h : m < n) : ixN n (m : Int) = some m := by unfold ixN; simp [h]
theorem lst_set {l : List Int} {n : Nat} {x : Int} : Val.lst ((l.map Val.int).set n (.int x)) = il (l.set n x) := by unfold il; rw [List.map_set]
/-- a statement, then the rest -/
theorem sn_then {s t : SM} {ρ : Ev} {S : Sto} {N : Ev → Sto → Prop} {R : Val → Sto → Prop} {B C : Ev → Sto → Prop} {E : Nat → List Val → Ev → Sto → Prop} (J : Ev → Sto → Prop) (h : Sn (s ρ S) ⟨J, R, B, C, E⟩) (k : ∀ ρ S, J ρ S → Sn (t ρ S) ⟨N, R, B, C, E⟩) :
    Sn (sSeq s t ρ S) ⟨N, R, B, C, E⟩ := by
  rw [sn_seq]
  exact h.imp k (fun _ _ z => z) (fun _ _ z => z) (fun _ _ z => z) (fun _ _ _ _ z => z)
end BK

/-! nets: gates, draws, runs -/
namespace BK
open PySem PySem.Spec L2 PM
theorem g_is_line {x n : Int} (S : Sto) : G_is_line [.int x, .int n] S = .ok (.bl (decide (0 ≤ x) && decide (x < n))) S := by
  refine rn_eq ?_
  unfold G_is_line
  rw [rn_runB]
  simp -dsimp
  by_cases h : 0 ≤ x <;> by_cases h2 : x < n <;> simp [h, h2] <;> omega
theorem e_tt (S : Sto) : vEq (.str "turn") (.str "turn") S = .ok (.bl true) S := by rw [v_eqS (by decide +kernel) (by decide +kernel)]; rfl
theorem e_st (S : Sto) : vEq (.str "swap") (.str "turn") S = .ok (.bl false) S := by rw [v_eqS (by decide +kernel) (by decide +kernel)]; rfl
/-- the gates -/
inductive Gt where
  | turn (cs : List Nat) (a : Nat) | swap (cs : List Nat) (a b : Nat)
  deriving DecidableEq
def Gt.cs : Gt → List Nat | .turn cs _ => cs | .swap cs _ _ => cs
def Gt.outs : Gt → List Nat | .turn _ a => [a] | .swap _ a b => [a, b]
def nv (n : Nat) : Val := .int n
def nl (l : List Nat) : Val := .tup (l.map nv)
def Gt.w : Gt → Val | .turn _ _ => .str "turn" | .swap _ _ _ => .str "swap"
def Gt.v (g : Gt) : Val := .tup (g.w :: nl g.cs :: g.outs.map nv)
def gvs (gs : List Gt) : Val := .lst (gs.map Gt.v)
def ga (r : List Int) (c : Nat) : Int := (r[c]?).getD 0
def on (cs : List Nat) (r : List Int) : Bool := cs.all fun c => ga r c != 0
def Gt.act : Gt → List Int → List Int
  | .turn cs a, r => if on cs r then r.set a (1 - ga r a) else r
  | .swap cs a b, r => if on cs r then (r.set a (ga r b)).set b (ga r a) else r
def Gt.used (g : Gt) : List Nat := g.cs ++ g.outs
def Gt.ok (g : Gt) (n : Nat) : Prop := (∀ c ∈ g.used, c < n) ∧ g.used.Nodup ∧ g.cs.Pairwise (· < ·) ∧ g.cs.length ≤ 400
def runG (gs : List Gt) (r : List Int) : List Int := gs.foldl (fun r g => g.act r) r
def bOk (bs : List Int) : Prop := ∀ b ∈ bs, b = 0 ∨ b = 1
theorem Gt.len (g : Gt) (r : List Int) : (g.act r).length = r.length := by
  cases g <;> simp only [Gt.act] <;> split <;> simp
theorem runG_len : ∀ (gs : List Gt) (r : List Int), (runG gs r).length = r.length
  | [], _ => rfl
  | g :: gs, r => by
    show (runG gs (g.act r)).length = _
    rw [runG_len gs, Gt.len]
theorem ga_bit {r : List Int} (h : bOk r) (c : Nat) : ga r c = 0 ∨ ga r c = 1 := by
  unfold ga
  cases e : r[c]? with
  | none => exact .inl rfl
  | some x => exact h x (List.mem_of_getElem? e)
theorem Gt.bits (g : Gt) {r : List Int} (h : bOk r) : bOk (g.act r) := by
  have s1 : ∀ {l : List Int} {a : Nat} {x : Int}, bOk l → (x = 0 ∨ x = 1) → bOk (l.set a x) := fun hl hx b hb => by
    rcases List.mem_or_eq_of_mem_set hb with hb | rfl
    · exact hl b hb
    · exact hx
  cases g with
  | turn cs a =>
    simp only [Gt.act]
    split
    · exact s1 h (by have := ga_bit h a; omega)
    · exact h
  | swap cs a b =>
    simp only [Gt.act]
    split
    · exact s1 (s1 h (ga_bit h b)) (ga_bit h a)
    · exact h
theorem runG_bits : ∀ (gs : List Gt) {r : List Int}, bOk r → bOk (runG gs r)
  | [], _, h => h
  | g :: gs, r, h => runG_bits gs (g.bits h)
theorem atN {r : List Int} {c : Nat} (h : c < r.length) : atI r (c : Int) = some (ga r c) := by
  rw [atI_n, List.getElem?_eq_getElem h]; unfold ga; rw [List.getElem?_eq_getElem h]; rfl
@[simp ↓] theorem ix_g0 {g : Gt} {S : Sto} : vIx g.v (.int 0) S = .ok g.w S := by cases g <;> exact nr
@[simp ↓] theorem ix_g1 {g : Gt} {S : Sto} : vIx g.v (.int 1) S = .ok (nl g.cs) S := by cases g <;> exact nr
@[simp ↓] theorem ix_t2 {cs : List Nat} {a : Nat} {S : Sto} : vIx (Gt.turn cs a).v (.int 2) S = .ok (.int a) S := by
  show vIx (.tup [.str "turn", nl cs, .int a]) (.int 2) S = _
  exact nr
@[simp ↓] theorem ix_s2 {cs : List Nat} {a b : Nat} {S : Sto} : vIx (Gt.swap cs a b).v (.int 2) S = .ok (.int a) S := by
  show vIx (.tup [.str "swap", nl cs, .int a, .int b]) (.int 2) S = _
  exact nr
@[simp ↓] theorem ix_s3 {cs : List Nat} {a b : Nat} {S : Sto} : vIx (Gt.swap cs a b).v (.int 3) S = .ok (.int b) S := by
  show vIx (.tup [.str "swap", nl cs, .int a, .int b]) (.int 3) S = _
  exact nr
@[simp] theorem items_nl {l : List Nat} : itemsP (nl l) = some (l.map nv) := by unfold nl; exact items_t
@[simp] theorem items_gv {gs : List Gt} : itemsP (gvs gs) = some (gs.map Gt.v) := by unfold gvs; exact items_l
/-! one gate -/
theorem g_taken {g : Gt} {r : List Int} (hb : ∀ c ∈ g.used, c < r.length) (S : Sto) : G_taken [g.v, il r] S = .ok (.tup [.non, il (g.act r)]) S := by
  refine rn_eq ?_
  unfold G_taken
  rw [runBP_at]
  simp -dsimp
  refine sn_forPM (f := nv) (I := fun rest ρ S' => S' = S ∧ (∃ x, ρ = [some g.v, some (il r), x]) ∧ on g.cs r = on rest r) ⟨rfl, ⟨_, rfl⟩, rfl⟩ ?_ ?_
  · rintro c rest ρ S' hc ⟨rfl, ⟨x, rfl⟩, e⟩
    refine ⟨_, tgt_name, ?_⟩
    have hl := hb c (List.mem_append_left _ hc)
    simp -dsimp [nv, atN hl]
    by_cases z : ga r c = 0
    · have : on g.cs r = false := by rw [e]; simp [on, z]
      simp -dsimp [z]
      cases g <;> simp only [Gt.cs] at this <;> simp [Gt.act, this]
    · simp -dsimp [z]
      rw [e]; simp [on, z]
  · rintro ρ S' ⟨rfl, ⟨x, rfl⟩, e⟩
    have e : on g.cs r = true := e
    cases g with
    | turn cs a =>
      have ha := hb a (by simp [Gt.used, Gt.outs])
      simp only [Gt.cs] at e
      simp -dsimp [Gt.w, e_tt, atN ha, Gt.act, e]
      simp -dsimp [il, ixN_n ha]
      simp [List.map_set, Gt.act, e]
    | swap cs a b =>
      have ha := hb a (by simp [Gt.used, Gt.outs])
      have hb2 := hb b (by simp [Gt.used, Gt.outs])
      simp only [Gt.cs] at e
      simp -dsimp [Gt.w, e_st, atN ha, atN hb2, Gt.act, e]
      simp -dsimp [il, ixN_n ha, ixN_n hb2]
      simp [List.map_set, Gt.act, e]
/-! the law's own -/
theorem all_eq1 {r : List Int} (hb : bOk r) {cs : List Nat} (hc : ∀ c ∈ cs, c < r.length) : (cs.map fun c => decide (ga r c = 1)).all id = on cs r := by
  unfold on
  rw [List.all_map]
  refine List.all_congr rfl fun c => ?_
  show decide (ga r c = 1) = (ga r c != 0)
  rcases ga_bit hb c with h | h <;> rw [h] <;> rfl
theorem g_law_taken {gs : List Gt} {bs : List Int} (hb : bOk bs) (hl : bs.length ≤ 1000) (hok : ∀ g ∈ gs, (∀ c ∈ g.used, c < bs.length) ∧ g.cs.length ≤ 400) (S : Sto) : G__law_taken [gvs gs, iv bs] S = .ok (iv (runG gs bs)) S := by
  refine rn_eq ?_
  unfold G__law_taken
  rw [rn_runB]
  simp -dsimp
  refine sn_forPM (f := Gt.v) (I := fun rest ρ S' => S' = S ∧ ∃ (r : List Int) (x3 x4 x5 x6 : Option Val), ρ = [some (gvs gs), some (iv bs), some (il r), x3, x4, x5, x6] ∧ r.length = bs.length ∧ bOk r ∧ runG rest r = runG gs bs) ⟨rfl, bs, _, _, _, _, rfl, rfl, hb, rfl⟩ ?_ ?_
  · rintro g rest ρ S' hg ⟨rfl, r, x3, x4, x5, x6, rfl, hr, hbr, he⟩
    refine ⟨_, tgt_name, ?_⟩
    obtain ⟨hu, hcl⟩ := hok g hg
    have hu : ∀ c ∈ g.used, c < r.length := by rw [hr]; exact hu
    have hcs : ∀ c ∈ g.cs, c < r.length := fun c hc => hu c (List.mem_append_left _ hc)
    simp -dsimp
    refine rn_lcM (f := nv) (g := fun c => .bl (decide (ga r c = 1))) (xs := g.cs) (rn_eq (by simp -dsimp)) (by omega) (fun c hc => ⟨_, tgt_name, rn_eq (by simp -dsimp [wipeE, nv, atN (hcs c hc)])⟩) ?_
    have hal : ∀ S, vAll [.lst (g.cs.map fun c => Val.bl (decide (ga r c = 1)))] S = .ok (.bl (on g.cs r)) S := fun S => by
      have := v_allB (g.cs.map fun c => decide (ga r c = 1)) (S := S)
      rw [all_eq1 hbr hcs, List.map_map] at this
      exact this
    have nx : (g.act r).length = bs.length ∧ bOk (g.act r) ∧ runG rest (g.act r) = runG gs bs := ⟨by rw [Gt.len]; exact hr, g.bits hbr, he⟩
    cases ho : on g.cs r with
    | false =>
      have ha : g.act r = r := by cases g <;> simp only [Gt.cs] at ho <;> simp [Gt.act, ho]
      rw [ha] at nx
      simp -dsimp [hal, ho]
      exact nx
    | true =>
      cases g with
      | turn cs a =>
        have ha := hu a (by simp [Gt.used, Gt.outs])
        simp only [Gt.cs] at ho hal
        have hact : (Gt.turn cs a).act r = r.set a (1 - ga r a) := by simp [Gt.act, ho]
        rw [hact] at nx
        simp -dsimp [hal, ho, Gt.w, e_tt, atN ha, Gt.cs]
        simp -dsimp [ixN_n ha, lst_set]
        exact ⟨hr, nx.2.1, nx.2.2⟩
      | swap cs a b =>
        have ha := hu a (by simp [Gt.used, Gt.outs])
        have hb2 := hu b (by simp [Gt.used, Gt.outs])
        simp only [Gt.cs] at ho hal
        have hact : (Gt.swap cs a b).act r = (r.set a (ga r b)).set b (ga r a) := by simp [Gt.act, ho]
        rw [hact] at nx
        simp -dsimp [hal, ho, Gt.w, e_st, atN ha, atN hb2, Gt.cs]
        simp -dsimp [ixN_n ha, ixN_n hb2, lst_set]
        exact ⟨_, by unfold il; rw [List.map_set, List.map_set], nx⟩
  · rintro ρ S' ⟨rfl, r, x3, x4, x5, x6, rfl, hr, hbr, he⟩
    have he : r = runG gs bs := he
    simp -dsimp [he]
/-! the net -/
def netV (n : Nat) (gs : List Gt) : Val := .ins 22 [.int n, gvs gs]
@[simp] theorem insOf_net {n : Nat} {gs : List Gt} {S : Sto} : insOf S (netV n gs) = some (22, [.int n, gvs gs]) := nr
@[simp] theorem isInst_net {n : Nat} {gs : List Gt} {S : Sto} : isInst 22 S (netV n gs) = true := nr
theorem g_checked {n : Nat} {gs : List Gt} {bs : List Int} (hl : bs.length = n) (hn : n ≤ 400) (hb : bOk bs) (S : Sto) : G_Net__checked__bx [netV n gs, iv bs] S = .ok (il bs) S := by
  refine rn_eq ?_
  unfold G_Net__checked__bx
  rw [rn_runB]
  simp -dsimp [hl]
  refine rn_lcM (f := Val.int) (g := fun _ => .bl true) (xs := bs) (rn_eq (by simp -dsimp)) (by omega) (fun c hc => ⟨_, tgt_name, rn_eq (by
    have := hb c hc
    simp -dsimp [wipeE, g_is_line]
    omega)⟩) ?_
  simp -dsimp [v_allT]
theorem g_run {n : Nat} {gs : List Gt} {bs : List Int} (hl : bs.length = n) (hn : n ≤ 400) (hb : bOk bs) (hok : ∀ g ∈ gs, ∀ c ∈ g.used, c < n) (S : Sto) : G_Net_run [netV n gs, iv bs] S = .ok (iv (runG gs bs)) S := by
  refine rn_eq ?_
  unfold G_Net_run
  rw [rn_runB]
  simp -dsimp [g_checked hl hn hb]
  refine sn_forPM (f := Gt.v) (I := fun rest ρ S' => S' = S ∧ ∃ (r : List Int) (x3 : Option Val), ρ = [some (netV n gs), some (iv bs), some (il r), x3] ∧ r.length = n ∧ runG rest r = runG gs bs) ⟨rfl, bs, _, rfl, hl, rfl⟩ ?_ ?_
  · rintro g rest ρ S' hg ⟨rfl, r, x3, rfl, hr, he⟩
    refine ⟨_, tgt_name, ?_⟩
    simp -dsimp [g_taken (r := r) (by rw [hr]; exact hok g hg)]
    exact ⟨by rw [Gt.len]; exact hr, he⟩
  · rintro ρ S' ⟨rfl, r, x3, rfl, hr, he⟩
    have he : r = runG gs bs := he
    simp -dsimp [he]
theorem g_gates {n : Nat} {gs : List Gt} (S : Sto) : G_Net_gates [netV n gs] S = .ok (gvs gs) S := by
  refine rn_eq ?_
  unfold G_Net_gates
  rw [rn_runB]
  have : ∀ S, vList false [gvs gs] S = .ok (gvs gs) S := fun S => rfl
  simp -dsimp [this]
end BK

/-! PM, part r: reversed of a tuple or a list, x[::-1] of both -/
namespace L2
open PySem PySem.Spec PyProof.Rows HT
section
variable {prog : Program} {w : World} {A : Around} {E : Value → Shared → Prop} {s : Shared}
theorem adjust_rev (n : Nat) : Builtin.Slice.sliceAdjust none none (-1) (n : Int) = ((n : Int) - 1, -1) := by
  unfold Builtin.Slice.sliceAdjust
  simp
theorem places_rev (n : Nat) : Builtin.Slice.slicePlaces ((n : Int) - 1) (-1) (-1) = n := by
  unfold Builtin.Slice.slicePlaces
  have h1 : ¬ ((-1 : Int) > 0) := by omega
  simp only [h1, if_false]
  split
  · rw [show (- -1 : Int) = 1 by decide, Int.ediv_one]; omega
  · omega
theorem sliceApplied_rev {sl : Addr} {vl vu vs : Value} {n : Nat} {Q : Int × Int × Nat → Shared → Prop} (hs : s.heap.IsSliceOf sl vl vu vs) (pl : IsPart vl none) (pu : IsPart vu none) (ps : IsPart vs (some (-1)))
    (h : Q ((n : Int) - 1, -1, n) s) : wpAny (model prog w) A (Builtin.Slice.sliceApplied (.ref sl) (pure (n : Int))) Q E s := by
  obtain ⟨os, hos, hcs, hds⟩ := id hs
  unfold Builtin.Slice.sliceApplied Builtin.Slice.sliceFields
  refine wpAny_bind (wpAny_bind (wpAny_field hos hds (x := vl) rfl (wpAny_bind (wpAny_field hos hds (x := vu) rfl (wpAny_bind (wpAny_field hos hds (x := vs) rfl (wpAny_pure ?_)))))))
  refine wpAny_bind (slicePart_ ps ?_)
  show wpAny _ _ (if ((-1 : Int) == 0) = true then _ else _) _ _ s
  rw [if_neg (by decide)]
  refine wpAny_bind (slicePart_ pl (wpAny_bind (slicePart_ pu (wpAny_bind (wpAny_pure ?_)))))
  show wpAny _ _ (match Builtin.Slice.sliceAdjust none none (-1) (n : Int) with | (lo, hi) => pure (lo, (-1 : Int), Builtin.Slice.slicePlaces lo hi (-1))) _ _ s
  rw [adjust_rev n]
  show wpAny _ _ (pure ((n : Int) - 1, (-1 : Int), Builtin.Slice.slicePlaces ((n : Int) - 1) (-1) (-1))) _ _ s
  rw [places_rev]
  exact wpAny_pure h
theorem fm_congr {α β : Type} {f g : α → Option β} : ∀ {l : List α}, (∀ a ∈ l, f a = g a) → l.filterMap f = l.filterMap g
  | [], _ => rfl
  | a :: l, h => by rw [List.filterMap_cons, List.filterMap_cons, h a List.mem_cons_self, fm_congr fun b hb => h b (List.mem_cons_of_mem _ hb)]
theorem pick_rev (xs : Array Value) : ((List.range xs.size).filterMap fun (m : Nat) => xs[(((xs.size : Int) - 1) + (m : Int) * -1).toNat]?).toArray = xs.toList.reverse.toArray := by
  rw [← PySem.W.krv_pick, slicePick, PySem.W.krv_bounds]
  show _ = ((sliceRange ((xs.size : Int) - 1) (-1) (-1)).filterMap (xs[·]?)).toArray
  rw [PySem.W.krv_sliceRange, List.filterMap_map]
  congr 1
  refine fm_congr fun m hm => ?_
  have := List.mem_range.mp hm
  show xs[_]? = xs[xs.size - 1 - m]?
  congr 1
  omega
theorem getItem_tuple_rev {t sl : Addr} {items : Array Value} {vl vu vs : Value} {Q : Value → Shared → Prop} (ht : IsTup s.heap t items) (hs : s.heap.IsSliceOf sl vl vu vs) (pl : IsPart vl none) (pu : IsPart vu none) (ps : IsPart vs (some (-1)))
    (h : Q (.ref s.heap.objs.size) { s with heap := s.heap.push { cls := .type "tuple", data := .seq items.toList.reverse.toArray } })
    (hsz : items.size ≤ sizeLine) : wpAny (model prog w) A (getItem (.ref t) (.ref sl)) Q E s := by
  have htake : sizeOk (.seq items.toList.reverse.toArray) := by
    show items.toList.reverse.toArray.size ≤ sizeLine
    rw [List.size_toArray, List.length_reverse, Array.length_toList]; exact hsz
  obtain ⟨os, hos, hcs, hds⟩ := id hs
  have hTs : s.TypeIs (.ref sl) "slice" := ⟨os, hos, hcs⟩
  unfold getItem
  try with_reducible refine wpAny_holding ?_
  first | refine wpAny_bind (wpAny_pure ?_) | skip
  refine wpAny_bind (wpAny_sequenceKey ht.typeIs (by decide) ?_)
  refine wpAny_bind (wpAny_callSpecial?_slot (name := Str.ofString "__getitem__") ht.typeIs PyProof.Rows.slot_tuple_getitem
    (wpAny_call_entry PyProof.Rows.slot_tuple_getitem ht.typeIs entry_tuple_getitem ?_ (args_tuple_getitem _ _)))
  show wpAny _ _ (Builtin.Tuple.tupleItemsOf (.ref t) >>= _) _ _ s
  refine wpAny_bind (tupleItemsOf_ ht ?_)
  refine wpAny_bind (wpAny_typeOf hTs ?_)
  rw [if_pos (by decide)]
  refine wpAny_bind (sliceApplied_rev hs pl pu ps ?_)
  have hno : ¬ ((((items.size : Int) - 1) == 0 && (-1 : Int) == 1 && items.size == items.size) = true) := by
    intro q
    rw [Bool.and_eq_true, Bool.and_eq_true] at q
    have q1 := q.1.2
    revert q1; decide
  show wpAny _ _ (if (((items.size : Int) - 1) == 0 && (-1 : Int) == 1 && items.size == items.size) = true then _ else _) _ _ s
  rw [if_neg hno, pick_rev]
  first
    | exact wpAny_bind (m := Builtin.Tuple.tupleExact _) (wpAny_newObj_type (wpAny_pure ⟨_, rfl, wpAny_pure h⟩) htake)
    | exact wpAny_bind (m := Builtin.Tuple.tupleExact _) (wpAny_newObj_type (wpAny_bind (wpAny_pure (wpAny_pure ⟨_, rfl, wpAny_pure h⟩))) htake)
end
section
variable {X : Cx}
/-- x[::-1], x a list or a tuple -/
def tRevA (K : PySem.W.Frag) (te : TE) : TE := fun σ H Q => te σ H fun x H1 => ∃ a xs, x = .ref a ∧ ((SqL K H1 a xs ∧ ∀ p, H1 p = none → Q (.ref p) (upd H1 p (.lst xs.reverse))) ∨ (SqT K H1 a xs ∧ ∀ p, H1 p = none → Q (.ref p) (upd H1 p (.tup xs.reverse))))
theorem pe_revSl {e : Expr} {te : TE} {k : Nat} {p1 p2 p3 pos : Pos} (he : PE X e te) : PE X (.Subscript e (.Slice none none (some (.UnaryOp .USub (.Constant (.int 1) k p1) p2)) p3) pos) (tRevA X.K te) := by
  refine ⟨fun pins s σ H Q I h => ?_⟩
  refine Subscript_ (thn (he.run pins s σ H _ I h) fun v s1 ⟨x, H1, I1, r1, q1⟩ => ?_)
  obtain ⟨a, xs, ex, q⟩ := q1
  subst ex
  cases r1
  have hst : PO X (some (.UnaryOp .USub (.Constant (.int 1) k p1) p2)) (tPart (tUn (rU fun i => .int (-i)) (tC (.int 1)))) := po_some (pe_un un_neg pe_int)
  refine wpAny_Slice (thn (po_none.run pins s1 σ H1 (fun o H2 => o = none ∧ H2 = H1) I1 ⟨rfl, rfl⟩) fun vl s2 ⟨l, H2, I2, pl, el, e2⟩ => ?_)
  subst el e2
  refine thn (po_none.run pins s2 σ H2 (fun o H3 => o = none ∧ H3 = H2) I2 ⟨rfl, rfl⟩) fun vu s3 ⟨u, H3, I3, pu, eu, e3⟩ => ?_
  subst eu e3
  refine thn (hst.run pins s3 σ H3 (fun o H4 => o = some (-1) ∧ H4 = H3) I3 ⟨1, rfl, -1, rfl, rfl, rfl⟩) fun vs s4 ⟨o, H4, I4, ps, eo, e4⟩ => ?_
  subst eo e4
  have I5 : Inv X pins σ H4 { s4 with heap := s4.heap.push { cls := .type "slice", data := .fields #[vl, vu, vs] } } := I4.kept (t' := s4.toks) fun b ob q => Heap.get?_push_of_some _ q
  show wpAny (model X.prog X.w) X.A (subscriptTail e (.Slice none none (some (.UnaryOp .USub (.Constant (.int 1) k p1) p2)) p3) (.ref a) (.ref s4.heap.objs.size)) (EP X pins σ Q) X.xe { s4 with heap := s4.heap.push { cls := .type "slice", data := .fields #[vl, vu, vs] } }
  rcases q with ⟨hx, q⟩ | ⟨hx, q⟩
  · obtain ⟨its, r, ht, hz⟩ := I5.list hx
    have hlen := r.length
    refine tail_any (ops := [.ref a, .ref s4.heap.objs.size]) ht.isList.typeIs (PySem.slot_list_getitem.lookup) ?_ (by with_unfolding_all rfl)
    refine wpAny_getItem_list_slice ht.isList (Heap.IsSliceOf.new _ vl vu vs) pl pu ps (by decide) ?_ (by rw [List.size_toArray]; omega)
    rw [PySem.W.krv_pick]
    refine ⟨.ref _, _, I5.laid (t' := s4.toks) (o := .lst xs.reverse) (fun b ob q => Heap.get?_push_of_some _ q) (Nat.le_refl _) ?_, rfl, q _ (I5.hok.fresh (Nat.le_refl _))⟩
    exact ⟨by rw [List.length_reverse]; exact hz, _, 0, r.reverse, Heap.get?_push_size _ rfl⟩
  · obtain ⟨its, r, ht, hz⟩ := I5.tuple hx
    have hlen := r.length
    refine tail_any (ops := [.ref a, .ref s4.heap.objs.size]) ht.typeIs (PyProof.Rows.slot_tuple_getitem.lookup) ?_ (by with_unfolding_all rfl)
    refine getItem_tuple_rev ht (Heap.IsSliceOf.new _ vl vu vs) pl pu ps ?_ (by rw [List.size_toArray]; omega)
    refine ⟨.ref _, _, I5.laid (t' := s4.toks) (o := .tup xs.reverse) (fun b ob q => Heap.get?_push_of_some _ q) (Nat.le_refl _) ?_, rfl, q _ (I5.hok.fresh (Nat.le_refl _))⟩
    exact ⟨by rw [List.length_reverse]; exact hz, _, r.reverse, IsTup.new _ _⟩
end
end L2
namespace PM
open PySem PySem.Spec L2
/-- x[::-1] -/
def vRevA (bx : Bool) (v : Val) (S : Sto) : Res Val := match v with
  | .tup xs => .ok (.tup xs.reverse) S
  | v => match lstOf S v with
    | some xs => mkL bx xs.reverse S
    | none => .st
theorem m_revA {T : Tbl} {X : Cx} {Ew : XW} {e : Expr} {f : EM} {pos : Pos} {bx : Bool} {k : Nat} {p1 p2 p3 : Pos} (he : PEm T X Ew e f) : PEm T X Ew (.Subscript e (.Slice none none (some (.UnaryOp .USub (.Constant (.int 1) k p1) p2)) p3) pos) (eUn (vRevA bx) f) := by
  refine PE.to (pe_revSl he) fun σ H Q h => ?_
  obtain ⟨W, ρ, S, s, er, h⟩ := h
  refine ⟨W, ρ, S, s, er, RP.bind h fun W1 S1 H1 v l1 s1 h1 x vx => ?_⟩
  by_cases hT : ∃ xs, v = .tup xs
  · obtain ⟨xs, rfl⟩ := hT
    cases vx with
    | tup hy r =>
      refine ⟨_, _, rfl, .inr ⟨TQ_sq s1.sub hy, fun p hp => ?_⟩⟩
      have h2 : RP X.K T W1 (.ok (.tup xs.reverse) S1) (VP X.K T Q) _ := h1
      exact h2 _ _ (.add (s1.free hp)) (s1.add hp) _ (.tup (.inl upd_same) (r.reverse.mono (.add (s1.free hp))))
  · have e1 : vRevA bx v S1 = (match lstOf S1 v with | some xs => mkL bx xs.reverse S1 | none => .st) := by
      unfold vRevA
      cases v <;> first | rfl | exact absurd ⟨_, rfl⟩ hT
    rw [e1] at h1
    cases e : lstOf S1 v with
    | none => rw [e] at h1; exact False.elim h1
    | some xs =>
      rw [e] at h1
      obtain ⟨a, ys, rfl, hy, r⟩ := lstOf_ok s1 vx e
      exact ⟨a, ys, rfl, .inl ⟨hy, fun p hp => mkL_ok s1 r.reverse hp h1⟩⟩
theorem vRevA_l {bx : Bool} {v : Val} {S : Sto} (h : ∀ xs, v ≠ .tup xs) : vRevA bx v S = (match lstOf S v with | some xs => mkL bx xs.reverse S | none => .st) := by
  unfold vRevA
  cases v <;> first | rfl | exact absurd rfl (h _)
theorem rs_revA : Rs1 (vRevA false) := fun c S v v' u Z1 h e => by
  by_cases hT : ∃ xs, v' = .tup xs
  · obtain ⟨xs, rfl⟩ := hT
    obtain rfl := vq_s h rfl; cases e; rfl
  · have hn : ∀ xs, v' ≠ .tup xs := fun xs h => hT ⟨xs, h⟩
    rw [vRevA_l hn] at e
    rw [vRevA_l (vq_nt h hn)]
    cases q : lstOf Z0 v' with
    | none => rw [q] at e; cases e
    | some xs => rw [q] at e; rw [lst_q h q]; cases e; rfl
def vRevN (v : Val) (S : Sto) : Res Val := match lstOf S v with
  | some xs => .ok (.lst xs.reverse) S
  | none => .st
theorem rn_revA : RsN1 (vRevA true) vRevN := fun c S v v' u Z1 h e => by
  unfold vRevN at e
  cases q : lstOf Z0 v' with
  | none => rw [q] at e; cases e
  | some xs =>
    rw [q] at e; cases e
    have l := lst_q h q
    have hn : ∀ ys, v ≠ .tup ys := by rintro ys rfl; cases l
    rw [vRevA_l hn, l]; exact ⟨_, rfl, rfl⟩
theorem nx_revA : ∀ v S, NX (vRevA false v S) := by
  intro v S; unfold vRevA; split
  · trivial
  · split <;> trivial
theorem nx_revN : ∀ v S, NX (vRevN v S) := by intro v S; unfold vRevN; split <;> trivial
@[simp ↓] theorem v_revAT {xs : List Val} {S : Sto} {bx : Bool} : vRevA bx (.tup xs) S = .ok (.tup xs.reverse) S := nr
@[simp ↓] theorem v_revAL {xs : List Val} {S : Sto} : vRevA false (.lst xs) S = .ok (.lst xs.reverse) S := nr
@[simp ↓] theorem v_revNL {xs : List Val} {S : Sto} : vRevN (.lst xs) S = .ok (.lst xs.reverse) S := nr
def iRevT (f : EM) : IM := fun ρ S => (f ρ S).bind fun v S1 => match v with
  | .tup xs => .ok ⟨xs.reverse, fun _ => True⟩ S1
  | .lst xs => .ok ⟨xs.reverse, fun _ => True⟩ S1
  | .fz xs => .ok ⟨xs.reverse, fun _ => True⟩ S1
  | _ => .st
section
variable {K : PySem.W.Frag} {T : Tbl} {W : Wd}
theorem itvT_ok {a : Addr} {xs : List Val} {ys : List V} (hy0 : SqT K W.I a ys) (r0 : VRs K T W xs ys) : ItOk K T W ⟨xs.reverse, fun _ => True⟩ (RT.ItvT K a ys.length) := by
  intro W' S' H' l s' hs i
  have hy : SqT K H' a ys := SqT_mono (fun b o h => s'.sub b o (l.sub b o h)) hy0
  have r := r0.mono l
  have hn := r.length
  refine ⟨fun v hv => ?_, fun hq => ?_⟩
  · have hi : i < xs.length := by
      have := (List.getElem?_eq_some_iff.mp hv).1
      simpa using this
    have hv' : xs.reverse[i]? = some v := hv
    rw [List.getElem?_reverse hi] at hv'
    obtain ⟨y, e, vy⟩ := r.get hv'
    rw [hn] at e
    refine ⟨⟨by omega, ys, y, hy, e⟩, fun x H'' q => ?_⟩
    obtain ⟨rfl, q⟩ := q
    have := q ys hy
    rw [e] at this
    cases this
    exact ⟨W', .refl _, s', vy⟩
  · have := List.getElem?_eq_none_iff.mp (show xs.reverse[i]? = none from hq)
    show ys.length ≤ i
    simp at this; omega
end
section
variable {T : Tbl} {X : Cx} {Ew : XW} {tg e : Expr} {f : EM} {p pos : Pos}
theorem i_revT (hg : Gl X "reversed") (hm : X.mg "reversed" = none) (ha : PEm T X Ew e f) (hs : starEach [e] X.env = (false, eval e X.env) :: starEach [] X.env := by rfl) : PIm T X Ew tg (.Call (.Name "reversed" p) [e] [] pos) (iRevT f) := by
  refine PI.to (RT.pi_revA hg hm ha hs) fun σ H R h => ?_
  obtain ⟨W, ρ, S, s, er, h⟩ := h
  refine ⟨W, ρ, S, s, er, RP.bind h fun W1 S1 H1 v l1 s1 h1 x vx => ?_⟩
  cases v with
  | tup xs =>
    cases vx with
    | tup hy r => exact ⟨_, _, rfl, .inr ⟨TQ_sq s1.sub hy, h1.now s1 _ (itvT_ok hy.sq r)⟩⟩
  | lst xs =>
    obtain ⟨a, rfl, ⟨ys, hy, hl⟩, q⟩ := list_src s1 vx (.inl ⟨rfl, rfl⟩)
    exact ⟨a, ys, rfl, .inl ⟨hy, h1.now s1 _ (itv_ok hl q)⟩⟩
  | fz xs =>
    obtain ⟨a, rfl, ⟨ys, hy, hl⟩, q⟩ := list_src s1 vx (.inr (.inl ⟨rfl, rfl⟩))
    exact ⟨a, ys, rfl, .inl ⟨hy, h1.now s1 _ (itv_ok hl q)⟩⟩
  | _ => exact False.elim h1
end
/-! its lift -/
def revTP (v : Val) : Option (List Val) := match v with
  | .tup xs => some xs.reverse | .lst xs => some xs.reverse | .fz xs => some xs.reverse | _ => none
def iRevTP (f : EM) : IP := fun ρ S => (f ρ S).bind fun v S1 => match revTP v with
  | some xs => .ok xs S1
  | none => .st
theorem li_revT {κ : List Kd} {e p : EM} (h : LE RV κ e p) : LI κ (iRevT e) (iRevTP p) := fun c Z S ρ ρ' er st => (h c Z S ρ ρ' S.next er st (Nat.le_refl _)).bind fun v v' S1 Z1 x s1 q => by
  obtain rfl : v = v' := q
  cases v <;> first | (exact .ok s1 ⟨rfl, .inl fun _ => trivial⟩) | trivial
section
variable {X : XP} {ρ : Ev} {S : Sto}
@[simp ↓] theorem e_irevTP {f : EM} {P : List Val → Sto → Prop} {kk : Kp (P, X)} : Rn (iRevTP f ρ S) P X kk = Rn ((f ρ S).bind fun v S1 => match revTP v with | some xs => .ok xs S1 | none => .st) P X := nr
@[simp] theorem revT_t {xs : List Val} : revTP (.tup xs) = some xs.reverse := nr
@[simp] theorem revT_l {xs : List Val} : revTP (.lst xs) = some xs.reverse := nr
end
end PM

namespace BK
open PySem PySem.Spec L2 PM
noncomputable def G_Net___init___2 : FM := runBP 0 4
  (sSeq (sIf (tOrM (tNotM (tTruP (eCallN 2 G_is_line (aCons (eVar 1) (aCons (eBinP (vAdd false) (eC (.int 400)) (eC (.int 1))) aNil))))) (tOrM (tB (eBinP vEq (eVar 1) (eC (.int 0)))) (tB (eBinP vGt (eBIP vLen (aCons (eVar 2) aNil)) (eC (.int 100000)))))) (sRaise 20)
    sNext)
    (sSeq (sIf (tNotM (tTruP (eBIP vAll (aCons (eLcP (iSeqP (eVar 2)) (.name 3) tYesM (eCallN 2 G_is_gate (aCons (eVar 3) (aCons (eVar 1) aNil))) [3]) aNil)))) (sRaise 20)
    sNext)
    (sSeq (sAttrP 22 0 0 (eVar 1))
    (sAttrP 22 1 0 (eBIP (vList false) (aCons (eVar 2) aNil))))))
noncomputable def G__law_gates__bx : FM := runB 13
  (sSeq (sSet 4 (eLst false aNil))
    (sSeq (sForP (iRange1P (eVar 2)) (.name 5)
    (sSeq (sPar 6 7 (aCons (eBinP vIx (eVar 0) (eBinP (vAdd false) (eVar 1) (eBinP vMul (eC (.int 2)) (eVar 5)))) (aCons (eBinP vIx (eVar 0) (eBinP (vAdd false) (eBinP (vAdd false) (eVar 1) (eBinP vMul (eC (.int 2)) (eVar 5))) (eC (.int 1)))) aNil)))
    (sSeq (sSet 8 (eListRP (eC (.int 0)) (eVar 3)))
    (sSeq (sSetX 9 (noX (eXPop 8 (eBinP vMod (eVar 6) (eVar 3)))))
    (sSeq (sSet 10 (eTup (aCons (eC (.str "turn")) (aCons (eTup aNil) (aCons (eVar 9) aNil)))))
    (sSeq (sIf (tAndM (tB (eBinP vEq (eBinP vMod (eBinP vFdiv (eVar 6) (eVar 3)) (eC (.int 3))) (eC (.int 0)))) (tB (eBinP vGt (eBIP vLen (aCons (eVar 8) aNil)) (eC (.int 0))))) (sSetX 10 (noX (eXTup (aXCons (eC (.str "swap")) (aXCons (eTup aNil) (aXCons (eVar 9) (aXLast (eXPop 8 (eBinP vMod (eBinP vFdiv (eVar 6) (eC (.int 64))) (eBIP vLen (aCons (eVar 8) aNil)))))))))))
    sNext)
    (sSeq (sSet 11 (eLst false aNil))
    (sSeq (sForP (iRange1P (eBinP vMod (eBinP vFdiv (eVar 6) (eC (.int 512))) (eC (.int 4)))) (.name 12)
    (sIf (tB (eBinP vGt (eBIP vLen (aCons (eVar 8) aNil)) (eC (.int 0)))) (sAppX 11 (noX (eXPop 8 (eBinP vMod (eBinP vFdiv (eVar 7) (eBinP (vAdd false) (eVar 12) (eC (.int 1)))) (eBIP vLen (aCons (eVar 8) aNil))))))
    sNext))
    (sAppP 4 (eBinP (vAdd false) (eTup (aCons (eBinP vIx (eVar 10) (eC (.int 0))) (aCons (eBIP vTuple (aCons (eBIP (vSortB false) (aCons (eVar 11) aNil)) aNil)) aNil))) (eCutP (eVar 10) (oSome (eC (.int 2))) oNone)))))))))))
    (sRet (eVar 4))))
noncomputable def G__law_ladder : FM := runB 5
  (sSeq (sSet 2 (eBinP vIx (eVar 0) (eC (.int 1))))
    (sSeq (sIf (tB (eBinP vLt (eBIP vLen (aCons (eVar 2) aNil)) (eC (.int 3)))) (sRet (eLst false (aCons (eVar 0) aNil)))
    sNext)
    (sSeq (sSet 3 (eLst false (aCons (eTup (aCons (eC (.str "turn")) (aCons (eCutP (eVar 2) oNone (oSome (eC (.int 2)))) (aCons (eVar 1) aNil)))) aNil)))
    (sSeq (sForP (iRange1P (eBinP vSub (eBIP vLen (aCons (eVar 2) aNil)) (eC (.int 3)))) (.name 4)
    (sAppP 3 (eTup (aCons (eC (.str "turn")) (aCons (eTup (aCons (eBinP vIx (eVar 2) (eBinP (vAdd false) (eC (.int 2)) (eVar 4))) (aCons (eBinP (vAdd false) (eVar 1) (eVar 4)) aNil))) (aCons (eBinP (vAdd false) (eBinP (vAdd false) (eVar 1) (eVar 4)) (eC (.int 1))) aNil))))))
    (sRet (eBinP (vAdd false) (eBinP (vAdd false) (eVar 3) (eLst false (aCons (eTup (aCons (eC (.str "turn")) (aCons (eTup (aCons (eBinP vIx (eVar 2) (eUnP vNeg (eC (.int 1)))) (aCons (eBinP vSub (eBinP (vAdd false) (eVar 1) (eBIP vLen (aCons (eVar 2) aNil))) (eC (.int 3))) aNil))) (aCons (eBinP vIx (eVar 0) (eC (.int 2))) aNil)))) aNil))) (eUnP (vRevA false) (eVar 3))))))))
noncomputable def G_ladder : FM := runB 6
  (sSeq (sSet 2 (eBinP vIx (eVar 0) (eC (.int 1))))
    (sSeq (sIf (tB (eBinP vLe (eBIP vLen (aCons (eVar 2) aNil)) (eC (.int 2)))) (sRet (eLst false (aCons (eVar 0) aNil)))
    sNext)
    (sSeq (sSet 3 (eLst false (aCons (eTup (aCons (eC (.str "turn")) (aCons (eCutP (eVar 2) oNone (oSome (eC (.int 2)))) (aCons (eVar 1) aNil)))) aNil)))
    (sSeq (sForP (iRange2P (eC (.int 2)) (eBinP vSub (eBIP vLen (aCons (eVar 2) aNil)) (eC (.int 1)))) (.name 4)
    (sAppP 3 (eTup (aCons (eC (.str "turn")) (aCons (eTup (aCons (eBinP vIx (eVar 2) (eVar 4)) (aCons (eBinP vSub (eBinP (vAdd false) (eVar 1) (eVar 4)) (eC (.int 2))) aNil))) (aCons (eBinP vSub (eBinP (vAdd false) (eVar 1) (eVar 4)) (eC (.int 1))) aNil))))))
    (sSeq (sSet 5 (eTup (aCons (eC (.str "turn")) (aCons (eTup (aCons (eBinP vIx (eVar 2) (eUnP vNeg (eC (.int 1)))) (aCons (eBinP vSub (eBinP (vAdd false) (eVar 1) (eBIP vLen (aCons (eVar 2) aNil))) (eC (.int 3))) aNil))) (aCons (eBinP vIx (eVar 0) (eC (.int 2))) aNil)))))
    (sRet (eBinP (vAdd false) (eBinP (vAdd false) (eVar 3) (eLst false (aCons (eVar 5) aNil))) (eUnP (vRevA false) (eVar 3)))))))))
noncomputable def G_with_control : FM := runB 2
  (sRet (eBinP (vAdd false) (eTup (aCons (eBinP vIx (eVar 0) (eC (.int 0))) (aCons (eBIP vTuple (aCons (eBIP (vSortB false) (aCons (eBinP (vAdd false) (eBinP vIx (eVar 0) (eC (.int 1))) (eTup (aCons (eVar 1) aNil))) aNil)) aNil)) aNil))) (eCutP (eVar 0) (oSome (eC (.int 2))) oNone)))
noncomputable def G_turns_of : FM := runB 3
  (sSeq (sIf (tB (eBinP vEq (eBinP vIx (eVar 0) (eC (.int 0))) (eC (.str "turn")))) (sRet (eLst false (aCons (eVar 0) aNil)))
    sNext)
    (sSeq (sSet 1 (eCallN 2 G_with_control (aCons (eTup (aCons (eC (.str "turn")) (aCons (eBinP vIx (eVar 0) (eC (.int 1))) (aCons (eBinP vIx (eVar 0) (eC (.int 3))) aNil)))) (aCons (eBinP vIx (eVar 0) (eC (.int 2))) aNil))))
    (sSeq (sSet 2 (eCallN 2 G_with_control (aCons (eTup (aCons (eC (.str "turn")) (aCons (eBinP vIx (eVar 0) (eC (.int 1))) (aCons (eBinP vIx (eVar 0) (eC (.int 2))) aNil)))) (aCons (eBinP vIx (eVar 0) (eC (.int 3))) aNil))))
    (sRet (eLst false (aCons (eVar 1) (aCons (eVar 2) (aCons (eVar 1) aNil))))))))
noncomputable def G_simple : FM := runB 5
  (sSeq (sSet 1 (eLst false aNil))
    (sSeq (sForP (iSeqP (eMethP 1 22 G_Net_gates (eVar 0) aNil)) (.name 2)
    (sExtP 1 (eCallN 1 G_turns_of (aCons (eVar 2) aNil))))
    (sTail 1 (sSeq (sSet 3 (eBIP (vBest max) (aCons (eBinP (vAdd false) (eLst false (aCons (eC (.int 0)) aNil)) (eLcP (iSeqP (eVar 1)) (.name 2) tYesM (eBinP vSub (eBIP vLen (aCons (eBinP vIx (eVar 2) (eC (.int 1))) aNil)) (eC (.int 2))) [2])) aNil)))
    (sSeq (sSet 4 (eLst false aNil))
    (sSeq (sForP (iSeqP (eVar 1)) (.name 2)
    (sExtP 4 (eCallN 2 G_ladder (aCons (eVar 2) (aCons (eAttrP 22 0 (eVar 0)) aNil)))))
    (sRet (eMakeXP 3 22 G_Net___init___2 (aCons (eBinP (vAdd false) (eAttrP 22 0 (eVar 0)) (eVar 3)) (aCons (eVar 4) aNil))))))))))
noncomputable def G__law_refused_2 : FM := runB 2
  (sSeq (sTryP (sDrop (eCallXN 1 G_simple (aCons (eVar 0) aNil))) 1 [] [(20, (sRet (eAnd (eIsErr 1 (eC (.cls 20)) true) (eNot (eIsErr 1 (eC (.cls 21)) false)))))])
    (sRet (eC (.bl false))))
noncomputable def G__law_turns : FM := runB 3
  (sSeq (sIf (tB (eBinP vEq (eBinP vIx (eVar 0) (eC (.int 0))) (eC (.str "turn")))) (sRet (eLst false (aCons (eVar 0) aNil)))
    sNext)
    (sSeq (sSet 1 (eTup (aCons (eC (.str "turn")) (aCons (eBIP vTuple (aCons (eBIP (vSortB false) (aCons (eBinP (vAdd false) (eBinP vIx (eVar 0) (eC (.int 1))) (eTup (aCons (eBinP vIx (eVar 0) (eC (.int 2))) aNil))) aNil)) aNil)) (aCons (eBinP vIx (eVar 0) (eC (.int 3))) aNil)))))
    (sSeq (sSet 2 (eTup (aCons (eC (.str "turn")) (aCons (eBIP vTuple (aCons (eBIP (vSortB false) (aCons (eBinP (vAdd false) (eBinP vIx (eVar 0) (eC (.int 1))) (eTup (aCons (eBinP vIx (eVar 0) (eC (.int 3))) aNil))) aNil)) aNil)) (aCons (eBinP vIx (eVar 0) (eC (.int 2))) aNil)))))
    (sRet (eLst false (aCons (eVar 1) (aCons (eVar 2) (aCons (eVar 1) aNil))))))))
noncomputable def G_law_22 : FM := runB 16
  (sSeq (sSet 1 (eCallN 2 G__law_draws_2 (aCons (eVar 0) (aCons (eC (.int 60)) aNil))))
    (sSeq (sSet 2 (eBinP (vAdd false) (eC (.int 1)) (eBinP vMod (eBinP vIx (eVar 1) (eC (.int 50))) (eC (.int 8)))))
    (sSeq (sSet 3 (eCallN 4 G__law_gates__bx (aCons (eVar 1) (aCons (eC (.int 0)) (aCons (eBinP vMod (eBinP vIx (eVar 1) (eC (.int 52))) (eC (.int 11))) (aCons (eVar 2) aNil))))))
    (sSeq (sIf (tB (eBinP vEq (eBinP vMod (eBinP vIx (eVar 1) (eC (.int 51))) (eC (.int 2))) (eC (.int 0)))) (sSeq (sSet 4 (eBinP vMod (eBinP vIx (eVar 1) (eC (.int 53))) (eVar 2)))
    (sSeq (sAppP 3 (eTup (aCons (eC (.str "turn")) (aCons (eBIP vTuple (aCons (eLcP (iRange1P (eVar 2)) (.name 14) (tB (eBinP vNe (eVar 14) (eVar 4))) (eVar 14) [14]) aNil)) (aCons (eVar 4) aNil)))))
    (sIf (tB (eBinP vGt (eVar 2) (eC (.int 1)))) (sSeq (sSet 5 (eBinP vMod (eBIP vInt (aCons (eBinP (vAdd false) (eBinP (vAdd false) (eVar 4) (eC (.int 1))) (eBinP vMod (eBinP vIx (eVar 1) (eC (.int 54))) (eBinP vSub (eVar 2) (eC (.int 1))))) aNil)) (eVar 2)))
    (sAppP 3 (eTup (aCons (eC (.str "swap")) (aCons (eBIP vTuple (aCons (eLcP (iRange1P (eVar 2)) (.name 14) (tB (eBinP (vInW true) (eVar 14) (eTup (aCons (eVar 4) (aCons (eVar 5) aNil))))) (eVar 14) [14]) aNil)) (aCons (eVar 4) (aCons (eVar 5) aNil)))))))
    sNext)))
    sNext)
    (sTail 3 (sSeq (sSet 6 (eLst false aNil))
    (sSeq (sForP (iSeqP (eVar 3)) (.name 7)
    (sSet 6 (eBinP (vAdd false) (eVar 6) (eCallN 1 G__law_turns (aCons (eVar 7) aNil)))))
    (sSeq (sSet 8 (eBIP (vBest max) (aCons (eBinP (vAdd false) (eLst false (aCons (eC (.int 0)) aNil)) (eLcP (iSeqP (eVar 6)) (.name 7) tYesM (eBinP vSub (eBIP vLen (aCons (eBinP vIx (eVar 7) (eC (.int 1))) aNil)) (eC (.int 2))) [7])) aNil)))
    (sSeq (sSet 9 (eLst false aNil))
    (sSeq (sForP (iSeqP (eVar 6)) (.name 7)
    (sSet 9 (eBinP (vAdd false) (eVar 9) (eCallN 2 G__law_ladder (aCons (eVar 7) (aCons (eVar 2) aNil))))))
    (sSeq (sSet 10 (eMakeP 3 22 G_Net___init___2 (aCons (eVar 2) (aCons (eVar 3) aNil))))
    (sSeq (sSet 11 (eCallN 1 G_simple (aCons (eVar 10) aNil)))
    (sSeq (sIf (tOrM (tB (eBinP vNe (eAttrP 22 0 (eVar 11)) (eBinP (vAdd false) (eVar 2) (eVar 8)))) (tOrM (tB (eBinP vNe (eMethP 1 22 G_Net_gates (eVar 11) aNil) (eVar 9))) (tB (eBinP vNe (eMethP 1 22 G_Net_gates (eVar 10) aNil) (eVar 3))))) (sRet (eC (.bl false)))
    sNext)
    (sSeq (sIf (tNotM (tTruP (eBIP vAll (aCons (eLcP (iSeqP (eMethP 1 22 G_Net_gates (eVar 11) aNil)) (.name 7) tYesM (eAnd (eBinP vEq (eBinP vIx (eVar 7) (eC (.int 0))) (eC (.str "turn"))) (eBinP vLt (eBIP vLen (aCons (eBinP vIx (eVar 7) (eC (.int 1))) aNil)) (eC (.int 3)))) [7]) aNil)))) (sRet (eC (.bl false)))
    sNext)
    (sSeq (sSet 12 (eBIP vTuple (aCons (eLcP (iRange1P (eVar 2)) (.name 15) tYesM (eBinP vMod (eBinP vIx (eVar 1) (eBinP (vAdd false) (eC (.int 30)) (eVar 15))) (eC (.int 2))) [15]) aNil)))
    (sSeq (sIf (tB (eBinP vNe (eMethP 2 22 G_Net_run (eVar 11) (aCons (eBinP (vAdd false) (eVar 12) (eBinP vRepT (eTup (aCons (eC (.int 0)) aNil)) (eVar 8))) aNil)) (eBinP (vAdd false) (eMethP 2 22 G_Net_run (eVar 10) (aCons (eVar 12) aNil)) (eBinP vRepT (eTup (aCons (eC (.int 0)) aNil)) (eVar 8))))) (sRet (eC (.bl false)))
    sNext)
    (sSeq (sSet 13 (eTup (aCons (eC (.str "turn")) (aCons (eTup (aCons (eC (.int 0)) (aCons (eC (.int 1)) (aCons (eC (.int 2)) (aCons (eC (.int 3)) (aCons (eC (.int 4)) (aCons (eC (.int 5)) aNil))))))) (aCons (eC (.int 6)) aNil)))))
    (sRet (eAnd (eBinP vEq (eAttrP 22 0 (eCallN 1 G_simple (aCons (eMakeP 3 22 G_Net___init___2 (aCons (eC (.int 396)) (aCons (eLst false (aCons (eVar 13) aNil)) aNil))) aNil))) (eC (.int 400))) (eCallN 1 G__law_refused_2 (aCons (eMakeP 3 22 G_Net___init___2 (aCons (eC (.int 397)) (aCons (eLst false (aCons (eVar 13) aNil)) aNil))) aNil)))))))))))))))))))))
end BK

/-! nets: draws, gates drawn, what a net asks of its gates -/
namespace BK
open PySem PySem.Spec L2 PM
def dOk (ds : List Int) : Prop := ∀ d ∈ ds, 0 ≤ d ∧ d < 65537
theorem dOk.app {ds : List Int} {d : Int} (h : dOk ds) (h1 : 0 ≤ d ∧ d < 65537) : dOk (ds ++ [d]) := fun z hz => by
  rcases List.mem_append.mp hz with q | q
  · exact h z q
  · rw [List.mem_singleton.mp q]; exact h1
theorem modOk (a b : Int) (h : 0 < b) (hb : b ≤ 65537) : 0 ≤ a % b ∧ a % b < 65537 := ⟨Int.emod_nonneg _ (by omega), Int.lt_of_lt_of_le (Int.emod_lt_of_pos _ h) hb⟩
theorem lst_snocI {l : List Int} {x : Int} : Val.lst (l.map Val.int ++ [.int x]) = il (l ++ [x]) := by unfold il; rw [List.map_append]; rfl
theorem g_draws2 {ns : List Int} (hn : ns.length ≤ 63) (m : Nat) (hm : m ≤ 1000) (S : Sto) : ∃ ds : List Int, G__law_draws_2 [.fz (ns.map .int), .int m] S = .ok (il ds) S ∧ ds.length = m ∧ dOk ds := by
  have : Rn (G__law_draws_2 [.fz (ns.map .int), .int m] S) (fun v S' => ∃ ds : List Int, v = il ds ∧ S' = S ∧ ds.length = m ∧ dOk ds) X0 := by
    unfold G__law_draws_2
    rw [rn_runB]
    simp -dsimp
    rw [show (63 : Int) = ((63 : Nat) : Int) from rfl, cut_take, List.take_of_length_le (by simpa using hn)]
    refine sn_forPM (f := Val.int) (I := fun r ρ S' => S' = S ∧ ∃ (a : Nat) (ds : List Int) (x4 x5 x6 : Option Val), a + r.length = ns.length ∧ ρ = [some (.fz (ns.map .int)), some (.int m), some (il ds), some (.int a), x4, x5, x6] ∧ dOk ds ∧ ds.length ≤ 24 * a)
      ⟨rfl, 0, [], none, none, none, by simp, rfl, (fun _ h => nomatch h), Nat.zero_le _⟩ ?_ ?_
    · rintro v r ρ S' hv ⟨rfl, a, ds, x4, x5, x6, ha, rfl, hd, hl⟩
      refine ⟨_, tgt_name, ?_⟩
      rw [List.length_cons] at ha
      have ha' : a ≤ 62 := by omega
      simp -dsimp
      generalize hw : (if v < 0 then -v else v) = w
      have hw0 : 0 ≤ w := by rw [← hw]; split <;> omega
      refine ⟨fun hc => ?_, fun hc => ?_⟩
      · refine sn_forPR (I := fun i ρ S2 => S2 = S' ∧ ∃ (ds : List Int) (x6 : Option Val) (w : Int), 0 ≤ w ∧ ρ = [some (.fz (ns.map .int)), some (.int m), some (il ds), some (.int a), some (.int v), some (.int w), x6] ∧ dOk ds ∧ ds.length ≤ 24 * a + i)
          ⟨rfl, ds, x6, w, hw0, rfl, hd, hl⟩ ?_ ?_
        · rintro i ρ S2 hi ⟨rfl, ds, x6, w, hw, rfl, hd, hl⟩
          refine ⟨_, tgt_name, ?_⟩
          by_cases hc : 0 < w
          · simp -dsimp [hc, lst_snocI]
            exact ⟨by omega, _, _, w / 1009, by omega, ⟨rfl, rfl, rfl⟩, hd.app (modOk w 1009 (by decide) (by decide)), by simp; omega⟩
          · simp -dsimp [hc]
            exact ⟨_, _, w, hw, ⟨rfl, rfl, rfl⟩, hd, by omega⟩
        · rintro ρ S2 ⟨rfl, ds, x6, w, hw, rfl, hd, hl⟩
          simp -dsimp
          exact ⟨a + 1, by omega, _, ⟨rfl, by omega⟩, hd, by omega⟩
      · have c1 : -18446744073709551616 < w ∧ w < 18446744073709551616 := by omega
        generalize hz1 : (w * 48271 + a * 69621 + 11) % 65537 = z1
        generalize hz2 : (w * 16807 + a * 40692 + 7 + w * w) % 65521 = z2
        have hd2 : dOk (ds ++ [z1] ++ [z2]) := by
          subst hz1 hz2
          exact (hd.app (modOk _ _ (by decide) (by decide))).app (modOk _ _ (by decide) (by decide))
        have hl2 : (ds ++ [z1] ++ [z2]).length ≤ 24 * (a + 1) := by simp; omega
        simp -dsimp [c1, lst_snocI, hz1, hz2]
        have q1 : ds.length < 16777216 := by omega
        have q2 : ds.length + 1 < 16777216 := by omega
        constructor
        · exact q1
        constructor
        · exact q2
        have q3 : a + 1 + r.length = ns.length := by omega
        have q4 : Val.lst (ds.map Val.int ++ [Val.int z1, Val.int z2]) = il (ds ++ [z1] ++ [z2]) := by unfold il; simp
        have q5 : (a : Int) + 1 = ((a + 1 : Nat) : Int) := by omega
        exact Exists.intro (a + 1) (And.intro q3 (Exists.intro _ (And.intro (And.intro q4 q5) (And.intro hd2 hl2))))
    · intro ρ S' h
      obtain ⟨h1, a, ds, x4, x5, x6, ha, hρ, hd, hl⟩ := h
      subst h1 hρ
      simp at ha
      have qm : (m : Int) < 4611686018427387904 := by omega
      simp -dsimp [qm]
      refine sn_forPR (I := fun i ρ S2 => S2 = S' ∧ ∃ (ds : List Int) (x4 x5 x6 : Option Val), (i ≤ ds.length ∨ m ≤ ds.length) ∧ ρ = [some (.fz (ns.map .int)), some (.int m), some (il ds), some (.int a), x4, x5, x6] ∧ dOk ds ∧ ds.length ≤ 24 * a + i)
          ⟨rfl, ds, x4, x5, x6, .inl (Nat.zero_le _), rfl, hd, by omega⟩ ?_ ?_
      · rintro i ρ S2 hi ⟨rfl, ds, x4, x5, x6, h2, rfl, hd, hl⟩
        refine ⟨_, tgt_name, ?_⟩
        simp -dsimp
        refine ⟨fun hc => ?_, fun hc => ?_⟩
        · have e1 : (-18446744073709551616 : Int) < i ∧ (i : Int) < 18446744073709551616 := by omega
          have hd2 : dOk (ds ++ [((ds.length : Int) * 69621 + 977 * a + i * i * 31) % 65521]) := hd.app (modOk _ 65521 (by decide) (by decide))
          generalize hz : ((ds.length : Int) * 69621 + 977 * a + i * i * 31) % 65521 = z at hd2
          simp -dsimp [e1, lst_snocI, hz]
          have q1 : ds.length < 16777216 := by omega
          have q2 : i + 1 ≤ (ds ++ [z]).length ∨ m ≤ (ds ++ [z]).length := by simp; omega
          have q3 : (ds ++ [z]).length ≤ 24 * a + (i + 1) := by simp; omega
          exact And.intro q1 (Exists.intro _ (And.intro q2 (And.intro rfl (And.intro hd2 q3))))
        · exact Exists.intro ds (And.intro (by omega) (And.intro rfl (And.intro hd (by omega))))
      · rintro ρ S2 ⟨rfl, ds, x4, x5, x6, h2, rfl, hd, hl⟩
        simp -dsimp [cut_take]
        have q1 : min m ds.length = m := by omega
        exact And.intro q1 fun d hd' => hd d (List.mem_of_mem_take hd')
  obtain ⟨v, S', e, ds, rfl, rfl, q⟩ := this.get
  exact ⟨ds, e, q⟩
/-! what a net asks -/
theorem v_addT2 {xs ys : List Val} {S : Sto} (h : xs.length + ys.length ≤ 1000000) : vAdd false (.tup xs) (.tup ys) S = .ok (.tup (xs ++ ys)) S := by
  rw [v_addT, if_pos (sz h)]
theorem in_ts {g : Gt} (S : Sto) : vInW true g.w (.tup [.str "turn", .str "swap"]) S = .ok (.bl false) S := by
  cases g
  · unfold vInW Gt.w
    simp [dats_cons dat_str (dats_cons dat_str dats_nil), flatD, PyData.eqv]
  · unfold vInW Gt.w
    simp [dats_cons dat_str (dats_cons dat_str dats_nil), flatD, PyData.eqv]
theorem putS_app {kt : Type} [DecidableEq kt] {k : kt} {v : Val} : ∀ {ks : List kt} {us : List Val}, k ∉ ks → ks.length = us.length → putS k v ks us = (ks ++ [k], us ++ [v])
  | [], [], _, _ => rfl
  | [], _ :: _, _, h => by cases h
  | _ :: _, [], _, h => by cases h
  | q :: ks, u :: us, hk, hl => by
    have h1 : ¬ q = k := fun e => hk (e ▸ List.mem_cons_self)
    have := putS_app (v := v) (fun h => hk (List.mem_cons_of_mem _ h)) (Nat.succ.inj hl)
    unfold putS
    rw [if_neg h1, this]; rfl
theorem fold_put {α kt : Type} [DecidableEq kt] {k : α → kt} {u : α → Val} : ∀ {xs : List α} {kv : List kt × List Val}, kv.1.length = kv.2.length → (xs.map k).Nodup → (∀ x ∈ xs, k x ∉ kv.1) → (xs.foldl (fun q x => putS (k x) (u x) q.1 q.2) kv) = (kv.1 ++ xs.map k, kv.2 ++ xs.map u)
  | [], kv, _, _, _ => by simp
  | x :: xs, kv, hl, nd, hn => by
    rw [List.foldl_cons, putS_app (hn x List.mem_cons_self) hl]
    rw [List.map_cons] at nd
    obtain ⟨n1, n2⟩ := List.nodup_cons.mp nd
    rw [fold_put (by simp [hl]) n2 fun y hy hm => ?_]
    · simp
    · rcases List.mem_append.mp hm with hm | hm
      · exact hn y (List.mem_cons_of_mem _ hy) hm
      · exact n1 (List.mem_singleton.mp hm ▸ List.mem_map.mpr ⟨y, hy, rfl⟩)
theorem Gt.v_len (g : Gt) : (g.outs.map nv).length ≤ 2 := by cases g <;> simp [Gt.outs]
theorem cut2 {g : Gt} {S : Sto} : vCut false g.v (some 2) none S = .ok (.tup (g.outs.map nv)) S := by
  unfold Gt.v
  rw [v_cutT, show (2 : Int) = ((2 : Nat) : Int) from rfl, cut_drop]; rfl
theorem nodup_inl {l : List Nat} (h : l.Nodup) : (l.map fun (c : Nat) => (Sum.inl (c : Int) : Key)).Nodup := by
  unfold List.Nodup at h ⊢
  rw [List.pairwise_map]
  refine h.imp ?_
  intro a b hne e
  injection e with e
  omega
theorem g_is_gate {g : Gt} {n : Nat} (h : g.ok n) (S : Sto) : G_is_gate [g.v, .int n] S = .ok (.bl true) S := by
  obtain ⟨h1, h2, h3, h4⟩ := h
  refine rn_eq ?_
  have isi : ∀ S, vIsi [g.v, .ty .tup] S = .ok (.bl true) S := fun S => rfl
  have isi2 : ∀ S, vIsi [nl g.cs, .ty .tup] S = .ok (.bl true) S := fun S => rfl
  have lenn : ∀ S, vLen [nl g.cs] S = .ok (.int (g.cs.length : Nat)) S := fun S => by unfold nl; rw [v_lenT, List.length_map]
  have hadd : ∀ S, vAdd false (nl g.cs) (.tup (g.outs.map nv)) S = .ok (nl g.used) S := fun S => by
    unfold nl Gt.used
    rw [v_addT2 (by have := g.v_len; simp at this ⊢; omega), List.map_append]
  have lenu : ∀ S, vLen [nl g.used] S = .ok (.int (g.used.length : Nat)) S := fun S => by unfold nl; rw [v_lenT, List.length_map]
  have hul : g.used.length ≤ 402 := by have := g.v_len; unfold Gt.used; simp at this ⊢; omega
  have key : ∀ (l : Int), (∀ S, vLen [g.v] S = .ok (.int l) S) → (l = 3 ∨ l = 4) → (∀ S, vEq g.w (.str "turn") S = .ok (.bl (decide (l = 3))) S) → Rn (G_is_gate [g.v, .int n] S) (fun v S' => v = .bl true ∧ S' = S) X0 := by
    intro l hl hl2 hw
    unfold G_is_gate
    rw [rn_runB]
    have hll : ¬ l < 3 := by omega
    have fin : Sn (sSeq (sSet 2 (eBinP (vAdd false) (eBinP vIx (eVar 0) (eC (.int 1))) (eCutP (eVar 0) (oSome (eC (.int 2))) oNone)))
      (sSeq (sIf (tNotM (tTruP (eBIP vAll (aCons (eLcP (iSeqP (eVar 2)) (.name 4) tYesM (eCallN 2 G_is_line (aCons (eVar 4) (aCons (eVar 1) aNil))) [4]) aNil)))) (sRet (eC (.bl false))) sNext)
      (sSeq (sSet 3 (eBIP vAll (aCons (eLcP (iRange1P (eBinP vSub (eBIP vLen (aCons (eBinP vIx (eVar 0) (eC (.int 1))) aNil)) (eC (.int 1)))) (.name 5) tYesM (eBinP vLt (eBinP vIx (eBinP vIx (eVar 0) (eC (.int 1))) (eVar 5)) (eBinP vIx (eBinP vIx (eVar 0) (eC (.int 1))) (eBinP (vAdd false) (eVar 5) (eC (.int 1))))) [5]) aNil)))
      (sRet (eAnd (eVar 3) (eBinP vEq (eBIP vLenD (aCons (eDcP (iSeqP (eVar 2)) (.name 4) tYesM (eVar 4) (eC (.bl true)) [4]) aNil)) (eBIP vLen (aCons (eVar 2) aNil))))))) [some g.v, some (.int n), none, none, none, none] S)
        ⟨fun x S_1 => Val.non = .bl true ∧ S_1 = S, fun v S' => v = .bl true ∧ S' = S, fun _ _ => False, fun _ _ => False, fun c vs x S => X0 c vs S⟩ := by
      simp -dsimp [cut2, hadd]
      refine rn_lcM (f := nv) (g := fun _ => .bl true) (xs := g.used) (rn_eq (by simp -dsimp)) (by omega) (fun c hc => ⟨_, tgt_name, rn_eq (by
        have := h1 c hc
        simp -dsimp [wipeE, nv, g_is_line]
        omega)⟩) ?_
      simp -dsimp [v_allT, lenn]
      refine rn_lcM (f := fun (i : Nat) => Val.int (0 + (i : Int))) (g := fun _ => .bl true) (xs := List.range ((g.cs.length : Int) - 1).toNat) (rn_eq (by simp -dsimp [lenn, rangeL]; omega)) (by simp; omega) (fun i hi => ⟨_, tgt_name, rn_eq (by
        have hi : i + 1 < g.cs.length := by have := List.mem_range.mp hi; omega
        have e1 : ∀ S, vIx (nl g.cs) (.int (i : Nat)) S = .ok (.int (g.cs[i] : Nat)) S := fun S => by unfold nl; rw [v_ixT, atI_n, List.getElem?_map, List.getElem?_eq_getElem (by omega)]; rfl
        have e2 : ∀ S, vIx (nl g.cs) (.int ((i : Int) + 1)) S = .ok (.int (g.cs[i + 1] : Nat)) S := fun S => by
          unfold nl; rw [v_ixT, show (i : Int) + 1 = ((i + 1 : Nat) : Int) from rfl, atI_n, List.getElem?_map, List.getElem?_eq_getElem hi]; rfl
        have := List.pairwise_iff_getElem.mp h3 i (i + 1) (by omega) hi (by omega)
        simp -dsimp [wipeE, e1, e2]
        exact this)⟩) ?_
      have hdc : eDcP (iSeqP (eVar 2)) (.name 4) tYesM (eVar 4) (eC (.bl true)) [4] [some g.v, some (.int n), some (nl g.used), some (.bl true), none, none] S = .ok (.dk (g.used.map fun (c : Nat) => Sum.inl (c : Int)) (g.used.map fun _ => .bl true)) S := by
        have hit : iSeqP (eVar 2) [some g.v, some (.int n), some (nl g.used), some (.bl true), none, none] S = .ok (g.used.map nv) S := rn_eq (by simp -dsimp)
        unfold eDcP
        rw [hit]
        show ((dcGoP _ _ _ _ _ _ _ _ _).bind _) = _
        rw [dcGoP_map (f := nv) (t := fun _ => true) (k := fun (c : Nat) => Sum.inl (c : Int)) (u := fun _ => .bl true) (xs := g.used) (kv := ([], [])) (by simp; omega) rfl (fun c hc => ⟨_, tgt_name, rfl, fun _ => ⟨nv c, rn_eq (by simp -dsimp [wipeE]), rfl, rfl⟩⟩)]
        rw [List.filter_eq_self.mpr (fun _ _ => rfl), fold_put rfl ?_ (fun _ _ => List.not_mem_nil)]
        · rfl
        · exact nodup_inl h2
      have hlen : ∀ S, vLenD [.dk (g.used.map fun (c : Nat) => Sum.inl (c : Int)) (g.used.map fun _ => .bl true)] S = .ok (.int (g.used.length : Nat)) S := fun S => by
        unfold vLenD; simp
      simp -dsimp [v_allT]
      rw [hdc]
      simp -dsimp [hlen, lenu]
    simp -dsimp [isi, hl, isi2, hll, in_ts, hw]
    rcases hl2 with rfl | rfl
    · simp -dsimp
      simp -dsimp at fin
      exact fin
    · simp -dsimp
      simp -dsimp at fin
      exact fin
  cases g with
  | turn cs a => exact key 3 (fun S => rfl) (.inl rfl) (fun S => e_tt S)
  | swap cs a b => exact key 4 (fun S => rfl) (.inr rfl) (fun S => e_st S)
end BK

/-! nets: gates drawn, nets made -/
namespace BK
open PySem PySem.Spec L2 PM
def ic (n : Nat) : Int := n
theorem ints_nv : ∀ {l : List Nat}, intsOf (l.map nv) = some (l.map ic)
  | [] => rfl
  | a :: l => by
    have := ints_nv (l := l)
    simp only [List.map_cons, nv, intsOf]
    rw [this]; rfl
theorem sort_nat (l : List Nat) (nd : l.Nodup) : ∃ cs : List Nat, (sortI (l.map ic)) = cs.map ic ∧ cs.Perm l ∧ cs.Pairwise (· < ·) := by
  have hp := sortI_perm (l.map ic)
  have hs := sortI_sorted (l.map ic)
  generalize sortI (l.map ic) = zs at hp hs
  have h0 : ∀ z ∈ zs, 0 ≤ z := fun z hz => by
    obtain ⟨n, _, rfl⟩ := List.mem_map.mp (hp.mem_iff.mp hz)
    unfold ic; omega
  have e : zs = (zs.map Int.toNat).map ic := by
    rw [List.map_map]
    conv => lhs; rw [← List.map_id zs]
    refine List.map_congr_left fun z hz => ?_
    have := h0 z hz
    simp [ic]; omega
  have p2 : (zs.map Int.toNat).Perm l := by
    have := hp.map Int.toNat
    rw [List.map_map] at this
    have e2 : (l.map (Int.toNat ∘ ic)) = l := by
      conv => rhs; rw [← List.map_id l]
      refine List.map_congr_left fun z hz => by simp [ic]
    rw [e2] at this
    exact this
  refine ⟨zs.map Int.toNat, e, p2, ?_⟩
  have nd2 : (zs.map Int.toNat).Nodup := p2.nodup_iff.mpr nd
  have le2 : (zs.map Int.toNat).Pairwise (· ≤ ·) := by
    rw [List.pairwise_map]
    exact hs.imp fun h => by omega
  exact (le2.and nd2).imp fun h => Nat.lt_of_le_of_ne h.1 h.2
theorem erase_map {α β : Type} {f : α → β} : ∀ {l : List α} {j : Nat}, (l.map f).eraseIdx j = (l.eraseIdx j).map f
  | [], _ => rfl
  | a :: l, 0 => rfl
  | a :: l, j + 1 => by
    show f a :: (l.map f).eraseIdx j = f a :: (l.eraseIdx j).map f
    rw [erase_map]
def nls (l : List Nat) : Val := .lst (l.map nv)
theorem pop_ok {l : List Nat} {i : Int} (h0 : 0 ≤ i) (h1 : i < l.length) (hl : l.length ≤ 100000) (nd : l.Nodup) :
    ∃ (a : Nat) (l' : List Nat), (∀ (ρ : Ev) (j : Nat) (S : Sto), popR (nls l) (.int i) ρ j S = .ok (nv a, ρ.set j (some (nls l'))) S) ∧ a ∈ l ∧ a ∉ l' ∧ l'.Nodup ∧ (∀ x ∈ l', x ∈ l) ∧ l'.length + 1 = l.length := by
  obtain ⟨j, rfl⟩ := Int.eq_ofNat_of_zero_le h0
  have hj : j < l.length := by omega
  refine ⟨l[j], l.eraseIdx j, fun ρ k S => ?_, List.getElem_mem hj, ?_, nd.sublist (List.eraseIdx_sublist l j), fun x hx => (List.eraseIdx_sublist l j).mem hx, ?_⟩
  · unfold nls
    rw [← erase_map]
    exact pop_at rfl (by omega) (by rw [List.getElem?_map, List.getElem?_eq_getElem hj]; rfl)
  · intro hm
    have hp : l = l.take j ++ l[j] :: l.drop (j + 1) := by simp
    have nd' := nd
    rw [hp] at nd'
    rw [List.eraseIdx_eq_take_drop_succ] at hm
    obtain ⟨q1, q2, q3⟩ := List.nodup_append.mp nd'
    rcases List.mem_append.mp hm with hm | hm
    · exact q3 _ hm _ List.mem_cons_self rfl
    · exact (List.nodup_cons.mp q2).1 hm
  · rw [List.length_eraseIdx_of_lt hj]; omega
theorem v_sort_nls {l : List Nat} {S : Sto} : vSortB false [nls l] S = .ok (.lst ((sortI (l.map ic)).map .int)) S := by
  show vSortI false [nls l] S = _
  unfold vSortI nls
  simp only [lstOf, Option.bind, ints_nv]; rfl
@[simp ↓] theorem v_len_nls {l : List Nat} {S : Sto} : vLen [nls l] S = .ok (.int (l.length : Nat)) S := by unfold nls; rw [v_lenL, List.length_map]
@[simp ↓] theorem s_lsP_nls {l : List Nat} {f : List Val → SRes} {D : En} {kk : Kp D} : Sn (lsP (some (nls l)) f) D kk = Sn (f (l.map nv)) D := nr
@[simp ↓] theorem rn_nls_pop {l : List Nat} {α : Type} {f : Res α} {P : α → Sto → Prop} {X : XP} {kk : Kp (P, X)} : Rn (onL (nls l) f) P X kk = Rn f P X := nr
theorem nls_snoc {l : List Nat} {a : Nat} : Val.lst (l.map nv ++ [nv a]) = nls (l ++ [a]) := by unfold nls; rw [List.map_append]; rfl
theorem nodup_snoc {l : List Nat} {a : Nat} (h : l.Nodup) (ha : a ∉ l) : (l ++ [a]).Nodup :=
  List.nodup_append.mpr ⟨h, by simp, fun x hx y hy e => by rw [List.mem_singleton.mp hy] at e; exact ha (e ▸ hx)⟩
theorem rangeL_nls {n : Nat} : Val.lst (rangeL 0 n) = nls (List.range n) := by
  unfold nls rangeL nv; simp
noncomputable def tailG : SM := sSeq (sSet 11 (eLst false aNil))
    (sSeq (sForP (iRange1P (eBinP vMod (eBinP vFdiv (eVar 6) (eC (.int 512))) (eC (.int 4)))) (.name 12)
    (sIf (PM.tB (eBinP vGt (eBIP vLen (aCons (eVar 8) aNil)) (eC (.int 0)))) (sAppX 11 (noX (eXPop 8 (eBinP vMod (eBinP vFdiv (eVar 7) (eBinP (vAdd false) (eVar 12) (eC (.int 1)))) (eBIP vLen (aCons (eVar 8) aNil))))))
    sNext))
    (sAppP 4 (eBinP (vAdd false) (eTup (aCons (eBinP vIx (eVar 10) (eC (.int 0))) (aCons (eBIP vTuple (aCons (eBIP (vSortB false) (aCons (eVar 11) aNil)) aNil)) aNil))) (eCutP (eVar 10) (oSome (eC (.int 2))) oNone))))
theorem tail_ok {x0 x1 x2 x3 x5 x9 x11 x12 : Option Val} {d mr : Int} {hd : Val} {rs : List Nat} {acc : List Val} {ls : List Nat} {n : Nat} {S : Sto} {N : Ev → Sto → Prop} {R : Val → Sto → Prop} {B C : Ev → Sto → Prop} {E : Nat → List Val → Ev → Sto → Prop}
    (nd : ls.Nodup) (hn : ∀ x ∈ ls, x < n) (hll : ls.length ≤ 400) (hacc : acc.length ≤ 1000) (hd0 : 0 ≤ d) (hm0 : 0 ≤ mr) (hrs : rs.length ≤ 2) (hrd : ∀ x ∈ rs, x ∉ ls) (hrn : ∀ x ∈ rs, x < n) (hrn2 : rs.Nodup)
    (q : ∀ cs y11 y12 y8, (∀ c ∈ cs ++ rs, c < n) → (cs ++ rs).Nodup → cs.Pairwise (· < ·) → cs.length ≤ 3 → N [x0, x1, x2, x3, some (.lst (acc ++ [.tup (hd :: nl cs :: rs.map nv)])), x5, some (.int d), some (.int mr), y8, x9, some (.tup (hd :: .tup [] :: rs.map nv)), y11, y12] S) :
    Sn (tailG [x0, x1, x2, x3, some (.lst acc), x5, some (.int d), some (.int mr), some (nls ls), x9, some (.tup (hd :: .tup [] :: rs.map nv)), x11, x12] S) ⟨N, R, B, C, E⟩ := by
  unfold tailG
  simp -dsimp
  refine ⟨by omega, ?_⟩
  refine sn_forPR (I := fun i ρ S' => S' = S ∧ ∃ (cs ls' : List Nat) (y12 : Option Val), ρ = [x0, x1, x2, x3, some (.lst acc), x5, some (.int d), some (.int mr), some (nls ls'), x9, some (.tup (hd :: .tup [] :: rs.map nv)), some (nls cs), y12] ∧
      cs.length ≤ i ∧ ls'.length ≤ 400 ∧ cs.Nodup ∧ ls'.Nodup ∧ (∀ x ∈ cs, x ∉ ls') ∧ (∀ x ∈ cs, x ∈ ls) ∧ (∀ x ∈ ls', x ∈ ls)) ?_ ?_ ?_
  · exact ⟨rfl, [], ls, x12, rfl, Nat.zero_le _, hll, .nil, nd, (fun _ h => by cases h), (fun _ h => by cases h), fun _ h => h⟩
  · intro i ρ S' hi h
    obtain ⟨h0, cs, ls', y12, hρ, ci, ll, cn, ln, cl, cs', ls''⟩ := h
    subst h0 hρ
    refine ⟨_, tgt_name, ?_⟩
    have hi3 : i < 4 := by omega
    simp -dsimp
    refine ⟨fun hc => ?_, fun hc => ?_⟩
    · obtain ⟨a, l', e, m1, m2, m3, m4, m5⟩ := pop_ok (l := ls') (i := mr / (i + 1) % (ls'.length : Int)) (Int.emod_nonneg _ (by omega)) (Int.emod_lt_of_pos _ (by omega)) (by omega) ln
      have e0 : (0 : Int) < (i : Int) + 1 := by omega
      have e1 : (i : Int) + 1 < 1073741824 := by omega
      simp -dsimp [e, hc, e0, e1, nls_snoc]
      have q1 : cs.length < 16777216 := by omega
      refine And.intro q1 (Exists.intro _ (Exists.intro _ (And.intro (And.intro rfl rfl) ?_)))
      refine ⟨by simp; omega, by omega, nodup_snoc cn fun hm => cl a hm m1, m3, fun x hx => ?_, fun x hx => ?_, fun x hx => ls'' x (m4 x hx)⟩
      · rcases List.mem_append.mp hx with hx | hx
        · exact fun q => cl x hx (m4 x q)
        · rw [List.mem_singleton.mp hx]; exact m2
      · rcases List.mem_append.mp hx with hx | hx
        · exact cs' x hx
        · rw [List.mem_singleton.mp hx]; exact ls'' a m1
    · exact ⟨cs, ls', ⟨rfl, rfl⟩, by omega, ll, cn, ln, cl, cs', ls''⟩
  · intro ρ S' h
    obtain ⟨h0, cs, ls', y12, hρ, ci, ll, cn, ln, cl, cs', ls''⟩ := h
    subst h0 hρ
    obtain ⟨zs, ez, pz, sz⟩ := sort_nat cs cn
    have hsrt : ∀ S, vSortB false [nls cs] S = .ok (.lst (zs.map nv)) S := fun S => by rw [v_sort_nls, ez, List.map_map]; rfl
    have hcut : ∀ S, vCut false (.tup (hd :: .tup [] :: rs.map nv)) (some 2) none S = .ok (.tup (rs.map nv)) S := fun S => by
      rw [v_cutT, show (2 : Int) = ((2 : Nat) : Int) from rfl, cut_drop]; rfl
    have htup : ∀ S, vTuple [.lst (zs.map nv)] S = .ok (nl zs) S := fun S => rfl
    have hadd : ∀ S, vAdd false (.tup [hd, nl zs]) (.tup (rs.map nv)) S = .ok (.tup (hd :: nl zs :: rs.map nv)) S := fun S => by
      rw [v_addT2 (by simp; omega)]; rfl
    have hix : ∀ S, vIx (.tup (hd :: .tup [] :: rs.map nv)) (.int 0) S = .ok hd S := fun S => by rw [v_ixT, show (0 : Int) = ((0 : Nat) : Int) from rfl, atI_n]; rfl
    have q1 : acc.length < 16777216 := by omega
    simp -dsimp [hsrt, htup, hcut, hadd, hix, q1]
    have q2 : 2 + rs.length ≤ 16777216 := by omega
    refine And.intro q2 (q zs _ _ _ (fun c hc => ?_) ?_ sz (by have := pz.length_eq; omega))
    · rcases List.mem_append.mp hc with hc | hc
      · exact hn c (cs' c (pz.mem_iff.mp hc))
      · exact hrn c hc
    · exact List.nodup_append.mpr ⟨pz.nodup_iff.mpr cn, hrn2, fun x hx y hy e => hrd y hy (e ▸ cs' x (pz.mem_iff.mp hx))⟩
end BK

/-! nets: gates drawn, nets made (the ends) -/
namespace BK
open PySem PySem.Spec L2 PM
theorem fold_gates : G__law_gates = runB 13
  (sSeq (sSet 4 (eLst false aNil))
    (sSeq (sForP (iRange1P (eVar 2)) (.name 5)
    (sSeq (sPar 6 7 (aCons (eBinP vIx (eVar 0) (eBinP (vAdd false) (eVar 1) (eBinP vMul (eC (.int 2)) (eVar 5)))) (aCons (eBinP vIx (eVar 0) (eBinP (vAdd false) (eBinP (vAdd false) (eVar 1) (eBinP vMul (eC (.int 2)) (eVar 5))) (eC (.int 1)))) aNil)))
    (sSeq (sSet 8 (eListRP (eC (.int 0)) (eVar 3)))
    (sSeq (sSetX 9 (noX (eXPop 8 (eBinP vMod (eVar 6) (eVar 3)))))
    (sSeq (sSet 10 (eTup (aCons (eC (.str "turn")) (aCons (eTup aNil) (aCons (eVar 9) aNil)))))
    (sSeq (sIf (tAndM (PM.tB (eBinP vEq (eBinP vMod (eBinP vFdiv (eVar 6) (eVar 3)) (eC (.int 3))) (eC (.int 0)))) (PM.tB (eBinP vGt (eBIP vLen (aCons (eVar 8) aNil)) (eC (.int 0))))) (sSetX 10 (noX (eXTup (aXCons (eC (.str "swap")) (aXCons (eTup aNil) (aXCons (eVar 9) (aXLast (eXPop 8 (eBinP vMod (eBinP vFdiv (eVar 6) (eC (.int 64))) (eBIP vLen (aCons (eVar 8) aNil)))))))))))
    sNext) tailG))))))
    (sRet (eVar 4)))) := rfl
theorem gvs_snoc {gs : List Gt} {g : Gt} : Val.lst (gs.map Gt.v ++ [g.v]) = gvs (gs ++ [g]) := by unfold gvs; rw [List.map_append]; rfl
theorem atD {ds : List Int} {i : Nat} (h : i < ds.length) : ∃ d, atI ds (i : Int) = some d ∧ d ∈ ds := ⟨ds[i], by rw [atI_n, List.getElem?_eq_getElem h], List.getElem_mem h⟩
theorem g_law_gates {ds : List Int} {a m n : Nat} (hds : dOk ds) (hl : a + 2 * m ≤ ds.length) (hm : m ≤ 100) (hn : 0 < n) (hn2 : n ≤ 400) (S : Sto) :
    ∃ gs : List Gt, G__law_gates [il ds, .int a, .int m, .int n] S = .ok (gvs gs) S ∧ gs.length = m ∧ ∀ g ∈ gs, g.ok n ∧ g.cs.length ≤ 3 := by
  have : Rn (G__law_gates [il ds, .int a, .int m, .int n] S) (fun v S' => ∃ gs : List Gt, v = gvs gs ∧ S' = S ∧ gs.length = m ∧ ∀ g ∈ gs, g.ok n ∧ g.cs.length ≤ 3) X0 := by
    rw [fold_gates, rn_runB]
    have qm : (m : Int) < 4611686018427387904 := by omega
    simp -dsimp [qm]
    refine sn_forPR (I := fun i ρ S' => S' = S ∧ ∃ (gs : List Gt) (x5 x6 x7 x8 x9 x10 x11 x12 : Option Val), ρ = [some (il ds), some (.int a), some (.int m), some (.int n), some (.lst (gs.map Gt.v)), x5, x6, x7, x8, x9, x10, x11, x12] ∧ gs.length = i ∧ (∀ g ∈ gs, g.ok n ∧ g.cs.length ≤ 3)) ?_ ?_ ?_
    · exact ⟨rfl, [], _, _, _, _, _, _, _, _, rfl, rfl, fun _ h => by cases h⟩
    · intro i ρ S' hi h
      obtain ⟨h0, gs, x5, x6, x7, x8, x9, x10, x11, x12, hρ, hgl, hgs⟩ := h
      subst h0 hρ
      refine ⟨_, tgt_name, ?_⟩
      have hi' : i < m := by omega
      obtain ⟨d, e1, md⟩ := atD (ds := ds) (i := a + 2 * i) (by omega)
      obtain ⟨mr, e2, mm⟩ := atD (ds := ds) (i := a + 2 * i + 1) (by omega)
      have d1 := hds _ md
      have d2 := hds _ mm
      rw [show ((a + 2 * i : Nat) : Int) = (a : Int) + 2 * (i : Int) by omega] at e1
      rw [show ((a + 2 * i + 1 : Nat) : Int) = (a : Int) + 2 * (i : Int) + 1 by omega] at e2
      obtain ⟨a0, l1, p1, m1, m2, m3, m4, m5⟩ := pop_ok (l := List.range n) (i := d % (n : Int)) (Int.emod_nonneg _ (by omega)) (by rw [List.length_range]; exact Int.emod_lt_of_pos _ (by omega)) (by simp; omega) List.nodup_range
      rw [List.length_range] at m5
      have c1 : (n : Int) < 4611686018427387904 := by omega
      have c2 : (n : Int) < 1073741824 := by omega
      have c3 : n ≤ 16777216 := by omega
      have c4 : (0 : Int) < (n : Int) := by omega
      have c5 : -4611686018427387904 ≤ (n : Int) := by omega
      have nx : ∀ (g : Gt) (y5 y6 y7 y8 y9 y10 y11 y12 : Option Val), g.ok n → g.cs.length ≤ 3 → S' = S' ∧ ∃ (gs2 : List Gt) (x5 x6 x7 x8 x9 x10 x11 x12 : Option Val), [some (il ds), some (.int a), some (.int m), some (.int n), some (.lst (gs.map Gt.v ++ [g.v])), y5, y6, y7, y8, y9, y10, y11, y12] = [some (il ds), some (.int a), some (.int m), some (.int n), some (.lst (gs2.map Gt.v)), x5, x6, x7, x8, x9, x10, x11, x12] ∧ gs2.length = i + 1 ∧ (∀ g ∈ gs2, g.ok n ∧ g.cs.length ≤ 3) := fun g y5 y6 y7 y8 y9 y10 y11 y12 hg hc =>
        ⟨rfl, gs ++ [g], _, _, _, _, _, _, _, _, by rw [List.map_append]; rfl, by rw [List.length_append, hgl]; rfl, fun z hz => by
          rcases List.mem_append.mp hz with hz | hz
          · exact hgs z hz
          · rw [List.mem_singleton.mp hz]; exact ⟨hg, hc⟩⟩
      have trn : Val.tup [.str "turn", iv [], nv a0] = .tup (.str "turn" :: .tup [] :: [a0].map nv) := rfl
      have one : Sn (tailG [some (il ds), some (.int a), some (.int m), some (.int n), some (.lst (gs.map Gt.v)), some (.int i), some (.int d), some (.int mr), some (nls l1), some (nv a0), some (.tup (.str "turn" :: .tup [] :: [a0].map nv)), x11, x12] S')
          ⟨fun ρ S2 => S2 = S' ∧ ∃ (gs2 : List Gt) (x5 x6 x7 x8 x9 x10 x11 x12 : Option Val), ρ = [some (il ds), some (.int a), some (.int m), some (.int n), some (.lst (gs2.map Gt.v)), x5, x6, x7, x8, x9, x10, x11, x12] ∧ gs2.length = i + 1 ∧ (∀ g ∈ gs2, g.ok n ∧ g.cs.length ≤ 3), fun _ _ => False, fun _ _ => False, fun _ _ => False, fun _ _ _ _ => False⟩ := by
        refine tail_ok (rs := [a0]) (n := n) m3 (fun x hx => List.mem_range.mp (m4 x hx)) (by omega) (by simp; omega) d1.1 d2.1 (by simp) (by simpa using m2) (by simpa using m1) (by simp) fun cs y11 y12 y8 q1 q2 q3 q4 => ?_
        exact nx (.turn cs a0) _ _ _ _ _ _ _ _ ⟨q1, q2, q3, Nat.le_trans q4 (by decide)⟩ q4
      simp -dsimp [e1, e2, rangeL_nls, c1, c2, c3, c4, c5, p1, trn]
      refine ⟨hn, fun hc => ⟨fun hc1 => ?_, fun hc1 => ?_⟩, fun hc => ?_⟩
      · obtain ⟨b0, l2, p2, k1, k2, k3, k4, k5⟩ := pop_ok (l := l1) (i := d / 64 % (l1.length : Int)) (Int.emod_nonneg _ (by omega)) (Int.emod_lt_of_pos _ (by omega)) (by omega) m3
        simp -dsimp [p2, hc1]
        have two := tail_ok (x0 := some (il ds)) (x1 := some (.int a)) (x2 := some (.int m)) (x3 := some (.int n)) (x5 := some (.int i)) (x9 := some (nv a0)) (x11 := x11) (x12 := x12) (d := d) (mr := mr) (hd := .str "swap") (acc := gs.map Gt.v) (rs := [a0, b0]) (ls := l2) (n := n) (S := S')
          (N := fun ρ S2 => S2 = S' ∧ ∃ (gs2 : List Gt) (x5 x6 x7 x8 x9 x10 x11 x12 : Option Val), ρ = [some (il ds), some (.int a), some (.int m), some (.int n), some (.lst (gs2.map Gt.v)), x5, x6, x7, x8, x9, x10, x11, x12] ∧ gs2.length = i + 1 ∧ (∀ g ∈ gs2, g.ok n ∧ g.cs.length ≤ 3)) (R := fun _ _ => False) (B := fun _ _ => False) (C := fun _ _ => False) (E := fun _ _ _ _ => False)
          k3 (fun x hx => List.mem_range.mp (m4 x (k4 x hx))) (by omega) (by simp; omega) d1.1 d2.1 (by simp) (by
            intro x hx
            rcases List.mem_cons.mp hx with rfl | hx
            · exact fun z => m2 (k4 _ z)
            · rw [List.mem_singleton.mp hx]; exact k2) (by
            intro x hx
            rcases List.mem_cons.mp hx with rfl | hx
            · exact List.mem_range.mp m1
            · rw [List.mem_singleton.mp hx]; exact List.mem_range.mp (m4 _ k1)) (by simp; exact fun z => m2 (z ▸ k1)) fun cs y11 y12 y8 q1 q2 q3 q4 => nx (.swap cs a0 b0) _ _ _ _ _ _ _ _ ⟨q1, q2, q3, Nat.le_trans q4 (by decide)⟩ q4
        exact two.imp (fun _ _ z => z) (fun _ _ z => z.elim) (fun _ _ z => z.elim) (fun _ _ z => z.elim) (fun _ _ _ _ z => z.elim)
      · exact one.imp (fun _ _ z => z) (fun _ _ z => z.elim) (fun _ _ z => z.elim) (fun _ _ z => z.elim) (fun _ _ _ _ z => z.elim)
      · exact one.imp (fun _ _ z => z) (fun _ _ z => z.elim) (fun _ _ z => z.elim) (fun _ _ z => z.elim) (fun _ _ _ _ z => z.elim)
    · intro ρ S' h
      obtain ⟨h0, gs, x5, x6, x7, x8, x9, x10, x11, x12, hρ, hgl, hgs⟩ := h
      subst h0 hρ
      simp -dsimp
      exact ⟨gs, rfl, hgl, fun g hg => hgs g hg⟩
  obtain ⟨v, S', e, gs, rfl, rfl, q⟩ := this.get
  exact ⟨gs, e, q⟩
theorem g_net_init {n : Nat} {gs : List Gt} (hn : 0 < n) (hn2 : n ≤ 400) (hgs : gs.length ≤ 100000) (hok : ∀ g ∈ gs, g.ok n) (S : Sto) : G_Net___init__ [.ins 22 [], .int n, gvs gs] S = .ok (.tup [.non, netV n gs]) S := by
  refine rn_eq ?_
  unfold G_Net___init__
  rw [rn_runBP]
  have h2 : ∀ S, vLen [gvs gs] S = .ok (.int (gs.length : Nat)) S := fun S => by unfold gvs; rw [v_lenL, List.length_map]
  have h3 : (n : Int) < 401 := by omega
  have h4 : ¬ (n : Int) = 0 := by omega
  have h5 : ¬ (100000 : Int) < (gs.length : Int) := by omega
  have h6 : ∀ S, vList false [gvs gs] S = .ok (gvs gs) S := fun S => rfl
  simp -dsimp [g_is_line, h2, h3, h4, h5]
  refine ⟨by omega, fun _ => ?_⟩
  refine rn_lcM (f := Gt.v) (g := fun _ => .bl true) (xs := gs) (rn_eq (by simp -dsimp)) (by omega) (fun c hc => ⟨_, tgt_name, rn_eq (by
    simp -dsimp [wipeE, g_is_gate (hok c hc)])⟩) ?_
  simp -dsimp [v_allT, h6]
  rfl
end BK

/-! k51: clean nets -/
namespace BK
open PySem PySem.Spec L2 PM
def wl : Nat → List (List Int)
  | 0 => [[]]
  | k + 1 => (wl k).flatMap fun w => [w ++ [0], w ++ [1]]
def wd (k x : Nat) : List Int := (List.range k).map fun (j : Nat) => Builtin.bitAnd ((x : Int) / 2 ^ ((k : Int) - 1 - (j : Int)).toNat) 1
def ivs (l : List (List Int)) : Val := .lst (l.map iv)
theorem wd_wl : ∀ k, k ≤ 6 → (List.range (2 ^ k)).map (wd k) = wl k := by
  intro k h
  have : ∀ k ∈ [0, 1, 2, 3, 4, 5, 6], (List.range (2 ^ k)).map (wd k) = wl k := by decide +kernel
  exact this k (by simp; omega)
theorem flat2_len {α β : Type} {a b : α → β} : ∀ l : List α, (l.flatMap fun w => [a w, b w]).length = 2 * l.length
  | [] => rfl
  | x :: l => by
    have ih := flat2_len (a := a) (b := b) l
    simp only [List.flatMap_cons, List.length_append, List.length_cons, List.length_nil] at ih ⊢
    omega
theorem wl_len : ∀ k, (wl k).length = 2 ^ k
  | 0 => rfl
  | k + 1 => by
    have ih := wl_len k
    unfold wl
    rw [flat2_len, ih, Nat.pow_succ, Nat.mul_comm]
theorem wl_at : ∀ k, ∀ w ∈ wl k, w.length = k ∧ bOk w
  | 0, w, h => by
    rw [show wl 0 = [[]] from rfl, List.mem_singleton] at h
    subst h; exact ⟨rfl, fun _ h => nomatch h⟩
  | k + 1, w, h => by
    unfold wl at h
    obtain ⟨v, hv, hw⟩ := List.mem_flatMap.mp h
    obtain ⟨h1, h2⟩ := wl_at k v hv
    have add : ∀ b : Int, b = 0 ∨ b = 1 → (v ++ [b]).length = k + 1 ∧ bOk (v ++ [b]) := fun b hb => ⟨by simp [h1], fun x hx => by
      rcases List.mem_append.mp hx with hx | hx
      · exact h2 x hx
      · rw [List.mem_singleton.mp hx]; exact hb⟩
    rcases List.mem_cons.mp hw with rfl | hw
    · exact add 0 (.inl rfl)
    · rw [List.mem_singleton.mp hw]; exact add 1 (.inr rfl)
theorem pow_le {k : Nat} (h : k ≤ 6) : 2 ^ k ≤ 64 := by
  have : ∀ k ∈ [0, 1, 2, 3, 4, 5, 6], 2 ^ k ≤ 64 := by decide
  exact this k (by simp; omega)
theorem word_in {k x : Nat} {y : Option Val} {S : Sto} (h : k ≤ 6) : eLcP (iRange1P (eVar 0)) (.name 1) tYesM (eBinP vAnd (eBinP vShr (eVar 2) (eBinP vSub (eBinP vSub (eVar 0) (eC (.int 1))) (eVar 1))) (eC (.int 1))) [1] [some (.int k), y, some (.int x)] S = .ok (il (wd k x)) S := by
  have e : il (wd k x) = .lst ((List.range k).map fun (j : Nat) => Val.int (Builtin.bitAnd ((x : Int) / 2 ^ ((k : Int) - 1 - (j : Int)).toNat) 1)) := by
    unfold il wd
    rw [List.map_map]; rfl
  rw [e]
  have q1 : (k : Int) < 4611686018427387904 := by omega
  refine eLcP_map (f := fun (i : Nat) => Val.int (0 + (i : Int))) (xs := List.range k) (rn_eq (by simp -dsimp [rangeL, q1])) (sz (by simp; omega)) fun j hj => ⟨_, tgt_name, rn_eq ?_⟩
  have := List.mem_range.mp hj
  have q2 : (0 : Int) ≤ (k : Int) - 1 - (j : Int) := by omega
  simp -dsimp [wipeE, q2]
  omega
theorem g_words {k : Nat} (h : k ≤ 6) (S : Sto) : G_words [.int k] S = .ok (ivs (wl k)) S := by
  refine rn_eq ?_
  unfold G_words
  rw [rn_runB]
  simp -dsimp
  have hp := pow_le h
  have e2 : ((1 : Int) * 2 ^ (k : Int).toNat) = ((2 ^ k : Nat) : Int) := by simp
  refine rn_lcM (f := fun (i : Nat) => Val.int (0 + (i : Int))) (g := fun x => iv (wd k x)) (xs := List.range (2 ^ k)) (rn_eq (by
    have q1 : (k : Int) ≤ 1000 := by omega
    have q2 : ((2 ^ k : Nat) : Int) < 4611686018427387904 := by omega
    have q3 : -4611686018427387904 ≤ ((2 ^ k : Nat) : Int) := by have := Int.natCast_nonneg (2 ^ k); omega
    simp -dsimp [q1]
    rw [show (2 : Int) ^ k = ((2 ^ k : Nat) : Int) by simp]
    refine And.intro (And.intro q3 q2) ?_
    rw [Int.toNat_natCast]
    unfold rangeL; simp)) (by simp; omega) (fun x hx => ⟨_, tgt_name, rn_eq (by
      simp -dsimp [wipeE]
      rw [word_in (by omega)]
      simp -dsimp)⟩) ?_
  simp -dsimp
  rw [← wd_wl k h]
  unfold ivs
  rw [List.map_map]; rfl
theorem g_law_words {k : Nat} (h : k ≤ 6) (S : Sto) : G__law_words [.int k] S = .ok (ivs (wl k)) S := by
  refine rn_eq ?_
  unfold G__law_words
  rw [rn_runB]
  have q1 : (k : Int) < 4611686018427387904 := by omega
  simp -dsimp [q1]
  refine sn_forPR (I := fun i ρ S' => S' = S ∧ ∃ x2 x3 x4, ρ = [some (.int k), some (ivs (wl i)), x2, x3, x4]) ⟨rfl, _, _, _, rfl⟩ ?_ ?_
  · intro i ρ S' hi h1
    obtain ⟨h0, x2, x3, x4, hρ⟩ := h1
    subst h0 hρ
    refine ⟨_, tgt_name, ?_⟩
    have hwl := wl_len i
    have hp := pow_le (k := i) (by omega)
    have hit : ∀ l : List (List Int), itemsP (ivs l) = some (l.map iv) := fun l => rfl
    simp -dsimp [hit]
    refine sn_forPM (f := iv) (I := fun r ρ S2 => S2 = S' ∧ ∃ x4 dn, wl i = dn ++ r ∧ ρ = [some (.int k), some (ivs (wl i)), some (.int i), some (ivs (dn.flatMap fun w => [w ++ [0], w ++ [1]])), x4]) ⟨rfl, _, [], rfl, rfl⟩ ?_ ?_
    · intro w r ρ S2 hw h1
      obtain ⟨h0, x4, dn, hd, hρ⟩ := h1
      subst h0 hρ
      refine ⟨_, tgt_name, ?_⟩
      obtain ⟨w1, w2⟩ := wl_at i w hw
      have hdl : dn.length ≤ 64 := by
        have := congrArg List.length hd
        rw [List.length_append] at this; omega
      have hfl : (dn.flatMap fun w => ([w ++ [0], w ++ [1]] : List (List Int))).length = 2 * dn.length := flat2_len dn
      have hadd : ∀ S, vAdd false (ivs (dn.flatMap fun w => [w ++ [0], w ++ [1]])) (.lst [iv (w ++ [0]), iv (w ++ [1])]) S = .ok (ivs ((dn ++ [w]).flatMap fun w => [w ++ [0], w ++ [1]])) S := fun S => by
        unfold ivs
        rw [v_addL, if_pos (by rw [List.length_map, hfl]; exact sz (by simp; omega))]
        simp
      have a0 : ∀ S, vAdd false (iv w) (.tup [.int 0]) S = .ok (iv (w ++ [0])) S := fun S => v_snocIv (by omega)
      have a1 : ∀ S, vAdd false (iv w) (.tup [.int 1]) S = .ok (iv (w ++ [1])) S := fun S => v_snocIv (by omega)
      simp -dsimp [a0, a1, hadd]
      exact ⟨_, dn ++ [w], by rw [hd]; simp, by simp, rfl⟩
    · intro ρ S2 h1
      obtain ⟨h0, x4, dn, hd, hρ⟩ := h1
      subst h0 hρ
      rw [List.append_nil] at hd
      subst hd
      simp -dsimp
      rfl
  · intro ρ S' h1
    obtain ⟨h0, x2, x3, x4, hρ⟩ := h1
    subst h0 hρ
    simp -dsimp
/-! tables -/
def runW (gs : List Gt) (n k : Nat) (w : List Int) : List Int := runG gs (w ++ List.replicate (n - k) 0)
def goodW (gs : List Gt) (n k m : Nat) (w : List Int) : Bool := decide ((runW gs n k w).take k = w) && ((runW gs n k w).drop (k + m)).all fun b => decide (b = 0)
def outW (gs : List Gt) (n k m : Nat) (w : List Int) : List Int := cutG (runW gs n k w) (some (k : Int)) (some ((k : Int) + m))
theorem v_eqIv {a b : List Int} (S : Sto) : vEq (iv a) (iv b) S = .ok (.bl (decide (a = b))) S := by rw [v_eqN nc_iv nc_iv]; simp
theorem v_neIv {a b : List Int} (S : Sto) : vNe (iv a) (iv b) S = .ok (.bl (!decide (a = b))) S := by rw [v_neN nc_iv nc_iv]; simp
section
variable {gs : List Gt} {n k m : Nat}
theorem runW_ok (hkn : k ≤ n) {w : List Int} (hw : w ∈ wl k) : (w ++ List.replicate (n - k) (0 : Int)).length = n ∧ bOk (w ++ List.replicate (n - k) 0) := by
  obtain ⟨h1, h2⟩ := wl_at k w hw
  refine ⟨by simp [h1]; omega, fun b hb => ?_⟩
  rcases List.mem_append.mp hb with hb | hb
  · exact h2 b hb
  · exact .inl (List.eq_of_mem_replicate hb)
theorem rep0 {j : Nat} : (List.replicate j [Val.int 0]).flatten = (List.replicate j (0 : Int)).map Val.int := by
  induction j with
  | zero => rfl
  | succ j ih => rw [List.replicate_succ, List.flatten_cons, ih, List.replicate_succ]; rfl
theorem zeros {j : Int} (h1 : 0 ≤ j) (h2 : j ≤ 400) (S : Sto) : vRepT (.tup [.int 0]) (.int j) S = .ok (iv (List.replicate j.toNat 0)) S := by
  rw [v_repT, if_pos ⟨by omega, by omega, by simp⟩, rep0]; rfl
theorem wide {w : List Int} (hkn : k ≤ n) (hn : n ≤ 400) (hw : w ∈ wl k) (S : Sto) : vAdd false (iv w) (iv (List.replicate ((n : Int) - k).toNat 0)) S = .ok (iv (w ++ List.replicate (n - k) 0)) S := by
  have h1 := (wl_at k w hw).1
  rw [show ((n : Int) - k).toNat = n - k by omega]
  exact v_addIv (by simp; omega)
theorem any_drop {l : List Int} (S : Sto) : vAnyI [iv l] S = .ok (.bl (!l.all fun b => decide (b = 0))) S := by
  show vAnyI [.tup (l.map .int)] S = _
  rw [v_anyI]
  congr 2
  induction l with
  | nil => rfl
  | cons a l ih =>
    rw [List.any_cons, List.all_cons, ih]
    by_cases h : a = 0 <;> simp [h]
theorem in_drop {l : List Int} (hb : bOk l) (S : Sto) : vInW false (.int 1) (iv l) S = .ok (.bl (!l.all fun b => decide (b = 0))) S := by
  unfold iv
  rw [v_inT rfl fun w h => by obtain ⟨a, _, rfl⟩ := List.mem_map.mp h; rfl]
  congr 2
  induction l with
  | nil => rfl
  | cons a l ih =>
    have ih := ih fun b h => hb b (List.mem_cons_of_mem _ h)
    rw [List.all_cons]
    rcases hb a List.mem_cons_self with rfl | rfl
    · simp only [List.map_cons, List.mem_cons]
      simp at ih ⊢
      exact ih
    · simp
theorem cut_to {l : List Int} {k : Nat} : cutG l none (some (k : Int)) = l.take k := by rw [cut_take]
theorem cut_from {l : List Int} {k : Nat} : cutG l (some (k : Int)) none = l.drop k := by rw [cut_drop]
theorem cut_from2 {l : List Int} {k m : Nat} : cutG l (some ((k : Int) + (m : Int))) none = l.drop (k + m) := by rw [show (k : Int) + (m : Int) = ((k + m : Nat) : Int) by omega, cut_drop]
theorem g_table_of (hk : 1 ≤ k) (hk6 : k ≤ 6) (hm : 1 ≤ m) (hm6 : m ≤ 6) (hn : n ≤ 400) (hkm : k + m ≤ n) (hok : ∀ g ∈ gs, ∀ c ∈ g.used, c < n) (S : Sto) :
    G_table_ofX [netV n gs, .int k, .int m] S = if (wl k).all (goodW gs n k m) then .ok (ivs ((wl k).map (outW gs n k m))) S else .ex 24 [] S := by
  generalize hA : (wl k).all (goodW gs n k m) = A
  have : Rn (G_table_ofX [netV n gs, .int k, .int m] S) (fun v S' => A = true ∧ v = ivs ((wl k).map (outW gs n k m)) ∧ S' = S) (fun c vs S' => A = false ∧ c = 24 ∧ vs = [] ∧ S' = S) := by
    unfold G_table_ofX
    rw [rn_runB]
    have q1 : (k : Int) < 7 := by omega
    have q2 : (m : Int) < 7 := by omega
    obtain ⟨mn, hmn⟩ : ∃ z : Int, (if (m : Int) < k then (m : Int) else k) = z := ⟨_, rfl⟩
    have q3 : ¬ mn < 1 := by rw [← hmn]; split <;> omega
    have hmin : ∀ S, vMin2 [.int k, .int m] S = .ok (.int mn) S := fun S => by rw [v_min2, hmn]
    have q4 : ¬ (n : Int) < (k : Int) + m := by omega
    have hit : itemsP (ivs (wl k)) = some ((wl k).map iv) := rfl
    simp -dsimp [-v_min2, hmin, g_is_line, q1, q2, q3, q4, g_words hk6, hit]
    refine sn_forPM (f := iv) (I := fun r ρ S' => S' = S ∧ ∃ dn x4 x5, wl k = dn ++ r ∧ dn.all (goodW gs n k m) = true ∧ ρ = [some (netV n gs), some (.int k), some (.int m), some (ivs (dn.map (outW gs n k m))), x4, x5]) ⟨rfl, [], _, _, rfl, rfl, rfl⟩ ?_ ?_
    · intro w r ρ S' hw h1
      obtain ⟨h0, dn, x4, x5, hd, hg, hρ⟩ := h1
      subst h0 hρ
      refine ⟨_, tgt_name, ?_⟩
      obtain ⟨r1, r2⟩ := runW_ok (n := n) (k := k) (by omega) hw
      have q5 : (0 : Int) ≤ (n : Int) - k := by omega
      have q6 : (n : Int) - k ≤ 400 := by omega
      have hz : ∀ S, vRepT (.tup [.int 0]) (.int ((n : Int) - k)) S = .ok (iv (List.replicate (n - k) 0)) S := fun S => by rw [zeros q5 q6, show ((n : Int) - k).toNat = n - k by omega]
      have hw2 : ∀ S, vAdd false (iv w) (iv (List.replicate (n - k) 0)) S = .ok (iv (w ++ List.replicate (n - k) 0)) S := fun S => v_addIv (by have := (wl_at k w hw).1; simp; omega)
      have hrun := fun S => g_run (gs := gs) r1 hn r2 hok S
      have hbr : bOk (runW gs n k w) := runG_bits gs r2
      rw [show runG gs (w ++ List.replicate (n - k) 0) = runW gs n k w from rfl] at hrun
      have hdl : dn.length ≤ 64 := by
        have := congrArg List.length hd
        rw [List.length_append, wl_len] at this
        have := pow_le hk6
        omega
      obtain ⟨bz, hbz⟩ : ∃ b, (((runW gs n k w).drop (k + m)).all fun b => decide (b = 0)) = b := ⟨_, rfl⟩
      have hany : ∀ S, vAnyI [iv ((runW gs n k w).drop (k + m))] S = .ok (.bl (!bz)) S := fun S => by rw [any_drop, hbz]
      simp -dsimp [-v_repT, -v_addIv, hz, hw2, hrun, cut_to, v_neIv, hany, cut_from2]
      have hgw : goodW gs n k m w = (decide ((runW gs n k w).take k = w) && bz) := by rw [← hbz]; rfl
      have hbad : goodW gs n k m w = false → A = false := fun h => by
        cases A with
        | false => rfl
        | true => rw [List.all_eq_true.mp hA w hw] at h; cases h
      have hcut : ∀ S, vCut false (iv (runW gs n k w)) (some (k : Int)) (some ((k : Int) + (m : Int))) S = .ok (iv (outW gs n k m w)) S := fun S => by
        rw [v_cutIv]; rfl
      by_cases g1 : (runW gs n k w).take k = w
      · cases bz with
        | true =>
          have hgt : goodW gs n k m w = true := by rw [hgw]; simp [g1]
          have q7 : (dn.map (outW gs n k m)).length < 16777216 := by rw [List.length_map]; omega
          have e1 : Val.lst ((dn.map (outW gs n k m)).map iv ++ [iv (outW gs n k m w)]) = ivs ((dn ++ [w]).map (outW gs n k m)) := by unfold ivs; simp
          have e2 : ∀ {f : List Val → SRes} {D : En}, Sn (lsP (some (ivs (dn.map (outW gs n k m)))) f) D = Sn (f ((dn.map (outW gs n k m)).map iv)) D := fun {f D} => rfl
          simp -dsimp [-v_cutIv, g1, hcut, e2]
          have q8 : dn.length < 16777216 := by omega
          have q9 : ∀ x ∈ dn ++ [w], goodW gs n k m x = true := fun x hx => by
            rcases List.mem_append.mp hx with hx | hx
            · exact List.all_eq_true.mp hg x hx
            · rw [List.mem_singleton.mp hx]; exact hgt
          exact And.intro q8 (Exists.intro (dn ++ [w]) (And.intro (by rw [hd]; simp) (And.intro q9 (by unfold ivs; simp))))
        | false =>
          have hgf : goodW gs n k m w = false := by rw [hgw]; simp
          simp -dsimp [g1, hbad hgf]
      · have hgf : goodW gs n k m w = false := by rw [hgw]; simp [g1]
        simp -dsimp [g1, hbad hgf]
    · intro ρ S' h1
      obtain ⟨h0, dn, x4, x5, hd, hg, hρ⟩ := h1
      subst h0 hρ
      rw [List.append_nil] at hd
      subst hd
      simp -dsimp
      rw [← hA]; exact hg
  cases e : G_table_ofX [netV n gs, .int k, .int m] S with
  | ok v S1 =>
    rw [e] at this
    obtain ⟨rfl, rfl, rfl⟩ := this
    rfl
  | ex c vs S1 =>
    rw [e] at this
    obtain ⟨rfl, rfl, rfl, rfl⟩ := this
    rfl
  | st => rw [e] at this; exact this.elim
theorem g_law_due (hk : 1 ≤ k) (hk6 : k ≤ 6) (hm : 1 ≤ m) (hm6 : m ≤ 6) (hn : n ≤ 400) (hkm : k + m ≤ n) (hok : ∀ g ∈ gs, (∀ c ∈ g.used, c < n) ∧ g.cs.length ≤ 400) (S : Sto) :
    G__law_due [gvs gs, .int n, .int k, .int m] S = .ok (if (wl k).all (goodW gs n k m) then ivs ((wl k).map (outW gs n k m)) else .str "dirty") S := by
  generalize hA : (wl k).all (goodW gs n k m) = A
  have : Rn (G__law_due [gvs gs, .int n, .int k, .int m] S) (fun v S' => (A = true → v = ivs ((wl k).map (outW gs n k m))) ∧ (A = false → v = .str "dirty") ∧ S' = S) X0 := by
    unfold G__law_due
    rw [rn_runB]
    have q1 : ¬ (k : Int) < 1 := by omega
    have q2 : ¬ (6 : Int) < (k : Int) := by omega
    have q3 : ¬ (m : Int) < 1 := by omega
    have q5 : ¬ (6 : Int) < (m : Int) := by omega
    have q4 : ¬ (n : Int) < (k : Int) + m := by omega
    have hit : itemsP (ivs (wl k)) = some ((wl k).map iv) := rfl
    simp -dsimp [q1, q2, q3, q4, q5, g_law_words hk6, hit]
    refine sn_forPM (f := iv) (I := fun r ρ S' => S' = S ∧ ∃ dn x5 x6, wl k = dn ++ r ∧ dn.all (goodW gs n k m) = true ∧ ρ = [some (gvs gs), some (.int n), some (.int k), some (.int m), some (ivs (dn.map (outW gs n k m))), x5, x6]) ⟨rfl, [], _, _, rfl, rfl, rfl⟩ ?_ ?_
    · intro w r ρ S' hw h1
      obtain ⟨h0, dn, x5, x6, hd, hg, hρ⟩ := h1
      subst h0 hρ
      refine ⟨_, tgt_name, ?_⟩
      obtain ⟨r1, r2⟩ := runW_ok (n := n) (k := k) (by omega) hw
      have q5 : (0 : Int) ≤ (n : Int) - k := by omega
      have q6 : (n : Int) - k ≤ 400 := by omega
      have hz : ∀ S, vRepT (.tup [.int 0]) (.int ((n : Int) - k)) S = .ok (iv (List.replicate (n - k) 0)) S := fun S => by rw [zeros q5 q6, show ((n : Int) - k).toNat = n - k by omega]
      have hw2 : ∀ S, vAdd false (iv w) (iv (List.replicate (n - k) 0)) S = .ok (iv (w ++ List.replicate (n - k) 0)) S := fun S => v_addIv (by have := (wl_at k w hw).1; simp; omega)
      have hrun := fun S => g_law_taken (gs := gs) r2 (by omega) (fun g hg => by rw [r1]; exact hok g hg) S
      have hbr : bOk (runW gs n k w) := runG_bits gs r2
      rw [show runG gs (w ++ List.replicate (n - k) 0) = runW gs n k w from rfl] at hrun
      have hdl : dn.length ≤ 64 := by
        have := congrArg List.length hd
        rw [List.length_append, wl_len] at this
        have := pow_le hk6
        omega
      obtain ⟨bz, hbz⟩ : ∃ b, (((runW gs n k w).drop (k + m)).all fun b => decide (b = 0)) = b := ⟨_, rfl⟩
      have hany : ∀ S, vInW false (.int 1) (iv ((runW gs n k w).drop (k + m))) S = .ok (.bl (!bz)) S := fun S => by rw [in_drop (fun b hb => hbr b (List.mem_of_mem_drop hb)), hbz]
      simp -dsimp [-v_repT, -v_addIv, hz, hw2, hrun, cut_to, v_neIv, hany, cut_from2]
      have hgw : goodW gs n k m w = (decide ((runW gs n k w).take k = w) && bz) := by rw [← hbz]; rfl
      have hbad : goodW gs n k m w = false → A = false := fun h => by
        cases A with
        | false => rfl
        | true => rw [List.all_eq_true.mp hA w hw] at h; cases h
      have hcut : ∀ S, vCut false (iv (runW gs n k w)) (some (k : Int)) (some ((k : Int) + (m : Int))) S = .ok (iv (outW gs n k m w)) S := fun S => by
        rw [v_cutIv]; rfl
      by_cases g1 : (runW gs n k w).take k = w
      · cases bz with
        | true =>
          have hgt : goodW gs n k m w = true := by rw [hgw]; simp [g1]
          have e2 : ∀ {f : List Val → SRes} {D : En}, Sn (lsP (some (ivs (dn.map (outW gs n k m)))) f) D = Sn (f ((dn.map (outW gs n k m)).map iv)) D := fun {f D} => rfl
          simp -dsimp [-v_cutIv, g1, hcut, e2]
          have q8 : dn.length < 16777216 := by omega
          have q9 : ∀ x ∈ dn ++ [w], goodW gs n k m x = true := fun x hx => by
            rcases List.mem_append.mp hx with hx | hx
            · exact List.all_eq_true.mp hg x hx
            · rw [List.mem_singleton.mp hx]; exact hgt
          exact And.intro q8 (Exists.intro (dn ++ [w]) (And.intro (by rw [hd]; simp) (And.intro q9 (by unfold ivs; simp))))
        | false =>
          have hgf : goodW gs n k m w = false := by rw [hgw]; simp
          simp -dsimp [g1, hbad hgf]
      · have hgf : goodW gs n k m w = false := by rw [hgw]; simp [g1]
        simp -dsimp [g1, hbad hgf]
    · intro ρ S' h1
      obtain ⟨h0, dn, x5, x6, hd, hg, hρ⟩ := h1
      subst h0 hρ
      rw [List.append_nil] at hd
      subst hd
      simp -dsimp
      rw [← hA, hg]; simp
  obtain ⟨v, S', e, h1, h2, rfl⟩ := this.get
  rw [e]
  cases A with
  | true => rw [h1 rfl]; rfl
  | false => rw [h2 rfl]; rfl
theorem g_found_tab (hk : 1 ≤ k) (hk6 : k ≤ 6) (hm : 1 ≤ m) (hm6 : m ≤ 6) (hn : n ≤ 400) (hkm : k + m ≤ n) (hok : ∀ g ∈ gs, ∀ c ∈ g.used, c < n) (S : Sto) :
    G__law_found_2 [netV n gs, .int k, .int m] S = .ok (if (wl k).all (goodW gs n k m) then ivs ((wl k).map (outW gs n k m)) else .str "dirty") S := by
  have ht := fun S => g_table_of (gs := gs) hk hk6 hm hm6 hn hkm hok S
  generalize (wl k).all (goodW gs n k m) = A at *
  refine rn_eq ?_
  unfold G__law_found_2
  rw [rn_runB]
  cases A with
  | true =>
    have ht : ∀ S, G_table_ofX [netV n gs, .int k, .int m] S = .ok (ivs ((wl k).map (outW gs n k m))) S := ht
    simp -dsimp [ht]
  | false =>
    have ht : ∀ S, G_table_ofX [netV n gs, .int k, .int m] S = .ex 24 [] S := ht
    have hj : ∀ S, vJoin (.str "") [.lst [.str "", .str "dirty"]] S = .ok (.str "dirty") S := fun S => by
      unfold vJoin
      simp [lstOf, strsOf]
      rw [if_pos (by decide +kernel), show Txt.join (Str.ofString "") [Str.ofString "", Str.ofString "dirty"] = Str.ofString "dirty" by decide +kernel]
    simp -dsimp [ht, List.lookup, hj]
    exact ⟨rfl, by unfold noErr; rfl⟩
theorem g_found_bad {k m : Int} (h : k < 1 ∨ 6 < k ∨ m < 1 ∨ 6 < m ∨ (n : Int) < k + m) (S : Sto) : G__law_found_2 [netV n gs, .int k, .int m] S = .ok (.str "bad") S := by
  have ht : ∀ S, G_table_ofX [netV n gs, .int k, .int m] S = .ex 23 [] S := fun S => by
    refine rn_eqx ?_
    unfold G_table_ofX
    rw [rn_runB]
    obtain ⟨mn, hmn⟩ : ∃ z : Int, (if (m : Int) < k then (m : Int) else k) = z := ⟨_, rfl⟩
    have hmin : ∀ S, vMin2 [.int k, .int m] S = .ok (.int mn) S := fun S => by rw [v_min2, hmn]
    by_cases a1 : 0 ≤ k
    · by_cases a2 : k < 7
      · by_cases a3 : 0 ≤ m
        · by_cases a4 : m < 7
          · by_cases a5 : mn < 1
            · simp -dsimp [-v_min2, hmin, g_is_line, a1, a2, a3, a4, a5]
            · have a6 : (n : Int) < k + m := by
                have : 1 ≤ k ∧ 1 ≤ m := by rw [← hmn] at a5; split at a5 <;> omega
                omega
              simp -dsimp [-v_min2, hmin, g_is_line, a1, a2, a3, a4, a5, a6]
          · simp -dsimp [-v_min2, hmin, g_is_line, a1, a2, a3, a4]
        · simp -dsimp [-v_min2, hmin, g_is_line, a1, a2, a3]
      · simp -dsimp [-v_min2, hmin, g_is_line, a1, a2]
    · simp -dsimp [-v_min2, hmin, g_is_line, a1]
  refine rn_eq ?_
  unfold G__law_found_2
  rw [rn_runB]
  have hj : ∀ S, vJoin (.str "") [.lst [.str "bad", .str ""]] S = .ok (.str "bad") S := fun S => by
    unfold vJoin
    simp [lstOf, strsOf]
    rw [if_pos (by decide +kernel), show Txt.join (Str.ofString "") [Str.ofString "bad", Str.ofString ""] = Str.ofString "bad" by decide +kernel]
  simp -dsimp [ht, List.lookup, hj]
  exact ⟨rfl, by unfold noErr; rfl⟩
theorem g_due_bad {k m : Int} (h : k < 1 ∨ 6 < k ∨ m < 1 ∨ 6 < m ∨ (n : Int) < k + m) (S : Sto) : G__law_due [gvs gs, .int n, .int k, .int m] S = .ok (.str "bad") S := by
  refine rn_eq ?_
  unfold G__law_due
  rw [rn_runB]
  by_cases a1 : k < 1
  · simp -dsimp [a1]
  · by_cases a2 : 6 < k
    · simp -dsimp [a1, a2]
    · by_cases a3 : m < 1
      · simp -dsimp [a1, a2, a3]
      · by_cases a4 : 6 < m
        · simp -dsimp [a1, a2, a3, a4]
        · have a5 : (n : Int) < k + m := by omega
          simp -dsimp [a1, a2, a3, a4, a5]
end
/-! the law -/
def Gt.mn : Gt → Nat | .turn _ a => a | .swap _ a b => min a b
def Gt.mx : Gt → Nat | .turn _ a => a | .swap _ a b => max a b
theorem best_mn {g : Gt} (S : Sto) : vBest min [.tup (g.outs.map nv)] S = .ok (.int g.mn) S := by
  cases g with
  | turn cs a => rfl
  | swap cs a b =>
    show vBest min [.tup ([(a : Int), (b : Int)].map Val.int)] S = _
    rw [v_bestT]
    show Res.ok (Val.int (min (a : Int) (b : Int))) S = .ok (.int ((min a b : Nat) : Int)) S
    congr 2
    omega
theorem best_mx {g : Gt} (S : Sto) : vBest max [.tup (g.outs.map nv)] S = .ok (.int g.mx) S := by
  cases g with
  | turn cs a => rfl
  | swap cs a b =>
    show vBest max [.tup ([(a : Int), (b : Int)].map Val.int)] S = _
    rw [v_bestT]
    show Res.ok (Val.int (max (a : Int) (b : Int))) S = .ok (.int ((max a b : Nat) : Int)) S
    congr 2
    omega
theorem nc_ivs {l : List (List Int)} : nc 60 (ivs l) = true := by unfold ivs; simp
theorem nc_gv {g : Gt} {j : Nat} : nc (j + 2) g.v = true := by
  unfold Gt.v nl
  have h : nc (j + 1) g.w = true := by cases g <;> (show PyData.strOk _ = true; decide +kernel)
  simp [h, nv]
theorem nc_gvs {gs : List Gt} : nc 60 (gvs gs) = true := by
  unfold gvs
  rw [nc_lst, List.all_map]
  refine List.all_eq_true.mpr fun g _ => ?_
  exact nc_gv
theorem law_k51 (ns : List Int) (hns : ns.length ≤ 63) : G_law_21 [.fz (ns.map Val.int)] Z0 = .ok (.bl true) Z0 := by
  refine rn_eq ?_
  unfold G_law_21
  rw [rn_runB]
  obtain ⟨ds, hds, dl, dok⟩ := g_draws2 hns 60 (by decide) Z0
  rw [show ((60 : Nat) : Int) = 60 from rfl] at hds
  have at_ : ∀ i : Nat, i < 60 → ∃ d, atI ds (i : Int) = some d ∧ 0 ≤ d ∧ d < 65537 := fun i hi => by
    obtain ⟨d, h1, h2⟩ := atD (ds := ds) (i := i) (by omega)
    exact ⟨d, h1, dok d h2⟩
  obtain ⟨d50, a50, b50⟩ := at_ 50 (by decide)
  obtain ⟨d51, a51, b51⟩ := at_ 51 (by decide)
  obtain ⟨d52, a52, b52⟩ := at_ 52 (by decide)
  obtain ⟨d53, a53, b53⟩ := at_ 53 (by decide)
  obtain ⟨d54, a54, b54⟩ := at_ 54 (by decide)
  obtain ⟨d55, a55, b55⟩ := at_ 55 (by decide)
  obtain ⟨d56, a56, b56⟩ := at_ 56 (by decide)
  rw [show ((50 : Nat) : Int) = 50 from rfl] at a50
  rw [show ((51 : Nat) : Int) = 51 from rfl] at a51
  rw [show ((52 : Nat) : Int) = 52 from rfl] at a52
  rw [show ((53 : Nat) : Int) = 53 from rfl] at a53
  rw [show ((54 : Nat) : Int) = 54 from rfl] at a54
  rw [show ((55 : Nat) : Int) = 55 from rfl] at a55
  rw [show ((56 : Nat) : Int) = 56 from rfl] at a56
  obtain ⟨n, hn⟩ : ∃ n : Nat, 2 + d50 % 6 = (n : Int) := ⟨(2 + d50 % 6).toNat, by omega⟩
  have hn1 : 2 ≤ n := by omega
  have hn2 : n ≤ 7 := by omega
  obtain ⟨mm, hmm⟩ : ∃ n : Nat, d53 % 9 = (n : Int) := ⟨(d53 % 9).toNat, by omega⟩
  obtain ⟨gs, hgs, gl, gok⟩ := g_law_gates (a := 0) (m := mm) (n := n) dok (by omega) (by omega) (by omega) (by omega) Z0
  rw [show ((0 : Nat) : Int) = 0 from rfl] at hgs
  refine sn_then (fun ρ S => S = Z0 ∧ ρ = [some (.fz (ns.map Val.int)), some (il ds), none, none, none, none, none, none, none]) (by simp -dsimp [hds]) ?_
  rintro _ _ ⟨rfl, rfl⟩
  refine sn_then (fun ρ S => S = Z0 ∧ ρ = [some (.fz (ns.map Val.int)), some (il ds), some (.int n), none, none, none, none, none, none]) (by simp -dsimp [a50, hn]) ?_
  rintro _ _ ⟨rfl, rfl⟩
  refine sn_then (fun ρ S => S = Z0 ∧ ρ = [some (.fz (ns.map Val.int)), some (il ds), some (.int n), some (.int (d51 % 5)), some (.int (d52 % 5)), none, none, none, none]) (by simp -dsimp [a51, a52, Tgt.set, Tgt.sets]) ?_
  rintro _ _ ⟨rfl, rfl⟩
  refine sn_then (fun ρ S => S = Z0 ∧ ρ = [some (.fz (ns.map Val.int)), some (il ds), some (.int n), some (.int (d51 % 5)), some (.int (d52 % 5)), some (gvs gs), none, none, none]) (by simp -dsimp [a53, hmm, hgs]) ?_
  rintro _ _ ⟨rfl, rfl⟩
  refine sn_then (fun ρ S => S = Z0 ∧ ∃ gs2 : List Gt, gs2.length ≤ 100 ∧ (∀ g ∈ gs2, g.ok n ∧ g.cs.length ≤ 3) ∧ ρ = [some (.fz (ns.map Val.int)), some (il ds), some (.int n), some (.int (d51 % 5)), some (.int (d52 % 5)), some (gvs gs2), none, none, none]) ?_ ?_
  · simp -dsimp [a54]
    refine ⟨fun _ => ?_, fun _ => ⟨gs, by omega, fun g hg => gok g hg, rfl⟩⟩
    refine rn_lcF (f := Gt.v) (g := Gt.v) (t := fun g => decide (d51 % 5 ≤ (g.mn : Int)) && decide ((g.mx : Int) < d51 % 5 + d52 % 5)) (xs := gs) (rn_eq (by simp -dsimp)) (by omega) (fun g hg => ⟨_, tgt_name, rn_eq (by
      simp -dsimp [wipeE, cut2, best_mn, best_mx]
      by_cases h : d51 % 5 ≤ (g.mn : Int) <;> simp -dsimp [h] <;> omega), fun _ => rn_eq (by simp -dsimp [wipeE])⟩) ?_
    refine ⟨rfl, gs.filter fun g => decide (d51 % 5 ≤ (g.mn : Int)) && decide ((g.mx : Int) < d51 % 5 + d52 % 5), by have := List.length_filter_le (fun g : Gt => decide (d51 % 5 ≤ (g.mn : Int)) && decide ((g.mx : Int) < d51 % 5 + d52 % 5)) gs; omega, fun g hg => gok g (List.mem_filter.mp hg).1, rfl⟩
  · rintro _ _ ⟨rfl, gs2, gl2, gok2, rfl⟩
    refine sn_then (fun ρ S => S = Z0 ∧ ∃ k m : Int, ρ = [some (.fz (ns.map Val.int)), some (il ds), some (.int n), some (.int k), some (.int m), some (gvs gs2), none, none, none]) ?_ ?_
    · simp -dsimp [a55]
      intro _
      have h5 : d56 % 5 = 0 ∨ d56 % 5 = 1 ∨ d56 % 5 = 2 ∨ d56 % 5 = 3 ∨ d56 % 5 = 4 := by omega
      rcases h5 with h5 | h5 | h5 | h5 | h5 <;> simp -dsimp [a56, h5, Tgt.set, Tgt.sets]
    · rintro _ _ ⟨rfl, k, m, rfl⟩
      have hinit := fun S => g_net_init (n := n) (gs := gs2) (by omega) (by omega) (by omega) (fun g hg => (gok2 g hg).1) S
      have heqg : ∀ S, vEq (gvs gs2) (gvs gs2) S = .ok (.bl true) S := fun S => v_eqR nc_gvs
      by_cases hb : k < 1 ∨ 6 < k ∨ m < 1 ∨ 6 < m ∨ (n : Int) < k + m
      · have h1 := fun S => g_found_bad (gs := gs2) hb S
        have h2 := fun S => g_due_bad (gs := gs2) hb S
        have h3 : ∀ S, vEq (.str "bad") (.str "bad") S = .ok (.bl true) S := fun S => v_eqR (by simp; decide +kernel)
        simp -dsimp [hinit, h1, h2, h3, g_gates, heqg]
      · obtain ⟨k', rfl⟩ : ∃ k' : Nat, k = (k' : Int) := ⟨k.toNat, by omega⟩
        obtain ⟨m', rfl⟩ : ∃ m' : Nat, m = (m' : Int) := ⟨m.toNat, by omega⟩
        have h1 := fun S => g_found_tab (gs := gs2) (n := n) (k := k') (m := m') (by omega) (by omega) (by omega) (by omega) (by omega) (by omega) (fun g hg => (gok2 g hg).1.1) S
        have h2 := fun S => g_law_due (gs := gs2) (n := n) (k := k') (m := m') (by omega) (by omega) (by omega) (by omega) (by omega) (by omega) (fun g hg => ⟨(gok2 g hg).1.1, by have := (gok2 g hg).2; omega⟩) S
        generalize hR : (if (wl k').all (goodW gs2 n k' m') = true then ivs ((wl k').map (outW gs2 n k' m')) else Val.str "dirty") = R at h1 h2
        have h3 : ∀ S, vEq R R S = .ok (.bl true) S := fun S => by
          rw [← hR]
          split
          · exact v_eqR nc_ivs
          · exact v_eqR (by simp; decide +kernel)
        simp -dsimp [hinit, h1, h2, h3, g_gates, heqg]
end BK

namespace K51
open PySem PySem.Spec L2 PM
theorem all_mk {l : PySem.W.OpenLaw} {w : World} {K : PySem.W.Frag} {h : Heap} {mg : Str → Option Value} {fa : Addr} (X : K.In h) (G : h.Ns mainGlobals mg) (hfa : mg "law" = some (.ref fa))
    {a_law_draws a_law_gates ais_line ais_gate aNet___init__ awords aNet__checked ataken aNet_run atable_of a_law_found a_law_words a_law_taken a_law_due aNet_gates alaw c_BackError c_BadNet c_BadBits c_Net c_BadTable c_NotClean : Addr}
    {od__law_draws an__law_draws : Option Addr} {sl__law_draws : Array (Option Value)} {oc__law_draws kV__law_draws dc__law_draws pm__law_draws cd__law_draws ct__law_draws : Value}
    {od__law_gates an__law_gates : Option Addr} {sl__law_gates : Array (Option Value)} {oc__law_gates kV__law_gates dc__law_gates pm__law_gates cd__law_gates ct__law_gates : Value}
    {od_is_line an_is_line : Option Addr} {sl_is_line : Array (Option Value)} {oc_is_line kV_is_line dc_is_line pm_is_line cd_is_line ct_is_line : Value}
    {od_is_gate an_is_gate : Option Addr} {sl_is_gate : Array (Option Value)} {oc_is_gate kV_is_gate dc_is_gate pm_is_gate cd_is_gate ct_is_gate : Value}
    {od_Net___init__ an_Net___init__ : Option Addr} {sl_Net___init__ : Array (Option Value)} {oc_Net___init__ kV_Net___init__ dc_Net___init__ pm_Net___init__ cd_Net___init__ ct_Net___init__ : Value}
    {od_words an_words : Option Addr} {sl_words : Array (Option Value)} {oc_words kV_words dc_words pm_words cd_words ct_words : Value}
    {od_Net__checked an_Net__checked : Option Addr} {sl_Net__checked : Array (Option Value)} {oc_Net__checked kV_Net__checked dc_Net__checked pm_Net__checked cd_Net__checked ct_Net__checked : Value}
    {od_taken an_taken : Option Addr} {sl_taken : Array (Option Value)} {oc_taken kV_taken dc_taken pm_taken cd_taken ct_taken : Value}
    {od_Net_run an_Net_run : Option Addr} {sl_Net_run : Array (Option Value)} {oc_Net_run kV_Net_run dc_Net_run pm_Net_run cd_Net_run ct_Net_run : Value}
    {od_table_of an_table_of : Option Addr} {sl_table_of : Array (Option Value)} {oc_table_of kV_table_of dc_table_of pm_table_of cd_table_of ct_table_of : Value}
    {od__law_found an__law_found : Option Addr} {sl__law_found : Array (Option Value)} {oc__law_found kV__law_found dc__law_found pm__law_found cd__law_found ct__law_found : Value}
    {od__law_words an__law_words : Option Addr} {sl__law_words : Array (Option Value)} {oc__law_words kV__law_words dc__law_words pm__law_words cd__law_words ct__law_words : Value}
    {od__law_taken an__law_taken : Option Addr} {sl__law_taken : Array (Option Value)} {oc__law_taken kV__law_taken dc__law_taken pm__law_taken cd__law_taken ct__law_taken : Value}
    {od__law_due an__law_due : Option Addr} {sl__law_due : Array (Option Value)} {oc__law_due kV__law_due dc__law_due pm__law_due cd__law_due ct__law_due : Value}
    {od_Net_gates an_Net_gates : Option Addr} {sl_Net_gates : Array (Option Value)} {oc_Net_gates kV_Net_gates dc_Net_gates pm_Net_gates cd_Net_gates ct_Net_gates : Value}
    {od_law an_law : Option Addr} {sl_law : Array (Option Value)} {oc_law kV_law dc_law pm_law cd_law ct_law : Value}
    {t_MOST_BITS : Tok}
    {t_MOST_GATES : Tok}
    {t_MOST_LINES : Tok}
    (aC_Net : PySem.W.nsIn K mainGlobals "Net" = some (some (.ref c_Net)))
    (aC_BackError : PySem.W.nsIn K mainGlobals "BackError" = some (some (.ref c_BackError)))
    (aC_BadNet : PySem.W.nsIn K mainGlobals "BadNet" = some (some (.ref c_BadNet)))
    (aC_BadBits : PySem.W.nsIn K mainGlobals "BadBits" = some (some (.ref c_BadBits)))
    (aC_BadTable : PySem.W.nsIn K mainGlobals "BadTable" = some (some (.ref c_BadTable)))
    (aC_NotClean : PySem.W.nsIn K mainGlobals "NotClean" = some (some (.ref c_NotClean)))
    (a__law_draws : PySem.W.nsIn K mainGlobals "_law_draws" = some (some (.ref a_law_draws)))
    (l__law_draws : K.lookup a_law_draws = some ⟨oc__law_draws, od__law_draws, .func (PySem.W.fnOf "_law_draws" "_law_draws" (defArgs s__law_draws) (defBody s__law_draws) (defScope s__law_draws) .none kV__law_draws dc__law_draws pm__law_draws an__law_draws cd__law_draws ct__law_draws), sl__law_draws⟩)
    (c__law_draws : PySem.W.codeIn K cd__law_draws "_law_draws" = true)
    (k__law_draws : PySem.W.keepIn K (.ref a_law_draws) = true)
    (a__law_gates : PySem.W.nsIn K mainGlobals "_law_gates" = some (some (.ref a_law_gates)))
    (l__law_gates : K.lookup a_law_gates = some ⟨oc__law_gates, od__law_gates, .func (PySem.W.fnOf "_law_gates" "_law_gates" (defArgs s__law_gates) (defBody s__law_gates) (defScope s__law_gates) .none kV__law_gates dc__law_gates pm__law_gates an__law_gates cd__law_gates ct__law_gates), sl__law_gates⟩)
    (c__law_gates : PySem.W.codeIn K cd__law_gates "_law_gates" = true)
    (k__law_gates : PySem.W.keepIn K (.ref a_law_gates) = true)
    (a_is_line : PySem.W.nsIn K mainGlobals "is_line" = some (some (.ref ais_line)))
    (l_is_line : K.lookup ais_line = some ⟨oc_is_line, od_is_line, .func (PySem.W.fnOf "is_line" "is_line" (defArgs s_is_line) (defBody s_is_line) (defScope s_is_line) .none kV_is_line dc_is_line pm_is_line an_is_line cd_is_line ct_is_line), sl_is_line⟩)
    (c_is_line : PySem.W.codeIn K cd_is_line "is_line" = true)
    (k_is_line : PySem.W.keepIn K (.ref ais_line) = true)
    (a_is_gate : PySem.W.nsIn K mainGlobals "is_gate" = some (some (.ref ais_gate)))
    (l_is_gate : K.lookup ais_gate = some ⟨oc_is_gate, od_is_gate, .func (PySem.W.fnOf "is_gate" "is_gate" (defArgs s_is_gate) (defBody s_is_gate) (defScope s_is_gate) .none kV_is_gate dc_is_gate pm_is_gate an_is_gate cd_is_gate ct_is_gate), sl_is_gate⟩)
    (c_is_gate : PySem.W.codeIn K cd_is_gate "is_gate" = true)
    (k_is_gate : PySem.W.keepIn K (.ref ais_gate) = true)
    (a_Net___init__ : PySem.W.findIn K (.ref c_Net) "__init__" = some (some (.ref aNet___init__)))
    (i_Net___init__ : PySem.W.isFn K (.ref aNet___init__) = true)
    (l_Net___init__ : K.lookup aNet___init__ = some ⟨oc_Net___init__, od_Net___init__, .func (PySem.W.fnOf "__init__" "Net.__init__" (defArgs s_Net___init__) (defBody s_Net___init__) (defScope s_Net___init__) .none kV_Net___init__ dc_Net___init__ pm_Net___init__ an_Net___init__ cd_Net___init__ ct_Net___init__), sl_Net___init__⟩)
    (c_Net___init__ : PySem.W.codeIn K cd_Net___init__ "Net.__init__" = true)
    (k_Net___init__ : PySem.W.keepIn K (.ref aNet___init__) = true)
    (a_words : PySem.W.nsIn K mainGlobals "words" = some (some (.ref awords)))
    (l_words : K.lookup awords = some ⟨oc_words, od_words, .func (PySem.W.fnOf "words" "words" (defArgs s_words) (defBody s_words) (defScope s_words) .none kV_words dc_words pm_words an_words cd_words ct_words), sl_words⟩)
    (c_words : PySem.W.codeIn K cd_words "words" = true)
    (k_words : PySem.W.keepIn K (.ref awords) = true)
    (a_Net__checked : PySem.W.findIn K (.ref c_Net) "_checked" = some (some (.ref aNet__checked)))
    (i_Net__checked : PySem.W.isFn K (.ref aNet__checked) = true)
    (l_Net__checked : K.lookup aNet__checked = some ⟨oc_Net__checked, od_Net__checked, .func (PySem.W.fnOf "_checked" "Net._checked" (defArgs s_Net__checked) (defBody s_Net__checked) (defScope s_Net__checked) .none kV_Net__checked dc_Net__checked pm_Net__checked an_Net__checked cd_Net__checked ct_Net__checked), sl_Net__checked⟩)
    (c_Net__checked : PySem.W.codeIn K cd_Net__checked "Net._checked" = true)
    (k_Net__checked : PySem.W.keepIn K (.ref aNet__checked) = true)
    (a_taken : PySem.W.nsIn K mainGlobals "taken" = some (some (.ref ataken)))
    (l_taken : K.lookup ataken = some ⟨oc_taken, od_taken, .func (PySem.W.fnOf "taken" "taken" (defArgs s_taken) (defBody s_taken) (defScope s_taken) .none kV_taken dc_taken pm_taken an_taken cd_taken ct_taken), sl_taken⟩)
    (c_taken : PySem.W.codeIn K cd_taken "taken" = true)
    (k_taken : PySem.W.keepIn K (.ref ataken) = true)
    (a_Net_run : PySem.W.findIn K (.ref c_Net) "run" = some (some (.ref aNet_run)))
    (i_Net_run : PySem.W.isFn K (.ref aNet_run) = true)
    (l_Net_run : K.lookup aNet_run = some ⟨oc_Net_run, od_Net_run, .func (PySem.W.fnOf "run" "Net.run" (defArgs s_Net_run) (defBody s_Net_run) (defScope s_Net_run) .none kV_Net_run dc_Net_run pm_Net_run an_Net_run cd_Net_run ct_Net_run), sl_Net_run⟩)
    (c_Net_run : PySem.W.codeIn K cd_Net_run "Net.run" = true)
    (k_Net_run : PySem.W.keepIn K (.ref aNet_run) = true)
    (a_table_of : PySem.W.nsIn K mainGlobals "table_of" = some (some (.ref atable_of)))
    (l_table_of : K.lookup atable_of = some ⟨oc_table_of, od_table_of, .func (PySem.W.fnOf "table_of" "table_of" (defArgs s_table_of) (defBody s_table_of) (defScope s_table_of) .none kV_table_of dc_table_of pm_table_of an_table_of cd_table_of ct_table_of), sl_table_of⟩)
    (c_table_of : PySem.W.codeIn K cd_table_of "table_of" = true)
    (k_table_of : PySem.W.keepIn K (.ref atable_of) = true)
    (a__law_found : PySem.W.nsIn K mainGlobals "_law_found" = some (some (.ref a_law_found)))
    (l__law_found : K.lookup a_law_found = some ⟨oc__law_found, od__law_found, .func (PySem.W.fnOf "_law_found" "_law_found" (defArgs s__law_found) (defBody s__law_found) (defScope s__law_found) .none kV__law_found dc__law_found pm__law_found an__law_found cd__law_found ct__law_found), sl__law_found⟩)
    (c__law_found : PySem.W.codeIn K cd__law_found "_law_found" = true)
    (k__law_found : PySem.W.keepIn K (.ref a_law_found) = true)
    (a__law_words : PySem.W.nsIn K mainGlobals "_law_words" = some (some (.ref a_law_words)))
    (l__law_words : K.lookup a_law_words = some ⟨oc__law_words, od__law_words, .func (PySem.W.fnOf "_law_words" "_law_words" (defArgs s__law_words) (defBody s__law_words) (defScope s__law_words) .none kV__law_words dc__law_words pm__law_words an__law_words cd__law_words ct__law_words), sl__law_words⟩)
    (c__law_words : PySem.W.codeIn K cd__law_words "_law_words" = true)
    (k__law_words : PySem.W.keepIn K (.ref a_law_words) = true)
    (a__law_taken : PySem.W.nsIn K mainGlobals "_law_taken" = some (some (.ref a_law_taken)))
    (l__law_taken : K.lookup a_law_taken = some ⟨oc__law_taken, od__law_taken, .func (PySem.W.fnOf "_law_taken" "_law_taken" (defArgs s__law_taken) (defBody s__law_taken) (defScope s__law_taken) .none kV__law_taken dc__law_taken pm__law_taken an__law_taken cd__law_taken ct__law_taken), sl__law_taken⟩)
    (c__law_taken : PySem.W.codeIn K cd__law_taken "_law_taken" = true)
    (k__law_taken : PySem.W.keepIn K (.ref a_law_taken) = true)
    (a__law_due : PySem.W.nsIn K mainGlobals "_law_due" = some (some (.ref a_law_due)))
    (l__law_due : K.lookup a_law_due = some ⟨oc__law_due, od__law_due, .func (PySem.W.fnOf "_law_due" "_law_due" (defArgs s__law_due) (defBody s__law_due) (defScope s__law_due) .none kV__law_due dc__law_due pm__law_due an__law_due cd__law_due ct__law_due), sl__law_due⟩)
    (c__law_due : PySem.W.codeIn K cd__law_due "_law_due" = true)
    (k__law_due : PySem.W.keepIn K (.ref a_law_due) = true)
    (a_Net_gates : PySem.W.findIn K (.ref c_Net) "gates" = some (some (.ref aNet_gates)))
    (i_Net_gates : PySem.W.isFn K (.ref aNet_gates) = true)
    (l_Net_gates : K.lookup aNet_gates = some ⟨oc_Net_gates, od_Net_gates, .func (PySem.W.fnOf "gates" "Net.gates" (defArgs s_Net_gates) (defBody s_Net_gates) (defScope s_Net_gates) .none kV_Net_gates dc_Net_gates pm_Net_gates an_Net_gates cd_Net_gates ct_Net_gates), sl_Net_gates⟩)
    (c_Net_gates : PySem.W.codeIn K cd_Net_gates "Net.gates" = true)
    (k_Net_gates : PySem.W.keepIn K (.ref aNet_gates) = true)
    (a_law : PySem.W.nsIn K mainGlobals "law" = some (some (.ref alaw)))
    (l_law : K.lookup alaw = some ⟨oc_law, od_law, .func (PySem.W.fnOf "law" "law" (defArgs s_law) (defBody s_law) (defScope s_law) .none kV_law dc_law pm_law an_law cd_law ct_law), sl_law⟩)
    (c_law : PySem.W.codeIn K cd_law "law" = true)
    (k_law : PySem.W.keepIn K (.ref alaw) = true)
    (pg_Net : PySem.W.plainGet K c_Net Str.empty = true)
    (hd_Net : PySem.W.hasDictIn K c_Net = true)
    (po_Net : PySem.W.plainOver K c_Net = true)
    (sa_Net : PySem.W.findIn K (.ref c_Net) "__setattr__" = some (some (.builtin "object.__setattr__")))
    (mk_Net : PySem.W.makesIn K c_Net = true)
    (kc_Net : PySem.W.keepIn K (.ref c_Net) = true)
    (n_Net_0 : PySem.W.findIn K (.ref c_Net) "lines" = some none)
    (n_Net_1 : PySem.W.findIn K (.ref c_Net) "_gates" = some none)
    (q_BackError : PySem.W.excIn K c_BackError [.type "ValueError", .type "Exception", .type "BaseException", .type "object"] "ValueError.__new__" = true)
    (kx_BackError : PySem.W.keepIn K (.ref c_BackError) = true)
    (be_BackError : PySem.W.subIn K (.ref c_BackError) (.type "BaseException") = some true)
    (ty_BackError : PySem.W.typeIn K (.ref c_BackError) = some (.type "type"))
    (q_BadNet : PySem.W.excIn K c_BadNet [.type "ValueError", .type "Exception", .type "BaseException", .type "object"] "ValueError.__new__" = true)
    (kx_BadNet : PySem.W.keepIn K (.ref c_BadNet) = true)
    (be_BadNet : PySem.W.subIn K (.ref c_BadNet) (.type "BaseException") = some true)
    (ty_BadNet : PySem.W.typeIn K (.ref c_BadNet) = some (.type "type"))
    (q_BadBits : PySem.W.excIn K c_BadBits [.type "ValueError", .type "Exception", .type "BaseException", .type "object"] "ValueError.__new__" = true)
    (kx_BadBits : PySem.W.keepIn K (.ref c_BadBits) = true)
    (be_BadBits : PySem.W.subIn K (.ref c_BadBits) (.type "BaseException") = some true)
    (ty_BadBits : PySem.W.typeIn K (.ref c_BadBits) = some (.type "type"))
    (q_BadTable : PySem.W.excIn K c_BadTable [.type "ValueError", .type "Exception", .type "BaseException", .type "object"] "ValueError.__new__" = true)
    (kx_BadTable : PySem.W.keepIn K (.ref c_BadTable) = true)
    (be_BadTable : PySem.W.subIn K (.ref c_BadTable) (.type "BaseException") = some true)
    (ty_BadTable : PySem.W.typeIn K (.ref c_BadTable) = some (.type "type"))
    (q_NotClean : PySem.W.excIn K c_NotClean [.type "ValueError", .type "Exception", .type "BaseException", .type "object"] "ValueError.__new__" = true)
    (kx_NotClean : PySem.W.keepIn K (.ref c_NotClean) = true)
    (be_NotClean : PySem.W.subIn K (.ref c_NotClean) (.type "BaseException") = some true)
    (ty_NotClean : PySem.W.typeIn K (.ref c_NotClean) = some (.type "type"))
    (x_BadTable_BackError : PySem.W.exmOne K (.ref c_BadTable) (.ref c_BackError) = some true)
    (x_NotClean_BackError : PySem.W.exmOne K (.ref c_NotClean) (.ref c_BackError) = some true)
    (ehg_BadTable : PySem.W.findIn K (.ref c_BadTable) "__getattribute__" = some (some (.builtin "BaseException.__getattribute__")))
    (ehk_BadTable : PySem.W.findIn K (.ref c_BadTable) "__getattr__" = some none)
    (ehs_BadTable : PySem.W.subIn K (.ref c_BadTable) (.type "BaseException") = some true)
    (ehd_BadTable : PySem.W.hasDictIn K c_BadTable = true)
    (eha_BadTable : PySem.W.findIn K (.ref c_BadTable) "__class__" = some (some (.builtin "object.__class__")))
    (ehm_BadTable : PySem.W.mroIn K c_BadTable (.type "object") = some true)
    (ehg_NotClean : PySem.W.findIn K (.ref c_NotClean) "__getattribute__" = some (some (.builtin "BaseException.__getattribute__")))
    (ehk_NotClean : PySem.W.findIn K (.ref c_NotClean) "__getattr__" = some none)
    (ehs_NotClean : PySem.W.subIn K (.ref c_NotClean) (.type "BaseException") = some true)
    (ehd_NotClean : PySem.W.hasDictIn K c_NotClean = true)
    (eha_NotClean : PySem.W.findIn K (.ref c_NotClean) "__class__" = some (some (.builtin "object.__class__")))
    (ehm_NotClean : PySem.W.mroIn K c_NotClean (.type "object") = some true)
    (ehn : PySem.W.specialIn K (.builtin "object.__class__") "__get__" = some (some (.builtin "getset_descriptor.__get__")))
    (eht : PySem.W.takesIn K (.builtin "object.__class__") = some true)
    (ki_BadTable_BadTable : PySem.W.kitOne K (.ref c_BadTable) (.ref c_BadTable) = some true)
    (ki_BadTable_NotClean : PySem.W.kitOne K (.ref c_BadTable) (.ref c_NotClean) = some false)
    (ki_NotClean_BadTable : PySem.W.kitOne K (.ref c_NotClean) (.ref c_BadTable) = some false)
    (ki_NotClean_NotClean : PySem.W.kitOne K (.ref c_NotClean) (.ref c_NotClean) = some true)
    (z_abs : PySem.W.nsIn K mainGlobals "abs" = some none)
    (z_all : PySem.W.nsIn K mainGlobals "all" = some none)
    (z_any : PySem.W.nsIn K mainGlobals "any" = some none)
    (z_bool : PySem.W.nsIn K mainGlobals "bool" = some none)
    (z_int : PySem.W.nsIn K mainGlobals "int" = some none)
    (z_isinstance : PySem.W.nsIn K mainGlobals "isinstance" = some none)
    (z_len : PySem.W.nsIn K mainGlobals "len" = some none)
    (z_list : PySem.W.nsIn K mainGlobals "list" = some none)
    (z_max : PySem.W.nsIn K mainGlobals "max" = some none)
    (z_min : PySem.W.nsIn K mainGlobals "min" = some none)
    (z_range : PySem.W.nsIn K mainGlobals "range" = some none)
    (z_sorted : PySem.W.nsIn K mainGlobals "sorted" = some none)
    (z_tuple : PySem.W.nsIn K mainGlobals "tuple" = some none)
    (n_MOST_BITS : PySem.W.nsIn K mainGlobals "MOST_BITS" = some (some (.int 6 t_MOST_BITS)))
    (n_MOST_GATES : PySem.W.nsIn K mainGlobals "MOST_GATES" = some (some (.int 100000 t_MOST_GATES)))
    (n_MOST_LINES : PySem.W.nsIn K mainGlobals "MOST_LINES" = some (some (.int 400 t_MOST_LINES)))
    (hlaw : ∀ ns : List Int, ns.length ≤ 63 → ∃ S', F_law [.fz (ns.map Val.int)] S0 = .ok (.bl true) S') :
    ∃ fd : FuncData, (∀ (s : Shared) (v : Value), BindsTo s fd ⟨[v], []⟩ [("_law_script", v)]) ∧ ∀ base : Heap, K.In base → base.Ns mainGlobals mg → FnOk l.prog w K mg base (L2.CX l.prog w) 6 fa fd ["_law_script"] (spLaw K) := by
  have e := hfa.symm.trans (PySem.W.mg_of X G a_law)
  cases e
  let A : Ad := { _law_draws := a_law_draws, fd__law_draws := PySem.W.fnOf "_law_draws" "_law_draws" (defArgs s__law_draws) (defBody s__law_draws) (defScope s__law_draws) .none kV__law_draws dc__law_draws pm__law_draws an__law_draws cd__law_draws ct__law_draws, _law_gates := a_law_gates, fd__law_gates := PySem.W.fnOf "_law_gates" "_law_gates" (defArgs s__law_gates) (defBody s__law_gates) (defScope s__law_gates) .none kV__law_gates dc__law_gates pm__law_gates an__law_gates cd__law_gates ct__law_gates, is_line := ais_line, fd_is_line := PySem.W.fnOf "is_line" "is_line" (defArgs s_is_line) (defBody s_is_line) (defScope s_is_line) .none kV_is_line dc_is_line pm_is_line an_is_line cd_is_line ct_is_line, is_gate := ais_gate, fd_is_gate := PySem.W.fnOf "is_gate" "is_gate" (defArgs s_is_gate) (defBody s_is_gate) (defScope s_is_gate) .none kV_is_gate dc_is_gate pm_is_gate an_is_gate cd_is_gate ct_is_gate, Net___init__ := aNet___init__, fd_Net___init__ := PySem.W.fnOf "__init__" "Net.__init__" (defArgs s_Net___init__) (defBody s_Net___init__) (defScope s_Net___init__) .none kV_Net___init__ dc_Net___init__ pm_Net___init__ an_Net___init__ cd_Net___init__ ct_Net___init__, words := awords, fd_words := PySem.W.fnOf "words" "words" (defArgs s_words) (defBody s_words) (defScope s_words) .none kV_words dc_words pm_words an_words cd_words ct_words, Net__checked := aNet__checked, fd_Net__checked := PySem.W.fnOf "_checked" "Net._checked" (defArgs s_Net__checked) (defBody s_Net__checked) (defScope s_Net__checked) .none kV_Net__checked dc_Net__checked pm_Net__checked an_Net__checked cd_Net__checked ct_Net__checked, taken := ataken, fd_taken := PySem.W.fnOf "taken" "taken" (defArgs s_taken) (defBody s_taken) (defScope s_taken) .none kV_taken dc_taken pm_taken an_taken cd_taken ct_taken, Net_run := aNet_run, fd_Net_run := PySem.W.fnOf "run" "Net.run" (defArgs s_Net_run) (defBody s_Net_run) (defScope s_Net_run) .none kV_Net_run dc_Net_run pm_Net_run an_Net_run cd_Net_run ct_Net_run, table_of := atable_of, fd_table_of := PySem.W.fnOf "table_of" "table_of" (defArgs s_table_of) (defBody s_table_of) (defScope s_table_of) .none kV_table_of dc_table_of pm_table_of an_table_of cd_table_of ct_table_of, _law_found := a_law_found, fd__law_found := PySem.W.fnOf "_law_found" "_law_found" (defArgs s__law_found) (defBody s__law_found) (defScope s__law_found) .none kV__law_found dc__law_found pm__law_found an__law_found cd__law_found ct__law_found, _law_words := a_law_words, fd__law_words := PySem.W.fnOf "_law_words" "_law_words" (defArgs s__law_words) (defBody s__law_words) (defScope s__law_words) .none kV__law_words dc__law_words pm__law_words an__law_words cd__law_words ct__law_words, _law_taken := a_law_taken, fd__law_taken := PySem.W.fnOf "_law_taken" "_law_taken" (defArgs s__law_taken) (defBody s__law_taken) (defScope s__law_taken) .none kV__law_taken dc__law_taken pm__law_taken an__law_taken cd__law_taken ct__law_taken, _law_due := a_law_due, fd__law_due := PySem.W.fnOf "_law_due" "_law_due" (defArgs s__law_due) (defBody s__law_due) (defScope s__law_due) .none kV__law_due dc__law_due pm__law_due an__law_due cd__law_due ct__law_due, Net_gates := aNet_gates, fd_Net_gates := PySem.W.fnOf "gates" "Net.gates" (defArgs s_Net_gates) (defBody s_Net_gates) (defScope s_Net_gates) .none kV_Net_gates dc_Net_gates pm_Net_gates an_Net_gates cd_Net_gates ct_Net_gates, law := fa, fd_law := PySem.W.fnOf "law" "law" (defArgs s_law) (defBody s_law) (defScope s_law) .none kV_law dc_law pm_law an_law cd_law ct_law, c_BackError := c_BackError, c_BadNet := c_BadNet, c_BadBits := c_BadBits, c_BadTable := c_BadTable, c_NotClean := c_NotClean, c_Net := c_Net }
  have Z : Tx K mg A := {
    F__law_draws := fun_mk (st := s__law_draws) l__law_draws c__law_draws k__law_draws,
    b__law_draws := (fun_mk (st := s__law_draws) l__law_draws c__law_draws k__law_draws).binds (ps := ["_law_script", "_law_many"]) fun _ _ _ _ _ _ us hl => match us, hl with | [_, _], _ => rfl,
    g__law_draws := PySem.W.mg_of X G a__law_draws,
    F__law_gates := fun_mk (st := s__law_gates) l__law_gates c__law_gates k__law_gates,
    b__law_gates := (fun_mk (st := s__law_gates) l__law_gates c__law_gates k__law_gates).binds (ps := ["_law_draws_here", "_law_at", "_law_many", "_law_lines"]) fun _ _ _ _ _ _ us hl => match us, hl with | [_, _, _, _], _ => rfl,
    g__law_gates := PySem.W.mg_of X G a__law_gates,
    F_is_line := fun_mk (st := s_is_line) l_is_line c_is_line k_is_line,
    b_is_line := (fun_mk (st := s_is_line) l_is_line c_is_line k_is_line).binds (ps := ["value", "lines"]) fun _ _ _ _ _ _ us hl => match us, hl with | [_, _], _ => rfl,
    g_is_line := PySem.W.mg_of X G a_is_line,
    F_is_gate := fun_mk (st := s_is_gate) l_is_gate c_is_gate k_is_gate,
    b_is_gate := (fun_mk (st := s_is_gate) l_is_gate c_is_gate k_is_gate).binds (ps := ["gate", "lines"]) fun _ _ _ _ _ _ us hl => match us, hl with | [_, _], _ => rfl,
    g_is_gate := PySem.W.mg_of X G a_is_gate,
    F_Net___init__ := fun_mk (st := s_Net___init__) l_Net___init__ c_Net___init__ k_Net___init__,
    b_Net___init__ := (fun_mk (st := s_Net___init__) l_Net___init__ c_Net___init__ k_Net___init__).binds (ps := ["self", "lines", "gates"]) fun _ _ _ _ _ _ us hl => match us, hl with | [_, _, _], _ => rfl,
    F_words := fun_mk (st := s_words) l_words c_words k_words,
    b_words := (fun_mk (st := s_words) l_words c_words k_words).binds (ps := ["count"]) fun _ _ _ _ _ _ us hl => match us, hl with | [_], _ => rfl,
    g_words := PySem.W.mg_of X G a_words,
    F_Net__checked := fun_mk (st := s_Net__checked) l_Net__checked c_Net__checked k_Net__checked,
    b_Net__checked := (fun_mk (st := s_Net__checked) l_Net__checked c_Net__checked k_Net__checked).binds (ps := ["self", "bits"]) fun _ _ _ _ _ _ us hl => match us, hl with | [_, _], _ => rfl,
    m_Net__checked := ⟨a_Net__checked, i_Net__checked, k_Net__checked⟩,
    F_taken := fun_mk (st := s_taken) l_taken c_taken k_taken,
    b_taken := (fun_mk (st := s_taken) l_taken c_taken k_taken).binds (ps := ["gate", "bits"]) fun _ _ _ _ _ _ us hl => match us, hl with | [_, _], _ => rfl,
    g_taken := PySem.W.mg_of X G a_taken,
    F_Net_run := fun_mk (st := s_Net_run) l_Net_run c_Net_run k_Net_run,
    b_Net_run := (fun_mk (st := s_Net_run) l_Net_run c_Net_run k_Net_run).binds (ps := ["self", "bits"]) fun _ _ _ _ _ _ us hl => match us, hl with | [_, _], _ => rfl,
    m_Net_run := ⟨a_Net_run, i_Net_run, k_Net_run⟩,
    F_table_of := fun_mk (st := s_table_of) l_table_of c_table_of k_table_of,
    b_table_of := (fun_mk (st := s_table_of) l_table_of c_table_of k_table_of).binds (ps := ["net", "k", "m"]) fun _ _ _ _ _ _ us hl => match us, hl with | [_, _, _], _ => rfl,
    g_table_of := PySem.W.mg_of X G a_table_of,
    F__law_found := fun_mk (st := s__law_found) l__law_found c__law_found k__law_found,
    b__law_found := (fun_mk (st := s__law_found) l__law_found c__law_found k__law_found).binds (ps := ["_law_net", "_law_k", "_law_m"]) fun _ _ _ _ _ _ us hl => match us, hl with | [_, _, _], _ => rfl,
    g__law_found := PySem.W.mg_of X G a__law_found,
    F__law_words := fun_mk (st := s__law_words) l__law_words c__law_words k__law_words,
    b__law_words := (fun_mk (st := s__law_words) l__law_words c__law_words k__law_words).binds (ps := ["_law_many"]) fun _ _ _ _ _ _ us hl => match us, hl with | [_], _ => rfl,
    g__law_words := PySem.W.mg_of X G a__law_words,
    F__law_taken := fun_mk (st := s__law_taken) l__law_taken c__law_taken k__law_taken,
    b__law_taken := (fun_mk (st := s__law_taken) l__law_taken c__law_taken k__law_taken).binds (ps := ["_law_gates_here", "_law_bits"]) fun _ _ _ _ _ _ us hl => match us, hl with | [_, _], _ => rfl,
    g__law_taken := PySem.W.mg_of X G a__law_taken,
    F__law_due := fun_mk (st := s__law_due) l__law_due c__law_due k__law_due,
    b__law_due := (fun_mk (st := s__law_due) l__law_due c__law_due k__law_due).binds (ps := ["_law_gates_here", "_law_lines", "_law_k", "_law_m"]) fun _ _ _ _ _ _ us hl => match us, hl with | [_, _, _, _], _ => rfl,
    g__law_due := PySem.W.mg_of X G a__law_due,
    F_Net_gates := fun_mk (st := s_Net_gates) l_Net_gates c_Net_gates k_Net_gates,
    b_Net_gates := (fun_mk (st := s_Net_gates) l_Net_gates c_Net_gates k_Net_gates).binds (ps := ["self"]) fun _ _ _ _ _ _ us hl => match us, hl with | [_], _ => rfl,
    m_Net_gates := ⟨a_Net_gates, i_Net_gates, k_Net_gates⟩,
    F_law := fun_mk (st := s_law) l_law c_law k_law,
    b_law := (fun_mk (st := s_law) l_law c_law k_law).binds (ps := ["_law_script"]) fun _ _ _ _ _ _ us hl => match us, hl with | [_], _ => rfl,
    g_law := PySem.W.mg_of X G a_law,
    O_Net := ⟨rfl, ⟨pg_Net, hd_Net, po_Net, sa_Net⟩, (by show (["lines", "_gates"] : List Str).Nodup; decide +kernel), (all_c n_Net_0 (all_c n_Net_1 all_n)), (by show (["lines", "_gates"] : List Str).length < 1000; decide)⟩,
    g_Net := PySem.W.mg_of X G aC_Net,
    M_Net := ⟨mk_Net, a_Net___init__, i_Net___init__, kc_Net⟩,
    E_BackError := ⟨rfl, rfl, PySem.W.mg_of X G aC_BackError, q_BackError, kx_BackError, be_BackError, ty_BackError⟩,
    E_BadNet := ⟨rfl, rfl, PySem.W.mg_of X G aC_BadNet, q_BadNet, kx_BadNet, be_BadNet, ty_BadNet⟩,
    E_BadBits := ⟨rfl, rfl, PySem.W.mg_of X G aC_BadBits, q_BadBits, kx_BadBits, be_BadBits, ty_BadBits⟩,
    E_BadTable := ⟨rfl, rfl, PySem.W.mg_of X G aC_BadTable, q_BadTable, kx_BadTable, be_BadTable, ty_BadTable⟩,
    E_NotClean := ⟨rfl, rfl, PySem.W.mg_of X G aC_NotClean, q_NotClean, kx_NotClean, be_NotClean, ty_NotClean⟩,
    x_BadTable_BackError := x_BadTable_BackError,
    x_NotClean_BackError := x_NotClean_BackError,
    xc_BadTable := ⟨ehg_BadTable, ehk_BadTable, ehs_BadTable, ehd_BadTable, eha_BadTable, ehn, eht, ehm_BadTable⟩,
    xc_NotClean := ⟨ehg_NotClean, ehk_NotClean, ehs_NotClean, ehd_NotClean, eha_NotClean, ehn, eht, ehm_NotClean⟩,
    ki_BadTable_BadTable := ki_BadTable_BadTable,
    ki_BadTable_NotClean := ki_BadTable_NotClean,
    ki_NotClean_BadTable := ki_NotClean_BadTable,
    ki_NotClean_NotClean := ki_NotClean_NotClean,
    z_abs := PySem.W.mg_none_of X G z_abs,
    z_all := PySem.W.mg_none_of X G z_all,
    z_any := PySem.W.mg_none_of X G z_any,
    z_bool := PySem.W.mg_none_of X G z_bool,
    z_int := PySem.W.mg_none_of X G z_int,
    z_isinstance := PySem.W.mg_none_of X G z_isinstance,
    z_len := PySem.W.mg_none_of X G z_len,
    z_list := PySem.W.mg_none_of X G z_list,
    z_max := PySem.W.mg_none_of X G z_max,
    z_min := PySem.W.mg_none_of X G z_min,
    z_range := PySem.W.mg_none_of X G z_range,
    z_sorted := PySem.W.mg_none_of X G z_sorted,
    z_tuple := PySem.W.mg_none_of X G z_tuple,
    k_MOST_BITS := ⟨t_MOST_BITS, PySem.W.mg_of X G n_MOST_BITS⟩,
    k_MOST_GATES := ⟨t_MOST_GATES, PySem.W.mg_of X G n_MOST_GATES⟩,
    k_MOST_LINES := ⟨t_MOST_LINES, PySem.W.mg_of X G n_MOST_LINES⟩ }
  exact ⟨A.fd_law, fun s v => .of_eq rfl, fun base _ _ => law_end (ok_law (P := l.prog) (w := w) (base := base) Z) hlaw⟩
theorem law_holds (ns : List Int) (h : ns.length ≤ 63) : ∃ S', F_law [.fz (ns.map Val.int)] S0 = .ok (.bl true) S' := PM.lf_law K51.lf_law (BK.law_k51 ns h)
end K51
open PySem PySem.W PyProof.Rows
set_option maxHeartbeats 0 in
theorem PySem.Challenge.cw_backstair_k51_clean_nets_holds : PySem.Challenge.rw_backstair_k51_clean_nets.Holds := by
  w_on; o_law; k_head; (case hw => w_witness2)
  k_fill
  refine L2.walk_of (l := PySem.Challenge.rw_backstair_k51_clean_nets) (n := 63) (k := 6) (x := "_law_script") (CX := fun w => L2.CX PySem.Challenge.rw_backstair_k51_clean_nets.prog w) (sp := fun w => PM.spLaw _) rfl (by decide) rfl ⟨rfl, by decide, by decide⟩ (fun w h Y => PySem.W.kIn_of Y) ?F (fun _ _ a ns hl _ hS => ⟨a, ns, rfl, hS, hl, fun _ => rfl⟩) (fun _ _ _ _ _ h => PM.cx_false h)
  case F =>
    intro w mg fa h KX G hmg
    refine' K51.all_mk KX G hmg ?aC_Net ?aC_BackError ?aC_BadNet ?aC_BadBits ?aC_BadTable ?aC_NotClean ?a__law_draws ?l__law_draws ?c__law_draws ?k__law_draws ?a__law_gates ?l__law_gates ?c__law_gates ?k__law_gates ?a_is_line ?l_is_line ?c_is_line ?k_is_line ?a_is_gate ?l_is_gate ?c_is_gate ?k_is_gate ?a_Net___init__ ?i_Net___init__ ?l_Net___init__ ?c_Net___init__ ?k_Net___init__ ?a_words ?l_words ?c_words ?k_words ?a_Net__checked ?i_Net__checked ?l_Net__checked ?c_Net__checked ?k_Net__checked ?a_taken ?l_taken ?c_taken ?k_taken ?a_Net_run ?i_Net_run ?l_Net_run ?c_Net_run ?k_Net_run ?a_table_of ?l_table_of ?c_table_of ?k_table_of ?a__law_found ?l__law_found ?c__law_found ?k__law_found ?a__law_words ?l__law_words ?c__law_words ?k__law_words ?a__law_taken ?l__law_taken ?c__law_taken ?k__law_taken ?a__law_due ?l__law_due ?c__law_due ?k__law_due ?a_Net_gates ?i_Net_gates ?l_Net_gates ?c_Net_gates ?k_Net_gates ?a_law ?l_law ?c_law ?k_law ?pg_Net ?hd_Net ?po_Net ?sa_Net ?mk_Net ?kc_Net ?n_Net_0 ?n_Net_1 ?q_BackError ?kx_BackError ?be_BackError ?ty_BackError ?q_BadNet ?kx_BadNet ?be_BadNet ?ty_BadNet ?q_BadBits ?kx_BadBits ?be_BadBits ?ty_BadBits ?q_BadTable ?kx_BadTable ?be_BadTable ?ty_BadTable ?q_NotClean ?kx_NotClean ?be_NotClean ?ty_NotClean ?x_BadTable_BackError ?x_NotClean_BackError ?ehg_BadTable ?ehk_BadTable ?ehs_BadTable ?ehd_BadTable ?eha_BadTable ?ehm_BadTable ?ehg_NotClean ?ehk_NotClean ?ehs_NotClean ?ehd_NotClean ?eha_NotClean ?ehm_NotClean ?ehn ?eht ?ki_BadTable_BadTable ?ki_BadTable_NotClean ?ki_NotClean_BadTable ?ki_NotClean_NotClean ?z_abs ?z_all ?z_any ?z_bool ?z_int ?z_isinstance ?z_len ?z_list ?z_max ?z_min ?z_range ?z_sorted ?z_tuple ?n_MOST_BITS ?n_MOST_GATES ?n_MOST_LINES K51.law_holds
    (case aC_Net => k_is)
    (case aC_BackError => k_is)
    (case aC_BadNet => k_is)
    (case aC_BadBits => k_is)
    (case aC_BadTable => k_is)
    (case aC_NotClean => k_is)
    (case a__law_draws => k_is)
    (case l__law_draws => k_is)
    (case c__law_draws => k_is)
    (case k__law_draws => k_is)
    (case a__law_gates => k_is)
    (case l__law_gates => k_is)
    (case c__law_gates => k_is)
    (case k__law_gates => k_is)
    (case a_is_line => k_is)
    (case l_is_line => k_is)
    (case c_is_line => k_is)
    (case k_is_line => k_is)
    (case a_is_gate => k_is)
    (case l_is_gate => k_is)
    (case c_is_gate => k_is)
    (case k_is_gate => k_is)
    (case a_Net___init__ => k_is)
    (case i_Net___init__ => k_is)
    (case l_Net___init__ => k_is)
    (case c_Net___init__ => k_is)
    (case k_Net___init__ => k_is)
    (case a_words => k_is)
    (case l_words => k_is)
    (case c_words => k_is)
    (case k_words => k_is)
    (case a_Net__checked => k_is)
    (case i_Net__checked => k_is)
    (case l_Net__checked => k_is)
    (case c_Net__checked => k_is)
    (case k_Net__checked => k_is)
    (case a_taken => k_is)
    (case l_taken => k_is)
    (case c_taken => k_is)
    (case k_taken => k_is)
    (case a_Net_run => k_is)
    (case i_Net_run => k_is)
    (case l_Net_run => k_is)
    (case c_Net_run => k_is)
    (case k_Net_run => k_is)
    (case a_table_of => k_is)
    (case l_table_of => k_is)
    (case c_table_of => k_is)
    (case k_table_of => k_is)
    (case a__law_found => k_is)
    (case l__law_found => k_is)
    (case c__law_found => k_is)
    (case k__law_found => k_is)
    (case a__law_words => k_is)
    (case l__law_words => k_is)
    (case c__law_words => k_is)
    (case k__law_words => k_is)
    (case a__law_taken => k_is)
    (case l__law_taken => k_is)
    (case c__law_taken => k_is)
    (case k__law_taken => k_is)
    (case a__law_due => k_is)
    (case l__law_due => k_is)
    (case c__law_due => k_is)
    (case k__law_due => k_is)
    (case a_Net_gates => k_is)
    (case i_Net_gates => k_is)
    (case l_Net_gates => k_is)
    (case c_Net_gates => k_is)
    (case k_Net_gates => k_is)
    (case a_law => k_is)
    (case l_law => k_is)
    (case c_law => k_is)
    (case k_law => k_is)
    (case pg_Net => k_is)
    (case hd_Net => k_is)
    (case po_Net => k_is)
    (case sa_Net => k_is)
    (case mk_Net => k_is)
    (case kc_Net => k_is)
    (case n_Net_0 => k_is)
    (case n_Net_1 => k_is)
    (case q_BackError => first | k_is | k_exc)
    (case kx_BackError => k_is)
    (case be_BackError => k_is)
    (case ty_BackError => k_is)
    (case q_BadNet => first | k_is | k_exc)
    (case kx_BadNet => k_is)
    (case be_BadNet => k_is)
    (case ty_BadNet => k_is)
    (case q_BadBits => first | k_is | k_exc)
    (case kx_BadBits => k_is)
    (case be_BadBits => k_is)
    (case ty_BadBits => k_is)
    (case q_BadTable => first | k_is | k_exc)
    (case kx_BadTable => k_is)
    (case be_BadTable => k_is)
    (case ty_BadTable => k_is)
    (case q_NotClean => first | k_is | k_exc)
    (case kx_NotClean => k_is)
    (case be_NotClean => k_is)
    (case ty_NotClean => k_is)
    (case x_BadTable_BackError => kts_exm)
    (case x_NotClean_BackError => kts_exm)
    (case ehg_BadTable => k_is)
    (case ehk_BadTable => k_is)
    (case ehs_BadTable => k_is)
    (case ehd_BadTable => k_is)
    (case eha_BadTable => k_is)
    (case ehm_BadTable => k_is)
    (case ehg_NotClean => k_is)
    (case ehk_NotClean => k_is)
    (case ehs_NotClean => k_is)
    (case ehd_NotClean => k_is)
    (case eha_NotClean => k_is)
    (case ehm_NotClean => k_is)
    (case ehn => k_is)
    (case eht => k_is)
    (case ki_BadTable_BadTable => kit_is)
    (case ki_BadTable_NotClean => kit_is)
    (case ki_NotClean_BadTable => kit_is)
    (case ki_NotClean_NotClean => kit_is)
    (case z_abs => k_is)
    (case z_all => k_is)
    (case z_any => k_is)
    (case z_bool => k_is)
    (case z_int => k_is)
    (case z_isinstance => k_is)
    (case z_len => k_is)
    (case z_list => k_is)
    (case z_max => k_is)
    (case z_min => k_is)
    (case z_range => k_is)
    (case z_sorted => k_is)
    (case z_tuple => k_is)
    (case n_MOST_BITS => k_is)
    (case n_MOST_GATES => k_is)
    (case n_MOST_LINES => k_is)
