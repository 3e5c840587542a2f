import PyProof.Rows.All
import HandS.ForMost
import HandS.ForExc
import HandS.Deep
import HandS.TupAny
import HandS.TupMul
import HandS.IsInst
import HandS.Flow
import HandS.Wide
import KE.DataMinMax
import HandS.Conv
import HandS.Style
import HandS.SortInts
import HandS.DictComp
import HandS.Rev
import HandS.Zip
import HandS.ExcIs
import HandS.WideBits
import HandS.Text
import PyProof.FactsAll.str_0
import PyProof.FactsAll.str_5
import HandS.TupLe
import HandS.Base
import HandS.Call
import HandS.List
import HandS.SortRule
import KE.SortCalls
import KE.SortKeyed
import PySem.Challenge.RW_backstair_k82_runs_that_meet
set_option Elab.async false
set_option linter.all false
set_option maxRecDepth 100000
set_option maxHeartbeats 4000000
/-! PM, part a: values without addresses, the store, how they stand in the heap -/
namespace PM
open PySem PySem.Spec L2

/-- the built-in classes that are asked for -/
inductive Tg where
  | non | bl | int | str | tup | lst | dct | ve
  deriving DecidableEq
def Tg.nm : Tg → String
  | .non => "NoneType" | .bl => "bool" | .int => "int" | .str => "str" | .tup => "tuple" | .lst => "list" | .dct => "dict" | .ve => "ValueError"
/-- a value as data; loc: a mutable object of the store; fz: the frozen list of the script -/
inductive Val where
  | non | bl (b : Bool) | int (i : Int) | str (s : Str) | ty (n : Tg)
  | tup (xs : List Val) | lst (xs : List Val) | fz (xs : List Val)
  | dk (ks : List Key) (vs : List Val) | dt (ks : List (List Key)) (vs : List Val)
  | ins (c : Nat) (vs : List Val) | err (c : Nat) (vs : List Val) | cls (c : Nat)
  | loc (n : Nat)
/-- a mutable object; lk: locked while a loop walks it -/
inductive Ob where
  | lst (xs : List Val)
  | dk (lk : Bool) (ks : List Key) (vs : List Val)
  | dt (lk : Bool) (ks : List (List Key)) (vs : List Val)
  | ins (c : Nat) (vs : List Val)
/-- the classes by number: where they stand, their attributes in the order in which __init__ sets them -/
structure Tbl where
  cl : Nat → Option Addr
  fl : Nat → List Str
  /-- the error that a suite holds: its object, its dict, its class -/
  ex : Option (Addr × Option Addr × Addr) := none
  /-- tuples of the module's top -/
  kc : List (List V) := []
structure Sto where
  next : Nat
  objs : Nat → Option Ob
/-- what is known of the heap: the objects that never change, where the store's objects stand, how many there were -/
structure Wd where
  I : Hp
  m : Nat → Addr
  n : Nat

structure WLe (W W' : Wd) : Prop where
  sub : ∀ a o, W.I a = some o → W'.I a = some o
  le : W.n ≤ W'.n
  eq : ∀ k, k < W.n → W'.m k = W.m k
theorem WLe.refl (W : Wd) : WLe W W := ⟨fun _ _ h => h, Nat.le_refl _, fun _ _ => rfl⟩
theorem WLe.trans {W W1 W2 : Wd} (a : WLe W W1) (b : WLe W1 W2) : WLe W W2 :=
  ⟨fun c o h => b.sub c o (a.sub c o h), Nat.le_trans a.le b.le, fun k h => (b.eq k (Nat.lt_of_lt_of_le h a.le)).trans (a.eq k h)⟩

theorem SqT_mono {K : PySem.W.Frag} {H H' : Hp} {a : Addr} {xs : List V} (s : ∀ a o, H a = some o → H' a = some o) (h : SqT K H a xs) : SqT K H' a xs := by
  rcases h with (h | ⟨o, h⟩) | h
  · exact .inl (.inl (s _ _ h))
  · exact .inl (.inr ⟨o, s _ _ h⟩)
  · exact .inr h

theorem SqL_mono {K : PySem.W.Frag} {H H' : Hp} {a : Addr} {xs : List V} (s : ∀ a o, H a = some o → H' a = some o) (h : SqL K H a xs) : SqL K H' a xs := by
  rcases h with (h | ⟨o, h⟩) | h
  · exact .inl (.inl (s _ _ h))
  · exact .inl (.inr ⟨o, s _ _ h⟩)
  · exact .inr h

/-- a tuple: tracked, or one of the module's top -/
def TQ (K : PySem.W.Frag) (kc : List (List V)) (I : Hp) (a : Addr) (xs : List V) : Prop := I a = some (.tup xs) ∨ (SqT K I a xs ∧ xs ∈ kc)
theorem TQ.sq {K : PySem.W.Frag} {kc : List (List V)} {I : Hp} {a : Addr} {xs : List V} (h : TQ K kc I a xs) : SqT K I a xs := h.elim (fun h => .inl (.inl h)) And.left
theorem TQ_sq {K : PySem.W.Frag} {kc : List (List V)} {H H' : Hp} {a : Addr} {xs : List V} (s : ∀ a o, H a = some o → H' a = some o) (h : TQ K kc H a xs) : SqT K H' a xs := SqT_mono s h.sq
theorem TQ_mono {K : PySem.W.Frag} {kc : List (List V)} {H H' : Hp} {a : Addr} {xs : List V} (s : ∀ a o, H a = some o → H' a = some o) (h : TQ K kc H a xs) : TQ K kc H' a xs := h.elim (fun h => .inl (s _ _ h)) fun h => .inr ⟨SqT_mono s h.1, h.2⟩
section
variable (K : PySem.W.Frag) (T : Tbl)
mutual
inductive VR (W : Wd) : Val → V → Prop
  | non : VR W .non .non
  | bl (b : Bool) : VR W (.bl b) (.bl b)
  | int (i : Int) : VR W (.int i) (.int i)
  | str (x : Str) : VR W (.str x) (.str x)
  | ty (n : Tg) : VR W (.ty n) (.ty n.nm)
  | tup {a : Addr} {vs : List Val} {xs : List V} : TQ K T.kc W.I a xs → VRs W vs xs → VR W (.tup vs) (.ref a)
  | lst {a : Addr} {vs : List Val} {xs : List V} : W.I a = some (.lst xs) → VRs W vs xs → VR W (.lst vs) (.ref a)
  | fz {a : Addr} {vs : List Val} {xs : List V} : SqL K W.I a xs → VRs W vs xs → VR W (.fz vs) (.ref a)
  | dk {a : Addr} {ks : List Key} {vs : List Val} {xs : List V} : ks.length = xs.length → W.I a = some (.dK (ks.zip xs)) → VRs W vs xs → VR W (.dk ks vs) (.ref a)
  | dt {a : Addr} {ks : List (List Key)} {vs : List Val} {xs : List V} : ks.length = xs.length → W.I a = some (.dT (ks.zip xs)) → VRs W vs xs → VR W (.dt ks vs) (.ref a)
  | ins {a C dx : Addr} {c : Nat} {vs : List Val} {xs : List V} : T.cl c = some C → xs.length ≤ (T.fl c).length → W.I a = some (.ins C dx ((T.fl c).zip xs)) → VRs W vs xs → VR W (.ins c vs) (.ref a)
  | loc {k : Nat} : k < W.n → VR W (.loc k) (.ref (W.m k))
  | cls {c : Nat} {C : Addr} : T.cl c = some C → VR W (.cls c) (.ref C)
  | err0 {a C : Addr} {c : Nat} : T.ex = some (a, none, C) → T.cl c = some C → T.fl c = [] → VR W (.err c []) (.ref a)
  | errd {a C d : Addr} {c : Nat} {vs : List Val} {xs : List V} : T.ex = some (a, some d, C) → T.cl c = some C → xs.length ≤ (T.fl c).length → W.I d = some (.xd ((T.fl c).zip xs)) → VRs W vs xs → VR W (.err c vs) (.ref a)
inductive VRs (W : Wd) : List Val → List V → Prop
  | nil : VRs W [] []
  | cons {v : Val} {vs : List Val} {x : V} {xs : List V} : VR W v x → VRs W vs xs → VRs W (v :: vs) (x :: xs)
end
end
section
variable {K : PySem.W.Frag} {T : Tbl} {W W' : Wd}
mutual
theorem VR.mono (l : WLe W W') : ∀ {v : Val} {x : V}, VR K T W v x → VR K T W' v x
  | _, _, .non => .non
  | _, _, .bl b => .bl b
  | _, _, .int b => .int b
  | _, _, .str b => .str b
  | _, _, .ty b => .ty b
  | _, _, .tup h r => .tup (TQ_mono l.sub h) (VRs.mono l r)
  | _, _, .lst h r => .lst (l.sub _ _ h) (VRs.mono l r)
  | _, _, .fz h r => .fz (SqL_mono l.sub h) (VRs.mono l r)
  | _, _, .dk e h r => .dk e (l.sub _ _ h) (VRs.mono l r)
  | _, _, .dt e h r => .dt e (l.sub _ _ h) (VRs.mono l r)
  | _, _, .ins c e h r => .ins c e (l.sub _ _ h) (VRs.mono l r)
  | _, _, .cls h => .cls h
  | _, _, .err0 a b c => .err0 a b c
  | _, _, .errd a b c h r => .errd a b c (l.sub _ _ h) (VRs.mono l r)
  | _, _, .loc (k := k) h => by rw [← l.eq k h]; exact .loc (Nat.lt_of_lt_of_le h l.le)
theorem VRs.mono (l : WLe W W') : ∀ {vs : List Val} {xs : List V}, VRs K T W vs xs → VRs K T W' vs xs
  | _, _, .nil => .nil
  | _, _, .cons a r => .cons (VR.mono l a) (VRs.mono l r)
end
theorem VRs.length : ∀ {vs : List Val} {xs : List V}, VRs K T W vs xs → vs.length = xs.length
  | _, _, .nil => rfl
  | _, _, .cons _ r => congrArg (· + 1) (VRs.length r)
theorem VRs.get : ∀ {vs : List Val} {xs : List V} {i : Nat} {v : Val}, VRs K T W vs xs → vs[i]? = some v → ∃ x, xs[i]? = some x ∧ VR K T W v x
  | _, _, _, _, .nil, e => by simp at e
  | _, _, 0, _, .cons r _, e => by simp at e; subst e; exact ⟨_, rfl, r⟩
  | _, _, i + 1, v, .cons _ t, e => by
    obtain ⟨x, h1, h2⟩ := VRs.get (i := i) (v := v) t (by simpa using e)
    exact ⟨x, by simpa using h1, h2⟩
theorem VRs.get' : ∀ {vs : List Val} {xs : List V} {i : Nat} {x : V}, VRs K T W vs xs → xs[i]? = some x → ∃ v, vs[i]? = some v ∧ VR K T W v x
  | _, _, _, _, .nil, e => by simp at e
  | _, _, 0, _, .cons r _, e => by simp at e; subst e; exact ⟨_, rfl, r⟩
  | _, _, i + 1, v, .cons _ t, e => by
    obtain ⟨x, h1, h2⟩ := VRs.get' (i := i) (x := v) t (by simpa using e)
    exact ⟨x, by simpa using h1, h2⟩
theorem VRs.append : ∀ {vs ws : List Val} {xs ys : List V}, VRs K T W vs xs → VRs K T W ws ys → VRs K T W (vs ++ ws) (xs ++ ys)
  | _, _, _, _, .nil, s => s
  | _, _, _, _, .cons r t, s => .cons r (VRs.append t s)
theorem VRs.take : ∀ {vs : List Val} {xs : List V} (n : Nat), VRs K T W vs xs → VRs K T W (vs.take n) (xs.take n)
  | _, _, 0, _ => .nil
  | _, _, _ + 1, .nil => .nil
  | _, _, n + 1, .cons r t => .cons r (VRs.take n t)
theorem VRs.drop : ∀ {vs : List Val} {xs : List V} (n : Nat), VRs K T W vs xs → VRs K T W (vs.drop n) (xs.drop n)
  | _, _, 0, r => r
  | _, _, _ + 1, .nil => .nil
  | _, _, n + 1, .cons _ t => VRs.drop n t
theorem VRs.set {v : Val} {x : V} (r : VR K T W v x) : ∀ {vs : List Val} {xs : List V} (i : Nat), VRs K T W vs xs → VRs K T W (vs.set i v) (xs.set i x)
  | _, _, _, .nil => .nil
  | _, _, 0, .cons _ t => .cons r t
  | _, _, i + 1, .cons q t => .cons q (VRs.set r i t)
theorem VRs.reverse : ∀ {vs : List Val} {xs : List V}, VRs K T W vs xs → VRs K T W vs.reverse xs.reverse
  | _, _, .nil => .nil
  | _, _, .cons r t => by
    rw [List.reverse_cons, List.reverse_cons]
    exact (VRs.reverse t).append (.cons r .nil)
theorem VRs.eraseIdx : ∀ {vs : List Val} {xs : List V} (i : Nat), VRs K T W vs xs → VRs K T W (vs.eraseIdx i) (xs.eraseIdx i)
  | _, _, _, .nil => .nil
  | _, _, 0, .cons _ t => t
  | _, _, i + 1, .cons q t => .cons q (VRs.eraseIdx i t)
theorem VRs.ints : ∀ {ns : List Int} {xs : List V}, VRs K T W (ns.map Val.int) xs → xs = ns.map V.int
  | [], _, .nil => rfl
  | n :: ns, _, .cons a r => by cases a; rw [VRs.ints r]; rfl
theorem VRs.ofInts : ∀ (ns : List Int), VRs K T W (ns.map Val.int) (ns.map V.int)
  | [] => .nil
  | _ :: ns => .cons (.int _) (VRs.ofInts ns)

/-- locked by a loop -/
def lkd : Ob → Bool
  | .dk lk _ _ => lk
  | .dt lk _ _ => lk
  | _ => false
/-- how a store's object stands at a -/
def OR (K : PySem.W.Frag) (T : Tbl) (W : Wd) (H : Hp) (a : Addr) : Ob → Prop
  | .lst vs => ∃ xs, H a = some (.lst xs) ∧ VRs K T W vs xs
  | .dk lk ks vs => ∃ xs, ks.length = xs.length ∧ (if lk then ∃ o, W.I a = some (.frz o (.dK (ks.zip xs))) ∧ H a = some (.frz o (.dK (ks.zip xs))) else H a = some (.dK (ks.zip xs))) ∧ VRs K T W vs xs
  | .dt lk ks vs => ∃ xs, ks.length = xs.length ∧ (if lk then ∃ o, W.I a = some (.frz o (.dT (ks.zip xs))) ∧ H a = some (.frz o (.dT (ks.zip xs))) else H a = some (.dT (ks.zip xs))) ∧ VRs K T W vs xs
  | .ins c vs => ∃ C dx xs, T.cl c = some C ∧ xs.length ≤ (T.fl c).length ∧ H a = some (.ins C dx ((T.fl c).zip xs)) ∧ VRs K T W vs xs
theorem OR.some {H : Hp} {a : Addr} : ∀ {o : Ob}, OR K T W H a o → ∃ u, H a = some u
  | .lst _, h => let ⟨_, h, _⟩ := h; ⟨_, h⟩
  | .dk true _ _, h => by obtain ⟨_, _, h, _⟩ := h; rw [if_pos rfl] at h; obtain ⟨o, _, h⟩ := h; exact ⟨_, h⟩
  | .dk false _ _, h => by obtain ⟨_, _, h, _⟩ := h; rw [if_neg Bool.false_ne_true] at h; exact ⟨_, h⟩
  | .dt true _ _, h => by obtain ⟨_, _, h, _⟩ := h; rw [if_pos rfl] at h; obtain ⟨o, _, h⟩ := h; exact ⟨_, h⟩
  | .dt false _ _, h => by obtain ⟨_, _, h, _⟩ := h; rw [if_neg Bool.false_ne_true] at h; exact ⟨_, h⟩
  | .ins _ _, h => let ⟨_, _, _, _, _, h, _⟩ := h; ⟨_, h⟩
theorem OR.mono (l : WLe W W') {H H' : Hp} {a : Addr} (e : H' a = H a) : ∀ {o : Ob}, OR K T W H a o → OR K T W' H' a o
  | .lst _, ⟨xs, h, r⟩ => ⟨xs, e.trans h, r.mono l⟩
  | .dk true _ _, ⟨xs, z, h, r⟩ => ⟨xs, z, by rw [if_pos rfl] at h ⊢; obtain ⟨o, h1, h2⟩ := h; exact ⟨o, l.sub _ _ h1, e.trans h2⟩, r.mono l⟩
  | .dk false _ _, ⟨xs, z, h, r⟩ => ⟨xs, z, by rw [if_neg Bool.false_ne_true] at h ⊢; exact e.trans h, r.mono l⟩
  | .dt true _ _, ⟨xs, z, h, r⟩ => ⟨xs, z, by rw [if_pos rfl] at h ⊢; obtain ⟨o, h1, h2⟩ := h; exact ⟨o, l.sub _ _ h1, e.trans h2⟩, r.mono l⟩
  | .dt false _ _, ⟨xs, z, h, r⟩ => ⟨xs, z, by rw [if_neg Bool.false_ne_true] at h ⊢; exact e.trans h, r.mono l⟩
  | .ins _ _, ⟨C, dx, xs, c, z, h, r⟩ => ⟨C, dx, xs, c, z, e.trans h, r.mono l⟩

structure SR (K : PySem.W.Frag) (T : Tbl) (W : Wd) (S : Sto) (H : Hp) : Prop where
  nx : W.n = S.next
  sub : ∀ a o, W.I a = some o → H a = some o
  lt : ∀ k o, S.objs k = some o → k < S.next
  out : ∀ k o, S.objs k = some o → lkd o = false → W.I (W.m k) = none
  at_ : ∀ k o, S.objs k = some o → OR K T W H (W.m k) o
  inj : ∀ j k a b, S.objs j = some a → S.objs k = some b → W.m j = W.m k → j = k

def Sto.put (S : Sto) (k : Nat) (o : Ob) : Sto := ⟨S.next, fun j => if j = k then some o else S.objs j⟩
def Sto.drop (S : Sto) (k : Nat) : Sto := ⟨S.next, fun j => if j = k then none else S.objs j⟩
def Sto.alloc (S : Sto) (o : Ob) : Sto := ⟨S.next + 1, fun j => if j = S.next then some o else S.objs j⟩
def Wd.add (W : Wd) (p : Addr) (o : HO) : Wd := ⟨upd W.I p o, W.m, W.n⟩
def Wd.box (W : Wd) (p : Addr) : Wd := ⟨W.I, fun j => if j = W.n then p else W.m j, W.n + 1⟩

variable {S : Sto} {H : Hp} {p : Addr} {o : HO}
theorem SR.free (s : SR K T W S H) (hp : H p = none) : W.I p = none := by
  cases e : W.I p with
  | none => rfl
  | some u => rw [s.sub p u e] at hp; cases hp
theorem SR.ne (s : SR K T W S H) (hp : H p = none) {k : Nat} {b : Ob} (h : S.objs k = some b) : W.m k ≠ p := by
  intro e
  obtain ⟨u, hu⟩ := (s.at_ k b h).some
  rw [e, hp] at hu; cases hu
theorem WLe.add (hp : W.I p = none) : WLe W (W.add p o) :=
  ⟨fun a u h => by show upd W.I p o a = some u; rw [upd_ne (ne_of_none h hp)]; exact h, Nat.le_refl _, fun _ _ => rfl⟩
/-- a new object that will never change -/
theorem SR.add (s : SR K T W S H) (hp : H p = none) : SR K T (W.add p o) S (upd H p o) := by
  have l : WLe W (W.add p o) := .add (s.free hp)
  refine ⟨s.nx, fun a u h => ?_, s.lt, fun k b h hu => ?_, fun k b h => ?_, s.inj⟩
  · by_cases e : a = p
    · subst e
      have h' : upd W.I a o a = some u := h
      rw [upd_same] at h'; rw [upd_same]; exact h'
    · have h' : upd W.I p o a = some u := h
      rw [upd_ne e] at h'; rw [upd_ne e]; exact s.sub a u h'
  · show upd W.I p o (W.m k) = none
    rw [upd_ne (s.ne hp h)]; exact s.out k b h hu
  · exact (s.at_ k b h).mono l (upd_ne (s.ne hp h))
/-- a new object beside what is known (nothing is said of it) -/
theorem SR.beside (s : SR K T W S H) (hp : H p = none) : SR K T W S (upd H p o) := by
  refine ⟨s.nx, fun a u h => ?_, s.lt, s.out, fun k b h => (s.at_ k b h).mono (.refl _) (upd_ne (s.ne hp h)), s.inj⟩
  rw [upd_ne (ne_of_none (s.sub a u h) hp)]; exact s.sub a u h
theorem WLe.box : WLe W (W.box p) := ⟨fun _ _ h => h, Nat.le_succ _, fun k h => if_neg (Nat.ne_of_lt h)⟩
theorem Wd.box_at : (W.box p).m W.n = p := if_pos rfl
/-- a new object of the store -/
theorem SR.box {b : Ob} (s : SR K T W S H) (hp : H p = none) (h : OR K T (W.box p) (upd H p o) p b) : SR K T (W.box p) (S.alloc b) (upd H p o) := by
  have lt : ∀ {k : Nat} {b' : Ob}, S.objs k = some b' → k ≠ W.n := fun {k b'} e z => by
    have := s.lt k b' e
    rw [← s.nx] at this
    omega
  have old : ∀ {k : Nat} {b' : Ob}, k ≠ W.n → (S.alloc b).objs k = some b' → S.objs k = some b' := fun {k b'} hk e => by
    have e' : (if k = S.next then some b else S.objs k) = some b' := e
    rw [if_neg (by rw [← s.nx]; exact hk)] at e'
    exact e'
  have new : ∀ {b' : Ob}, (S.alloc b).objs W.n = some b' → b = b' := fun {b'} e => by
    have e' : (if W.n = S.next then some b else S.objs W.n) = some b' := e
    rw [if_pos s.nx] at e'
    exact Option.some.inj e'
  have mo : ∀ {k : Nat}, k ≠ W.n → (W.box p).m k = W.m k := fun {k} hk => if_neg hk
  refine ⟨by show W.n + 1 = S.next + 1; rw [s.nx], fun a u q => ?_, fun k b' e => ?_, fun k b' e hu => ?_, fun k b' e => ?_, fun j k a b' e1 e2 e3 => ?_⟩
  · rw [upd_ne (ne_of_none (s.sub a u q) hp)]; exact s.sub a u q
  · by_cases hk : k = W.n
    · rw [hk, s.nx]; exact Nat.lt_succ_self _
    · exact Nat.lt_succ_of_lt (s.lt k b' (old hk e))
  · by_cases hk : k = W.n
    · rw [hk, Wd.box_at]; exact s.free hp
    · rw [mo hk]; exact s.out k b' (old hk e) hu
  · by_cases hk : k = W.n
    · subst hk
      rw [Wd.box_at, ← new e]; exact h
    · rw [mo hk]
      exact (s.at_ k b' (old hk e)).mono .box (upd_ne (s.ne hp (old hk e)))
  · by_cases hj : j = W.n
    · by_cases hk : k = W.n
      · rw [hj, hk]
      · rw [hj, Wd.box_at, mo hk] at e3
        exact absurd e3.symm (s.ne hp (old hk e2))
    · by_cases hk : k = W.n
      · rw [hk, Wd.box_at, mo hj] at e3
        exact absurd e3 (s.ne hp (old hj e1))
      · rw [mo hj, mo hk] at e3
        exact s.inj j k a b' (old hj e1) (old hk e2) e3
/-- a store's object is changed -/
theorem SR.put {k : Nat} {b b' : Ob} (s : SR K T W S H) (e : S.objs k = some b) (h : OR K T W (upd H (W.m k) o) (W.m k) b') (hu : lkd b = false := by rfl) : SR K T W (S.put k b') (upd H (W.m k) o) := by
  have old : ∀ {j : Nat} {c : Ob}, j ≠ k → (S.put k b').objs j = some c → S.objs j = some c := fun {j c} hj q => by
    have q' : (if j = k then some b' else S.objs j) = some c := q
    rw [if_neg hj] at q'; exact q'
  have ex : ∀ {j : Nat} {c : Ob}, (S.put k b').objs j = some c → ∃ c', S.objs j = some c' := fun {j c} q => by
    by_cases hj : j = k
    · rw [hj]; exact ⟨_, e⟩
    · exact ⟨_, old hj q⟩
  refine ⟨s.nx, fun a u q => ?_, fun j c q => let ⟨c', q'⟩ := ex q; s.lt j c' q', fun j c q hc => if hj : j = k then by rw [hj]; exact s.out k b e hu else s.out j c (old hj q) hc, fun j c q => ?_, fun i j c d q1 q2 q3 => ?_⟩
  · have ne : a ≠ W.m k := fun z => by rw [z, s.out k b e hu] at q; cases q
    rw [upd_ne ne]; exact s.sub a u q
  · by_cases hj : j = k
    · subst hj
      have q' : (if j = j then some b' else S.objs j) = some c := q
      rw [if_pos rfl] at q'
      cases q'
      exact h
    · refine (s.at_ j c (old hj q)).mono (.refl _) (upd_ne fun z => hj (s.inj j k c b (old hj q) e z))
  · obtain ⟨c1, r1⟩ := ex q1
    obtain ⟨c2, r2⟩ := ex q2
    exact s.inj i j c1 c2 r1 r2 q3
/-- a store's object is given up: it never changes from now on -/
theorem SR.frz {k : Nat} {b : Ob} (s : SR K T W S H) (e : S.objs k = some b) (h : H (W.m k) = some o) (hu : lkd b = false := by rfl) : SR K T (W.add (W.m k) o) (S.drop k) H := by
  have old : ∀ {j : Nat} {c : Ob}, (S.drop k).objs j = some c → j ≠ k ∧ S.objs j = some c := fun {j c} q => by
    have q' : (if j = k then none else S.objs j) = some c := q
    by_cases hj : j = k
    · rw [if_pos hj] at q'; cases q'
    · rw [if_neg hj] at q'; exact ⟨hj, q'⟩
  have l : WLe W (W.add (W.m k) o) := .add (s.out k b e hu)
  refine ⟨s.nx, fun a u q => ?_, fun j c q => s.lt j c (old q).2, fun j c q hc => ?_, fun j c q => (s.at_ j c (old q).2).mono l rfl, fun i j c d q1 q2 q3 => s.inj i j c d (old q1).2 (old q2).2 q3⟩
  · have q' : upd W.I (W.m k) o a = some u := q
    by_cases ha : a = W.m k
    · rw [ha, upd_same] at q'; rw [ha, h]; exact q'
    · rw [upd_ne ha] at q'; exact s.sub a u q'
  · show upd W.I (W.m k) o (W.m j) = none
    rw [upd_ne fun z => (old q).1 (s.inj j k c b (old q).2 e z)]
    exact s.out j c (old q).2 hc

/-! ### the frame's names -/
abbrev Ev := List (Option Val)
structure ER (K : PySem.W.Frag) (T : Tbl) (W : Wd) (ρ : Ev) (σ : St) : Prop where
  len : ρ.length = σ.length
  get : ∀ (i : Nat) (v : Val), ρ[i]? = some (some v) → ∃ x : V, σ[i]? = some (some x) ∧ VR K T W v x
theorem ER.mono {ρ : Ev} {σ : St} (l : WLe W W') (e : ER K T W ρ σ) : ER K T W' ρ σ := ⟨e.len, fun i v h => let ⟨x, a, b⟩ := e.get i v h; ⟨x, a, b.mono l⟩⟩
theorem ER.set {ρ : Ev} {σ : St} {i : Nat} {v : Val} {x : V} (e : ER K T W ρ σ) (r : VR K T W v x) : ER K T W (ρ.set i (some v)) (σ.set i (some x)) := by
  refine ⟨by rw [List.length_set, List.length_set]; exact e.len, fun j u h => ?_⟩
  by_cases hj : i = j
  · subst hj
    by_cases hl : i < ρ.length
    · rw [List.getElem?_set_self hl] at h
      cases h
      exact ⟨x, List.getElem?_set_self (by rw [← e.len]; exact hl), r⟩
    · rw [List.getElem?_eq_none (by simpa using hl)] at h; cases h
  · rw [List.getElem?_set_ne hj] at h
    obtain ⟨y, a, b⟩ := e.get j u h
    exact ⟨y, by rw [List.getElem?_set_ne hj]; exact a, b⟩
/-- forgetting a name -/
theorem ER.forget {ρ : Ev} {σ : St} {i : Nat} {x : Option V} (e : ER K T W ρ σ) : ER K T W (ρ.set i none) (σ.set i x) := by
  refine ⟨by rw [List.length_set, List.length_set]; exact e.len, fun j u h => ?_⟩
  by_cases hj : i = j
  · subst hj
    by_cases hl : i < ρ.length
    · rw [List.getElem?_set_self hl] at h; cases h
    · rw [List.getElem?_eq_none (by simpa using hl)] at h; cases h
  · rw [List.getElem?_set_ne hj] at h
    obtain ⟨y, a, b⟩ := e.get j u h
    exact ⟨y, by rw [List.getElem?_set_ne hj]; exact a, b⟩
def wipeE (ρ : Ev) : List Nat → Ev
  | [] => ρ
  | v :: vs => (wipeE ρ vs).set v none
theorem ER.wipe {ρ : Ev} {σ : St} (e : ER K T W ρ σ) : ∀ vs, ER K T W (wipeE ρ vs) (L2.wipe σ vs)
  | [] => e
  | _ :: vs => (ER.wipe e vs).forget
theorem ER.start : ∀ {N : List Str} {vs : List Val} {xs : List V}, VRs K T W vs xs → ER K T W (vs.map Option.some ++ List.replicate (N.length - vs.length) none) (L2.start N xs) := fun {N vs xs} r => by
  unfold L2.start
  refine ⟨by simp [r.length], fun i v h => ?_⟩
  by_cases hi : i < vs.length
  · rw [List.getElem?_append_left (by simpa using hi), List.getElem?_map] at h
    cases q : vs[i]? with
    | none => rw [q] at h; cases h
    | some u =>
      rw [q] at h
      cases h
      obtain ⟨x, a, b⟩ := r.get q
      refine ⟨x, ?_, b⟩
      rw [List.getElem?_append_left (by simpa [← r.length] using hi), List.getElem?_map, a]
      rfl
  · rw [List.getElem?_append_right (by simpa using hi), List.getElem?_replicate] at h
    split at h <;> cases h
end
end PM

/-! PM, part b: readings by data, the core -/
namespace PM
open PySem PySem.Spec L2

inductive Res (α : Type) where
  | ok (a : α) (S : Sto) | ex (c : Nat) (vs : List Val) (S : Sto) | st
def Res.bind {α β : Type} (r : Res α) (g : α → Sto → Res β) : Res β := match r with
  | .ok a S => g a S
  | .ex c vs S => .ex c vs S
  | .st => .st
def noEx {α : Type} : Res α → Res α
  | .ok a S => .ok a S
  | _ => .st
inductive SRes where
  | nx (ρ : Ev) (S : Sto) | rt (v : Val) (S : Sto) | bk (ρ : Ev) (S : Sto) | ct (ρ : Ev) (S : Sto)
  | ex (c : Nat) (vs : List Val) (ρ : Ev) (S : Sto) | st
abbrev EM := Ev → Sto → Res Val
abbrev BM := Ev → Sto → Res Bool
abbrev AM := Ev → Sto → Res (List Val)
abbrev SM := Ev → Sto → SRes
abbrev FM := List Val → Sto → Res Val

section
variable {K : PySem.W.Frag} {T : Tbl}
/-- an exception's class and own dict -/
def XR (K : PySem.W.Frag) (T : Tbl) (W : Wd) (c : Nat) (vs : List Val) (cls : Value) (od : Option Addr) : Prop :=
  ∃ C, T.cl c = some C ∧ cls = .ref C ∧ ((T.fl c = [] ∧ vs = [] ∧ od = none) ∨ (T.fl c ≠ [] ∧ ∃ a xs, od = some a ∧ xs.length ≤ (T.fl c).length ∧ W.I a = some (.xd ((T.fl c).zip xs)) ∧ VRs K T W vs xs))
def RP (K : PySem.W.Frag) (T : Tbl) {α : Type} (W : Wd) (r : Res α) (P : Wd → Sto → Hp → α → Prop) (PX : Hp → Value → Option Addr → Prop) : Prop := match r with
  | .ok a S' => ∀ W' H', WLe W W' → SR K T W' S' H' → P W' S' H' a
  | .ex c vs S' => ∀ W' H' cls od, WLe W W' → SR K T W' S' H' → XR K T W' c vs cls od → PX H' cls od
  | .st => False
variable {α β : Type} {W : Wd} {P P' : Wd → Sto → Hp → α → Prop} {PX PX' : Hp → Value → Option Addr → Prop}
theorem RP.wle {W' : Wd} {r : Res α} (l : WLe W W') (h : RP K T W r P PX) : RP K T W' r P PX := by
  cases r with
  | ok a S => exact fun W2 H2 l2 s => h W2 H2 (l.trans l2) s
  | ex c vs S => exact fun W2 H2 cls od l2 s => h W2 H2 cls od (l.trans l2) s
  | st => exact h
theorem RP.imp {r : Res α} (h : RP K T W r P PX) (i : ∀ W' S' H' a, WLe W W' → SR K T W' S' H' → P W' S' H' a → P' W' S' H' a) (j : ∀ H' c o, PX H' c o → PX' H' c o) : RP K T W r P' PX' := by
  cases r with
  | ok a S => exact fun W2 H2 l s => i W2 S H2 a l s (h W2 H2 l s)
  | ex c vs S => exact fun W2 H2 cls od l s x => j _ _ _ (h W2 H2 cls od l s x)
  | st => exact h
theorem RP.bind {r : Res α} {g : α → Sto → Res β} {P : Wd → Sto → Hp → β → Prop} {P' : Wd → Sto → Hp → α → Prop} (h : RP K T W (r.bind g) P PX)
    (i : ∀ W' S' H' a, WLe W W' → SR K T W' S' H' → RP K T W' (g a S') P PX → P' W' S' H' a) : RP K T W r P' PX := by
  cases r with
  | ok a S => exact fun W2 H2 l s => i W2 S H2 a l s (RP.wle l h)
  | ex c vs S => exact h
  | st => exact h
theorem RP.noEx {r : Res α} (h : RP K T W (PM.noEx r) P PX) : RP K T W r P PX' := by
  cases r with
  | ok a S => exact h
  | ex c vs S => exact False.elim h
  | st => exact h
theorem RP.now {a : α} {S : Sto} {H : Hp} (h : RP K T W (.ok a S) P PX) (s : SR K T W S H) : P W S H a := h W H (.refl W) s
end

abbrev VP (K : PySem.W.Frag) (T : Tbl) (Q : VK) : Wd → Sto → Hp → Val → Prop := fun W' _ H' v => ∀ x, VR K T W' v x → Q x H'
/-- the wish of an exception, by the slots -/
abbrev XW := Value → Option Addr → L2.St → Hp → Prop
def XW0 : XW := fun _ _ _ _ => False
def rdE (K : PySem.W.Frag) (T : Tbl) (Ew : XW) (f : EM) : TE := fun σ H Q => ∃ W ρ S, SR K T W S H ∧ ER K T W ρ σ ∧ RP K T W (f ρ S) (VP K T Q) (fun H' c o => Ew c o σ H')
def rdT (K : PySem.W.Frag) (T : Tbl) (Ew : XW) (f : BM) : TT := fun σ H Q => ∃ W ρ S, SR K T W S H ∧ ER K T W ρ σ ∧ RP K T W (f ρ S) (fun _ _ H' b => Q b H') (fun H' c o => Ew c o σ H')
def rdA (K : PySem.W.Frag) (T : Tbl) (Ew : XW) (f : AM) : TA := fun σ H Q => ∃ W ρ S, SR K T W S H ∧ ER K T W ρ σ ∧ RP K T W (f ρ S) (fun W' _ H' vs => ∀ xs, VRs K T W' vs xs → Q xs H') (fun H' c o => Ew c o σ H')
/-- behind a statement -/
def SPo (K : PySem.W.Frag) (T : Tbl) (Ew : XW) (W : Wd) (D : Ends) : SRes → Prop
  | .nx ρ' S' => ∀ W' H' σ', WLe W W' → SR K T W' S' H' → ER K T W' ρ' σ' → D.nx σ' H'
  | .rt v S' => ∀ W' H' x, WLe W W' → SR K T W' S' H' → VR K T W' v x → D.rt x H'
  | .bk ρ' S' => ∀ W' H' σ', WLe W W' → SR K T W' S' H' → ER K T W' ρ' σ' → D.bk σ' H'
  | .ct ρ' S' => ∀ W' H' σ', WLe W W' → SR K T W' S' H' → ER K T W' ρ' σ' → D.ct σ' H'
  | .ex c vs ρ' S' => ∀ W' H' σ' cls od, WLe W W' → SR K T W' S' H' → ER K T W' ρ' σ' → XR K T W' c vs cls od → Ew cls od σ' H'
  | .st => False
def rdS (K : PySem.W.Frag) (T : Tbl) (Ew : XW) (s : SM) : TS := fun D σ H => ∃ W ρ S, SR K T W S H ∧ ER K T W ρ σ ∧ SPo K T Ew W D (s ρ S)
theorem SPo.wle {K : PySem.W.Frag} {T : Tbl} {Ew : XW} {W W' : Wd} {D : Ends} {r : SRes} (l : WLe W W') (h : SPo K T Ew W D r) : SPo K T Ew W' D r := by
  cases r with
  | nx ρ S => exact fun W2 H2 σ l2 => h W2 H2 σ (l.trans l2)
  | rt ρ S => exact fun W2 H2 σ l2 => h W2 H2 σ (l.trans l2)
  | bk ρ S => exact fun W2 H2 σ l2 => h W2 H2 σ (l.trans l2)
  | ct ρ S => exact fun W2 H2 σ l2 => h W2 H2 σ (l.trans l2)
  | ex c vs ρ S => exact fun W2 H2 σ cls od l2 => h W2 H2 σ cls od (l.trans l2)
  | st => exact h

/-! ### the judgements over data -/
abbrev PEm (T : Tbl) (X : Cx) (Ew : XW) (e : Expr) (f : EM) : Prop := PE X e (rdE X.K T Ew f)
abbrev PTm (T : Tbl) (X : Cx) (Ew : XW) (e : Expr) (f : BM) : Prop := PT X e (rdT X.K T Ew f)
abbrev PWm (T : Tbl) (X : Cx) (Ew : XW) (e : Expr) (f : BM) : Prop := PW X e (rdT X.K T Ew f)
abbrev PAm (T : Tbl) (X : Cx) (Ew : XW) (es : List Expr) (f : AM) : Prop := PA X es (rdA X.K T Ew f)
abbrev PSm (T : Tbl) (X : Cx) (Ew : XW) (st : Stmt) (f : SM) : Prop := PS X st (rdS X.K T Ew f)
abbrev PBm (T : Tbl) (X : Cx) (Ew : XW) (st : List Stmt) (f : SM) : Prop := PSs X st (rdS X.K T Ew f)
section
variable {X : Cx}
theorem PE.to {e : Expr} {t t' : TE} (h : PE X e t) (i : ∀ σ H Q, t' σ H Q → t σ H Q) : PE X e t' := ⟨fun pins s σ H Q I q => h.run pins s σ H Q I (i _ _ _ q)⟩
theorem PT.to {e : Expr} {t t' : TT} (h : PT X e t) (i : ∀ σ H Q, t' σ H Q → t σ H Q) : PT X e t' := ⟨fun pins s σ H Q I q => h.run pins s σ H Q I (i _ _ _ q)⟩
theorem PW.to {e : Expr} {t t' : TT} (h : PW X e t) (i : ∀ σ H Q, t' σ H Q → t σ H Q) : PW X e t' := ⟨fun wh pins s σ H Q I q => h.run wh pins s σ H Q I (i _ _ _ q)⟩
theorem PA.to {e : List Expr} {t t' : TA} (h : PA X e t) (i : ∀ σ H Q, t' σ H Q → t σ H Q) : PA X e t' := ⟨fun p pins s σ H Q I q => h.run p pins s σ H Q I (i _ _ _ q)⟩
theorem PS.to {e : Stmt} {t t' : TS} (h : PS X e t) (i : ∀ D σ H, t' D σ H → t D σ H) : PS X e t' := ⟨fun pins s σ H D I q => h.run pins s σ H D I (i _ _ _ q)⟩
theorem PSs.to {e : List Stmt} {t t' : TS} (h : PSs X e t) (i : ∀ D σ H, t' D σ H → t D σ H) : PSs X e t' := ⟨fun pins s σ H D I q => h.run pins s σ H D I (i _ _ _ q)⟩
end

/-! ### combinators: expressions -/
def eVar (i : Nat) : EM := fun ρ S => match ρ[i]? with
  | some (some v) => .ok v S
  | _ => .st
def eC (v : Val) : EM := fun _ S => .ok v S
def eBin (op : Val → Val → Sto → Res Val) (a b : EM) : EM := fun ρ S => (a ρ S).bind fun v S1 => (b ρ S1).bind fun w S2 => op v w S2
def eUn (op : Val → Sto → Res Val) (a : EM) : EM := fun ρ S => (a ρ S).bind fun v S1 => op v S1
def aNil : AM := fun _ S => .ok [] S
def aCons (a : EM) (r : AM) : AM := fun ρ S => (a ρ S).bind fun v S1 => (r ρ S1).bind fun vs S2 => .ok (v :: vs) S2
def eBI (op : List Val → Sto → Res Val) (a : AM) : EM := fun ρ S => (a ρ S).bind fun vs S1 => op vs S1
def eCall (F : FM) (a : AM) : EM := fun ρ S => (a ρ S).bind fun vs S1 => noEx (F vs S1)
def eTup (a : AM) : EM := fun ρ S => (a ρ S).bind fun vs S1 => if vs.length ≤ sizeLine then .ok (.tup vs) S1 else .st
/-- a new list: a value, or (bx) an object of the store -/
def mkL (bx : Bool) (vs : List Val) (S : Sto) : Res Val := if bx then .ok (.loc S.next) (S.alloc (.lst vs)) else .ok (.lst vs) S
def eLst (bx : Bool) (a : AM) : EM := fun ρ S => (a ρ S).bind fun vs S1 => if vs.length ≤ sizeLine then mkL bx vs S1 else .st
def eIf (t : BM) (a b : EM) : EM := fun ρ S => (t ρ S).bind fun c S1 => if c then a ρ S1 else b ρ S1
/-- values that are True or False -/
def eAnd (a b : EM) : EM := fun ρ S => (a ρ S).bind fun v S1 => match v with
  | .bl true => b ρ S1
  | .bl false => .ok (.bl false) S1
  | _ => .st
def eOr (a b : EM) : EM := fun ρ S => (a ρ S).bind fun v S1 => match v with
  | .bl true => .ok (.bl true) S1
  | .bl false => b ρ S1
  | _ => .st
def eNot (a : EM) : EM := fun ρ S => (a ρ S).bind fun v S1 => match v with
  | .bl c => .ok (.bl (!c)) S1
  | _ => .st
/-- a test by a value that is True or False -/
def tB (a : EM) : BM := fun ρ S => (a ρ S).bind fun v S1 => match v with
  | .bl c => .ok c S1
  | _ => .st
def tAndM (a b : BM) : BM := fun ρ S => (a ρ S).bind fun c S1 => if c then b ρ S1 else .ok false S1
def tOrM (a b : BM) : BM := fun ρ S => (a ρ S).bind fun c S1 => if c then .ok true S1 else b ρ S1
def tNotM (a : BM) : BM := fun ρ S => (a ρ S).bind fun c S1 => .ok (!c) S1

section
variable {T : Tbl} {X : Cx} {Ew : XW} {e a b c : Expr} {es : List Expr} {f fa fb fc : EM} {fs : AM} {pos : Pos}
theorem m_var (i : Nat) {x : Str} (hN : X.N[i]? = some x := by rfl) (hv : Vis X.env.scope x := by first | exact Or.inl rfl | exact Or.inr (Or.inl rfl) | exact Or.inr (Or.inr rfl)) (hd : (x == ("__debug__" : Str)) = false := by decide)
    (hcd : (x == ("__classdict__" : Str)) = false := by decide) : PEm T X Ew (.Name x pos) (eVar i) := by
  refine PE.to (pe_var hN hv hd hcd) fun σ H Q h => ?_
  obtain ⟨W, ρ, S, s, r, h⟩ := h
  unfold eVar at h
  cases e : ρ[i]? with
  | none => rw [e] at h; exact False.elim h
  | some o =>
    cases o with
    | none => rw [e] at h; exact False.elim h
    | some v =>
      rw [e] at h
      obtain ⟨x, hx, vx⟩ := r.get i v e
      exact ⟨x, hx, h.now s x vx⟩
theorem m_int {i : Int} {j} : PEm T X Ew (.Constant (.int i) j pos) (eC (.int i)) := PE.to pe_int fun σ H Q ⟨W, ρ, S, s, r, h⟩ => h.now s _ (.int i)
theorem m_bl {i : Bool} {j} : PEm T X Ew (.Constant (.bool i) j pos) (eC (.bl i)) := PE.to pe_bl fun σ H Q ⟨W, ρ, S, s, r, h⟩ => h.now s _ (.bl i)
theorem m_non {j} : PEm T X Ew (.Constant .none j pos) (eC .non) := PE.to pe_non fun σ H Q ⟨W, ρ, S, s, r, h⟩ => h.now s _ .non
theorem m_str {i : Str} {j} : PEm T X Ew (.Constant (.str i) j pos) (eC (.str i)) := PE.to pe_str fun σ H Q ⟨W, ρ, S, s, r, h⟩ => h.now s _ (.str i)
/-- a constant of the module -/
theorem m_glob {x : Str} {v : Val} {z : V} {u : Value} (hg : Gl X x) (hm : X.mg x = some u) (r : RelV z u) (hv : ∀ W, VR X.K T W v z) (hd : (x == ("__debug__" : Str)) = false := by decide) : PEm T X Ew (.Name x pos) (eC v) :=
  PE.to (pe_glob hg hm r hd) fun σ H Q ⟨W, ρ, S, s, r, h⟩ => h.now s _ (hv W)
/-- a built-in's name as a value -/
theorem m_bltn {x : Str} {v : Val} {z : V} {u : Value} (hg : Gl X x) (hm : X.mg x = none) (hb : bootBuiltins x = some u) (r : RelV z u) (hv : ∀ W, VR X.K T W v z) (hn : x ≠ "__name__" := by decide) (hd : (x == ("__debug__" : Str)) = false := by decide) :
    PEm T X Ew (.Name x pos) (eC v) := PE.to (pe_bltn hg hm hb r hn hd) fun σ H Q ⟨W, ρ, S, s, r, h⟩ => h.now s _ (hv W)

def Op2 (K : PySem.W.Frag) (T : Tbl) (r : R2) (op : Val → Val → Sto → Res Val) : Prop := ∀ W S H v w x y (Q : VK) (PX : Hp → Value → Option Addr → Prop), SR K T W S H → VR K T W v x → VR K T W w y →
  RP K T W (op v w S) (VP K T Q) PX → r x y H Q
def Op1 (K : PySem.W.Frag) (T : Tbl) (r : V → Hp → VK → Prop) (op : Val → Sto → Res Val) : Prop := ∀ W S H v x (Q : VK) (PX : Hp → Value → Option Addr → Prop), SR K T W S H → VR K T W v x →
  RP K T W (op v S) (VP K T Q) PX → r x H Q
def OpL (K : PySem.W.Frag) (T : Tbl) (r : List V → Hp → VK → Prop) (op : List Val → Sto → Res Val) : Prop := ∀ W S H vs xs (Q : VK) (PX : Hp → Value → Option Addr → Prop), SR K T W S H → VRs K T W vs xs →
  RP K T W (op vs S) (VP K T Q) PX → r xs H Q
theorem rd_bin {r : R2} {op : Val → Val → Sto → Res Val} (ok : Op2 X.K T r op) {σ : L2.St} {H : Hp} {Q : VK} (h : rdE X.K T Ew (eBin op fa fb) σ H Q) : tOp r (rdE X.K T Ew fa) (rdE X.K T Ew fb) σ H Q := by
  obtain ⟨W, ρ, S, s, er, h⟩ := h
  refine ⟨W, ρ, S, s, er, RP.bind h fun W1 S1 H1 v l1 s1 h1 x vx => ⟨W1, ρ, S1, s1, er.mono l1, RP.bind h1 fun W2 S2 H2 w l2 s2 h2 y vy => ?_⟩⟩
  exact ok W2 S2 H2 v w x y Q _ s2 (vx.mono l2) vy h2
theorem m_op {op : Operator} {r : R2} {o : Val → Val → Sto → Res Val} (ho : OpR X (binaryOp op) r) (ok : Op2 X.K T r o) (ha : PEm T X Ew a fa) (hb : PEm T X Ew b fb) : PEm T X Ew (.BinOp a op b pos) (eBin o fa fb) :=
  PE.to (pe_op ho ha hb) fun _ _ _ h => rd_bin ok h
theorem m_cmp {op : CmpOp} {r : R2} {o : Val → Val → Sto → Res Val} (ho : OpR X (compareOp op) r) (ok : Op2 X.K T r o) (ha : PEm T X Ew a fa) (hb : PEm T X Ew b fb) (hm : behindInMarks op b = false) : PEm T X Ew (.Compare a [op] [b] pos) (eBin o fa fb) :=
  PE.to (pe_cmpR ho ha hb hm) fun _ _ _ h => rd_bin ok h
theorem mt_cmp {op : CmpOp} {r : R2} {o : Val → Val → Sto → Res Val} (ho : OpR X (compareOp op) r) (ok : Op2 X.K T r o) (ha : PEm T X Ew a fa) (hb : PEm T X Ew b fb) (hm : behindInMarks op b = false) : PTm T X Ew (.Compare a [op] [b] pos) (tB (eBin o fa fb)) := by
  refine PT.to (pt_cmpR ho ha hb hm) fun σ H Q h => ?_
  refine rd_bin (Ew := Ew) (fa := fa) (fb := fb) ok ?_
  obtain ⟨W, ρ, S, s, er, h⟩ := h
  refine ⟨W, ρ, S, s, er, RP.bind h fun W1 S1 H1 v l1 s1 h1 x vx => ?_⟩
  cases vx with
  | bl k => exact ⟨k, rfl, h1.now s1⟩
  | _ => exact False.elim h1
theorem m_un {op : UnaryOp} {r : V → Hp → VK → Prop} {o : Val → Sto → Res Val} (ho : UnR X (unaryOp op) r) (ok : Op1 X.K T r o) (ha : PEm T X Ew a fa) : PEm T X Ew (.UnaryOp op a pos) (eUn o fa) := by
  refine PE.to (pe_un ho ha) fun σ H Q h => ?_
  obtain ⟨W, ρ, S, s, er, h⟩ := h
  exact ⟨W, ρ, S, s, er, RP.bind h fun W1 S1 H1 v l1 s1 h1 x vx => ok W1 S1 H1 v x Q _ s1 vx h1⟩
/-- a op b op' c -/
def eChain (o o' : Val → Val → Sto → Res Val) (a b c : EM) : EM := fun ρ S => (a ρ S).bind fun v S1 => (b ρ S1).bind fun w S2 => (o v w S2).bind fun k S3 => match k with
  | .bl true => (c ρ S3).bind fun z S4 => o' w z S4
  | .bl false => .ok (.bl false) S3
  | _ => .st
theorem m_chain {op op' : CmpOp} {r r' : R2} {o o' : Val → Val → Sto → Res Val} (ho : OpR X (compareOp op) r) (ho' : OpR X (compareOp op') r') (ok : Op2 X.K T r o) (ok' : Op2 X.K T r' o') (ha : PEm T X Ew a fa) (hb : PEm T X Ew b fb) (hc : PEm T X Ew c fc)
    (hm : lastMarks [op, op'] [b, c] = false := by with_unfolding_all rfl) : PEm T X Ew (.Compare a [op, op'] [b, c] pos) (eChain o o' fa fb fc) := by
  refine PE.to (pe_chain ho ho' ha hb hc hm) fun σ H Q h => ?_
  obtain ⟨W, ρ, S, s, er, h⟩ := h
  refine ⟨W, ρ, S, s, er, RP.bind h fun W1 S1 H1 v l1 s1 h1 x vx => ⟨W1, ρ, S1, s1, er.mono l1, RP.bind h1 fun W2 S2 H2 w l2 s2 h2 y vy => ?_⟩⟩
  refine ok W2 S2 H2 v w x y _ _ s2 (vx.mono l2) vy (RP.bind h2 fun W3 S3 H3 k l3 s3 h3 z vz => ?_)
  cases vz with
  | bl k =>
    refine ⟨k, rfl, ?_⟩
    cases k with
    | true =>
      rw [if_pos rfl]
      exact ⟨W3, ρ, S3, s3, (er.mono l1).mono (l2.trans l3), RP.bind h3 fun W4 S4 H4 z l4 s4 h4 z' vz' => ok' W4 S4 H4 w z y z' Q _ s4 (vy.mono (l3.trans l4)) vz' h4⟩
    | false =>
      rw [if_neg Bool.false_ne_true]
      exact h3.now s3 _ (.bl false)
  | _ => exact False.elim h3
theorem mt_of_chain {op op' : CmpOp} {r r' : R2} {o o' : Val → Val → Sto → Res Val} (ho : OpR X (compareOp op) r) (ho' : OpR X (compareOp op') r') (ok : Op2 X.K T r o) (ok' : Op2 X.K T r' o') (ha : PEm T X Ew a fa) (hb : PEm T X Ew b fb) (hc : PEm T X Ew c fc)
    (hm : lastMarks [op, op'] [b, c] = false := by with_unfolding_all rfl) : PTm T X Ew (.Compare a [op, op'] [b, c] pos) (tB (eChain o o' fa fb fc)) := by
  refine PT.to (pt_chain ho ho' ha hb hc hm) fun σ H Q h => ?_
  obtain ⟨W, ρ, S, s, er, h⟩ := h
  have h' : RP X.K T W (eChain o o' fa fb fc ρ S) (VP X.K T fun x H' => ∃ k, x = .bl k ∧ Q k H') (fun H' c o => Ew c o σ H') := RP.bind h fun W1 S1 H1 v l1 s1 h1 x vx => by
    cases vx with
    | bl k => exact ⟨k, rfl, h1.now s1⟩
    | _ => exact False.elim h1
  refine ⟨W, ρ, S, s, er, RP.bind h' fun W1 S1 H1 v l1 s1 h1 x vx => ⟨W1, ρ, S1, s1, er.mono l1, RP.bind h1 fun W2 S2 H2 w l2 s2 h2 y vy => ?_⟩⟩
  refine ok W2 S2 H2 v w x y _ _ s2 (vx.mono l2) vy (RP.bind h2 fun W3 S3 H3 k l3 s3 h3 z vz => ?_)
  cases vz with
  | bl k =>
    refine ⟨k, rfl, ?_⟩
    cases k with
    | true =>
      rw [if_pos rfl]
      exact ⟨W3, ρ, S3, s3, (er.mono l1).mono (l2.trans l3), RP.bind h3 fun W4 S4 H4 z l4 s4 h4 z' vz' => ok' W4 S4 H4 w z y z' _ _ s4 (vy.mono (l3.trans l4)) vz' h4⟩
    | false =>
      rw [if_neg Bool.false_ne_true]
      exact h3.now s3 _ (.bl false)
  | _ => exact False.elim h3

theorem ma_nil : PAm T X Ew [] aNil := PA.to pa_nil fun σ H Q ⟨W, ρ, S, s, er, h⟩ => h.now s _ .nil
theorem ma_cons (ha : PEm T X Ew e f) (hr : PAm T X Ew es fs) (hs : starEach (e :: es) X.env = (false, eval e X.env) :: starEach es X.env := by rfl) : PAm T X Ew (e :: es) (aCons f fs) := by
  refine PA.to (pa_cons ha hr hs) fun σ H Q h => ?_
  obtain ⟨W, ρ, S, s, er, h⟩ := h
  refine ⟨W, ρ, S, s, er, RP.bind h fun W1 S1 H1 v l1 s1 h1 x vx => ⟨W1, ρ, S1, s1, er.mono l1, RP.bind h1 fun W2 S2 H2 vs l2 s2 h2 xs vxs => ?_⟩⟩
  exact h2.now s2 _ (.cons (vx.mono l2) vxs)
theorem m_tup (h : PAm T X Ew es fs) {x1} : PEm T X Ew (.Tuple es x1 pos) (eTup fs) := by
  refine PE.to (pe_tup h) fun σ H Q h => ?_
  obtain ⟨W, ρ, S, s, er, h⟩ := h
  refine ⟨W, ρ, S, s, er, RP.bind h fun W1 S1 H1 vs l1 s1 h1 xs vxs => ?_⟩
  by_cases hz : vs.length ≤ sizeLine
  · rw [if_pos hz] at h1
    refine ⟨by rw [← vxs.length]; exact hz, fun p hp => ?_⟩
    have l : WLe W1 (W1.add p (.tup xs)) := .add (s1.free hp)
    exact h1 _ _ l (s1.add hp) _ (.tup (.inl upd_same) (vxs.mono l))
  · rw [if_neg hz] at h1; exact False.elim h1
theorem mkL_ok {K : PySem.W.Frag} {T : Tbl} {W : Wd} {S : Sto} {H : Hp} {vs : List Val} {xs : List V} {p : Addr} {bx : Bool} {Q : VK} {PX : Hp → Value → Option Addr → Prop} (s : SR K T W S H) (r : VRs K T W vs xs) (hp : H p = none)
    (h : RP K T W (mkL bx vs S) (VP K T Q) PX) : Q (.ref p) (upd H p (.lst xs)) := by
  cases bx with
  | false =>
    have l : WLe W (W.add p (.lst xs)) := .add (s.free hp)
    exact h _ _ l (s.add hp) _ (.lst upd_same (r.mono l))
  | true =>
    have q := h _ _ .box (s.box (b := .lst vs) hp ⟨xs, upd_same, r.mono .box⟩) (.ref p)
    refine q ?_
    have z : VR K T (W.box p) (.loc W.n) (.ref ((W.box p).m W.n)) := .loc (Nat.lt_succ_self _)
    rw [Wd.box_at] at z
    rw [← s.nx]; exact z
theorem m_lst {bx : Bool} (h : PAm T X Ew es fs) : PEm T X Ew (.List es pos) (eLst bx fs) := by
  refine PE.to (pe_lst h) fun σ H Q h => ?_
  obtain ⟨W, ρ, S, s, er, h⟩ := h
  refine ⟨W, ρ, S, s, er, RP.bind h fun W1 S1 H1 vs l1 s1 h1 xs vxs => ?_⟩
  by_cases hz : vs.length ≤ sizeLine
  · rw [if_pos hz] at h1
    exact ⟨by rw [← vxs.length]; exact hz, fun p hp => mkL_ok s1 vxs hp h1⟩
  · rw [if_neg hz] at h1; exact False.elim h1
theorem m_if {t : BM} (ht : PTm T X Ew c t) (ha : PEm T X Ew a fa) (hb : PEm T X Ew b fb) : PEm T X Ew (.IfExp c a b pos) (eIf t fa fb) := by
  refine PE.to (pe_ifExp ht ha hb) fun σ H Q h => ?_
  obtain ⟨W, ρ, S, s, er, h⟩ := h
  refine ⟨W, ρ, S, s, er, RP.bind h fun W1 S1 H1 k l1 s1 h1 => ?_⟩
  cases k with
  | true => rw [if_pos rfl]; exact ⟨W1, ρ, S1, s1, er.mono l1, h1⟩
  | false => rw [if_neg Bool.false_ne_true]; exact ⟨W1, ρ, S1, s1, er.mono l1, h1⟩
theorem m_one {op : BoolOp} (h : PEm T X Ew a f) : PEm T X Ew (.BoolOp op [a] pos) f := pe_one h
theorem m_and {rest : List Expr} (ha : PEm T X Ew a fa) (hb : PEm T X Ew (.BoolOp .And (b :: rest) pos) fb) : PEm T X Ew (.BoolOp .And (a :: b :: rest) pos) (eAnd fa fb) := by
  refine PE.to (pe_and ha hb) fun σ H Q h => ?_
  obtain ⟨W, ρ, S, s, er, h⟩ := h
  refine ⟨W, ρ, S, s, er, RP.bind h fun W1 S1 H1 v l1 s1 h1 x vx => ?_⟩
  cases vx with
  | bl k =>
    refine ⟨k, rfl, ?_⟩
    cases k with
    | true => rw [if_pos rfl]; exact ⟨W1, ρ, S1, s1, er.mono l1, h1⟩
    | false => rw [if_neg Bool.false_ne_true]; exact h1.now s1 _ (.bl false)
  | _ => exact False.elim h1
theorem m_or {rest : List Expr} (ha : PEm T X Ew a fa) (hb : PEm T X Ew (.BoolOp .Or (b :: rest) pos) fb) : PEm T X Ew (.BoolOp .Or (a :: b :: rest) pos) (eOr fa fb) := by
  refine PE.to (pe_or ha hb) fun σ H Q h => ?_
  obtain ⟨W, ρ, S, s, er, h⟩ := h
  refine ⟨W, ρ, S, s, er, RP.bind h fun W1 S1 H1 v l1 s1 h1 x vx => ?_⟩
  cases vx with
  | bl k =>
    refine ⟨k, rfl, ?_⟩
    cases k with
    | true => rw [if_pos rfl]; exact h1.now s1 _ (.bl true)
    | false => rw [if_neg Bool.false_ne_true]; exact ⟨W1, ρ, S1, s1, er.mono l1, h1⟩
  | _ => exact False.elim h1
theorem m_not (ha : PEm T X Ew a fa) : PEm T X Ew (.UnaryOp .Not a pos) (eNot fa) := by
  refine PE.to (pe_not ha) fun σ H Q h => ?_
  obtain ⟨W, ρ, S, s, er, h⟩ := h
  refine ⟨W, ρ, S, s, er, RP.bind h fun W1 S1 H1 v l1 s1 h1 x vx => ?_⟩
  cases vx with
  | bl k => exact ⟨k, rfl, h1.now s1 _ (.bl _)⟩
  | _ => exact False.elim h1
/-! tests -/
variable {ta tb : BM}
theorem mt_val (h : PEm T X Ew e f) (he : ∀ whole, isTrue e X.env whole = (do let v ← whole; standAt e.pos; holding [v] (truthy v)) := by intro _; rfl) : PTm T X Ew e (tB f) := by
  refine PT.to (pt_val h he) fun σ H Q h => ?_
  obtain ⟨W, ρ, S, s, er, h⟩ := h
  refine ⟨W, ρ, S, s, er, RP.bind h fun W1 S1 H1 v l1 s1 h1 x vx => ?_⟩
  cases vx with
  | bl k => exact ⟨k, rfl, h1.now s1⟩
  | _ => exact False.elim h1
theorem mw_and1 (h : PTm T X Ew a ta) : PWm T X Ew (.BoolOp .And [a] pos) ta := pw_and1 h
theorem mw_or1 (h : PTm T X Ew a ta) : PWm T X Ew (.BoolOp .Or [a] pos) ta := pw_or1 h
theorem mw_and {rest : List Expr} (ha : PTm T X Ew a ta) (hb : PWm T X Ew (.BoolOp .And (b :: rest) pos) tb) : PWm T X Ew (.BoolOp .And (a :: b :: rest) pos) (tAndM ta tb) := by
  refine PW.to (pw_and ha hb) fun σ H Q h => ?_
  obtain ⟨W, ρ, S, s, er, h⟩ := h
  refine ⟨W, ρ, S, s, er, RP.bind h fun W1 S1 H1 k l1 s1 h1 => ?_⟩
  cases k with
  | true => rw [if_pos rfl]; exact ⟨W1, ρ, S1, s1, er.mono l1, h1⟩
  | false => rw [if_neg Bool.false_ne_true]; exact h1.now s1
theorem mw_or {rest : List Expr} (ha : PTm T X Ew a ta) (hb : PWm T X Ew (.BoolOp .Or (b :: rest) pos) tb) : PWm T X Ew (.BoolOp .Or (a :: b :: rest) pos) (tOrM ta tb) := by
  refine PW.to (pw_or ha hb) fun σ H Q h => ?_
  obtain ⟨W, ρ, S, s, er, h⟩ := h
  refine ⟨W, ρ, S, s, er, RP.bind h fun W1 S1 H1 k l1 s1 h1 => ?_⟩
  cases k with
  | true => rw [if_pos rfl]; exact h1.now s1
  | false => rw [if_neg Bool.false_ne_true]; exact ⟨W1, ρ, S1, s1, er.mono l1, h1⟩
theorem mt_not (h : PTm T X Ew a ta) : PTm T X Ew (.UnaryOp .Not a pos) (tNotM ta) := by
  refine PT.to (pt_not h) fun σ H Q h => ?_
  obtain ⟨W, ρ, S, s, er, h⟩ := h
  exact ⟨W, ρ, S, s, er, RP.bind h fun W1 S1 H1 k l1 s1 h1 => h1.now s1⟩
end
end PM

/-! PM, part c: statements, calls, attributes, loops -/
namespace PM
open PySem PySem.Spec L2

def Res.toS {α : Type} (r : Res α) (ρ : Ev) (g : α → Sto → SRes) : SRes := match r with
  | .ok a S => g a S
  | .ex c vs S => .ex c vs ρ S
  | .st => .st
section
variable {K : PySem.W.Frag} {T : Tbl} {Ew : XW} {W : Wd} {D D' : Ends} {σ : L2.St} {ρ : Ev}
theorem SPo.of {α : Type} {r : Res α} {g : α → Sto → SRes} {P : Wd → Sto → Hp → α → Prop} (er : ER K T W ρ σ) (h : SPo K T Ew W D (r.toS ρ g))
    (i : ∀ W' S' H' a, WLe W W' → SR K T W' S' H' → SPo K T Ew W' D (g a S') → P W' S' H' a) : RP K T W r P (fun H' c o => Ew c o σ H') := by
  cases r with
  | ok a S => exact fun W2 H2 l s => i W2 S H2 a l s (SPo.wle l h)
  | ex c vs S => exact fun W2 H2 cls od l s x => h W2 H2 σ cls od l s (er.mono l) x
  | st => exact h
/-- only the four ends matter -/
theorem SPo.ends {r : SRes} (h : SPo K T Ew W D r) (n : D.nx = D'.nx) (t : D.rt = D'.rt) (b : D.bk = D'.bk) (c : D.ct = D'.ct) : SPo K T Ew W D' r := by
  cases D; cases D'; cases n; cases t; cases b; cases c; exact h
end

/-! ### targets -/
inductive Tgt where
  | name (i : Nat)
  | tup (ts : List Tgt)
mutual
def Tgt.set : Tgt → Val → Ev → Option Ev
  | .name i, v, ρ => some (ρ.set i (some v))
  | .tup ts, .tup vs, ρ => Tgt.sets ts vs ρ
  | .tup _, _, _ => none
def Tgt.sets : List Tgt → List Val → Ev → Option Ev
  | [], [], ρ => some ρ
  | t :: ts, v :: vs, ρ => (t.set v ρ).bind fun ρ' => Tgt.sets ts vs ρ'
  | _, _, _ => none
end
mutual
def Tgt.g (K : PySem.W.Frag) : Tgt → TG
  | .name i => gName i
  | .tup ts => gTup K ts.length (Tgt.gs K ts)
def Tgt.gs (K : PySem.W.Frag) : List Tgt → TGs
  | [] => gNil
  | t :: ts => gCons (t.g K) (Tgt.gs K ts)
end
mutual
def Tgt.slots : Tgt → List Nat
  | .name i => [i]
  | .tup ts => Tgt.slotss ts
def Tgt.slotss : List Tgt → List Nat
  | [] => []
  | t :: ts => t.slots ++ Tgt.slotss ts
end
theorem wipe_get (σ : L2.St) : ∀ (ws : List Nat) (j : Nat), (L2.wipe σ ws)[j]? = if j ∈ ws ∧ j < σ.length then some none else σ[j]?
  | [], j => by simp [L2.wipe]
  | w :: ws, j => by
    unfold L2.wipe
    by_cases e : w = j
    · subst e
      by_cases hl : w < σ.length
      · rw [List.getElem?_set_self (by rw [wipe_length]; exact hl), if_pos ⟨List.mem_cons_self, hl⟩]
      · rw [List.getElem?_eq_none (by rw [List.length_set, wipe_length]; omega), if_neg (fun z => hl z.2), List.getElem?_eq_none (by omega)]
    · rw [List.getElem?_set_ne e, wipe_get σ ws j]
      have : (j ∈ w :: ws) ↔ j ∈ ws := by
        rw [List.mem_cons]
        exact ⟨fun z => z.resolve_left fun q => e q.symm, .inr⟩
      by_cases hj : j ∈ ws
      · simp [hj]
      · have h2 : ¬ j = w := fun q => e q.symm
        simp [hj, h2]
theorem wipe_set {σ : L2.St} {i : Nat} {x : Option V} {ws : List Nat} (h : i ∈ ws) : L2.wipe (σ.set i x) ws = L2.wipe σ ws := by
  apply List.ext_getElem?
  intro j
  rw [wipe_get, wipe_get, List.length_set]
  by_cases e : i = j
  · subst e
    by_cases hl : i < σ.length
    · rw [if_pos ⟨h, hl⟩, if_pos ⟨h, hl⟩]
    · rw [if_neg (fun z => hl z.2), if_neg (fun z => hl z.2), List.getElem?_eq_none (by rw [List.length_set]; omega), List.getElem?_eq_none (by omega)]
  · rw [List.getElem?_set_ne e]
section
variable {K : PySem.W.Frag} {T : Tbl} {W : Wd} {H : Hp} {ws : List Nat}
mutual
theorem Tgt.ok (sub : ∀ a o, W.I a = some o → H a = some o) : ∀ (t : Tgt) {v : Val} {x : V} {ρ ρ' : Ev} {σ : L2.St} {R : L2.St → Hp → Prop}, VR K T W v x → ER K T W ρ σ → t.set v ρ = some ρ' →
    (∀ σ', ER K T W ρ' σ' → ((∀ i ∈ t.slots, i ∈ ws) → L2.wipe σ' ws = L2.wipe σ ws) → R σ' H) → t.g K x σ H R
  | .name i, v, x, ρ, ρ', σ, R, vx, er, e, k => by
    unfold Tgt.set at e
    cases e
    unfold Tgt.g
    exact k _ (er.set vx) fun z => wipe_set (z i (by simp [Tgt.slots]))
  | .tup ts, v, x, ρ, ρ', σ, R, vx, er, e, k => by
    cases vx with
    | tup h r =>
      unfold Tgt.set at e
      unfold Tgt.g
      have hl := Tgt.sets_len ts e
      exact ⟨_, _, rfl, TQ_sq sub h, by rw [← r.length, hl], Tgt.oks sub ts r er e fun σ' e' w => k σ' e' fun z => w (by simpa [Tgt.slots] using z)⟩
    | _ => simp [Tgt.set] at e
theorem Tgt.oks (sub : ∀ a o, W.I a = some o → H a = some o) : ∀ (ts : List Tgt) {vs : List Val} {xs : List V} {ρ ρ' : Ev} {σ : L2.St} {R : L2.St → Hp → Prop}, VRs K T W vs xs → ER K T W ρ σ → Tgt.sets ts vs ρ = some ρ' →
    (∀ σ', ER K T W ρ' σ' → ((∀ i ∈ Tgt.slotss ts, i ∈ ws) → L2.wipe σ' ws = L2.wipe σ ws) → R σ' H) → Tgt.gs K ts xs σ H R
  | [], _, _, ρ, ρ', σ, R, .nil, er, e, k => by
    unfold Tgt.sets at e
    cases e
    unfold Tgt.gs
    exact ⟨rfl, k σ er fun _ => rfl⟩
  | [], _, _, ρ, ρ', σ, R, .cons _ _, er, e, k => by simp [Tgt.sets] at e
  | t :: ts, _, _, ρ, ρ', σ, R, .nil, er, e, k => by simp [Tgt.sets] at e
  | t :: ts, _, _, ρ, ρ', σ, R, .cons (v := v) (vs := vs) vx r, er, e, k => by
    unfold Tgt.sets at e
    cases q : t.set v ρ with
    | none => rw [q] at e; cases e
    | some ρ1 =>
      rw [q] at e
      unfold Tgt.gs
      refine ⟨_, _, rfl, Tgt.ok sub t vx er q fun σ1 e1 w1 => Tgt.oks sub ts r e1 e fun σ2 e2 w2 => k σ2 e2 fun z => ?_⟩
      rw [w2 fun i hi => z i (by unfold Tgt.slotss; exact List.mem_append_right _ hi), w1 fun i hi => z i (by unfold Tgt.slotss; exact List.mem_append_left _ hi)]
theorem Tgt.sets_len : ∀ (ts : List Tgt) {vs : List Val} {ρ ρ' : Ev}, Tgt.sets ts vs ρ = some ρ' → vs.length = ts.length
  | [], [], _, _, _ => rfl
  | [], _ :: _, _, _, e => by simp [Tgt.sets] at e
  | _ :: _, [], _, _, e => by simp [Tgt.sets] at e
  | t :: ts, v :: vs, ρ, ρ', e => by
    unfold Tgt.sets at e
    cases q : t.set v ρ with
    | none => rw [q] at e; cases e
    | some ρ1 =>
      rw [q] at e
      exact congrArg (· + 1) (Tgt.sets_len ts e)
end
end

/-! ### statements -/
def sNext : SM := fun ρ S => .nx ρ S
def sNever : SM := fun _ _ => .st
def sSeq (s t : SM) : SM := fun ρ S => match s ρ S with
  | .nx ρ' S' => t ρ' S'
  | r => r
def sSet (i : Nat) (e : EM) : SM := fun ρ S => (e ρ S).toS ρ fun v S1 => .nx (ρ.set i (some v)) S1
def sAsg (t : Tgt) (e : EM) : SM := fun ρ S => (e ρ S).toS ρ fun v S1 => match t.set v ρ with
  | some ρ' => .nx ρ' S1
  | none => .st
def sPar (i j : Nat) (a : AM) : SM := fun ρ S => (a ρ S).toS ρ fun vs S1 => match vs with
  | [v, w] => .nx ((ρ.set i (some v)).set j (some w)) S1
  | _ => .st
def sDrop (e : EM) : SM := fun ρ S => (e ρ S).toS ρ fun _ S1 => .nx ρ S1
def sRet (e : EM) : SM := fun ρ S => (e ρ S).toS ρ fun v S1 => .rt v S1
def sRetN : SM := fun _ S => .rt .non S
def sBreak : SM := fun ρ S => .bk ρ S
def sCont : SM := fun ρ S => .ct ρ S
def sIf (t : BM) (a b : SM) : SM := fun ρ S => (t ρ S).toS ρ fun c S1 => if c then a ρ S1 else b ρ S1
def sAug (i : Nat) (op : Val → Val → Sto → Res Val) (e : EM) : SM := fun ρ S => match ρ[i]? with
  | some (some v) => (e ρ S).toS ρ fun w S1 => (op v w S1).toS ρ fun z S2 => .nx (ρ.set i (some z)) S2
  | _ => .st
def whileM : Nat → BM → SM → SM
  | 0, _, _ => fun _ _ => .st
  | n + 1, c, b => fun ρ S => (c ρ S).toS ρ fun k S1 => if k then (match b ρ S1 with
      | .nx ρ' S' => whileM n c b ρ' S'
      | .ct ρ' S' => whileM n c b ρ' S'
      | .bk ρ' S' => .nx ρ' S'
      | r => r) else .nx ρ S1

/-- what a loop walks: the items; what must hold of the store at each turn -/
structure ItV where
  items : List Val
  src : Sto → Prop
abbrev IM := Ev → Sto → Res ItV
open Classical in
noncomputable def forGo (src : Sto → Prop) (tg : Tgt) (b : SM) : List Val → SM
  | [] => fun ρ S => if src S then .nx ρ S else .st
  | v :: vs => fun ρ S => if src S then (match tg.set v ρ with
      | some ρ1 => (match b ρ1 S with
        | .nx ρ' S' => forGo src tg b vs ρ' S'
        | .ct ρ' S' => forGo src tg b vs ρ' S'
        | .bk ρ' S' => .nx ρ' S'
        | r => r)
      | none => .st) else .st
noncomputable def sFor (it : IM) (tg : Tgt) (b : SM) : SM := fun ρ S => (it ρ S).toS ρ fun iv S1 => forGo iv.src tg b iv.items ρ S1
def ItOk (K : PySem.W.Frag) (T : Tbl) (W : Wd) (iv : ItV) (J : It) : Prop := ∀ W' S' H', WLe W W' → SR K T W' S' H' → iv.src S' → ∀ i,
  (∀ v, iv.items[i]? = some v → J.go i H' ∧ ∀ x H'', J.yld i H' x H'' → ∃ W'', WLe W' W'' ∧ SR K T W'' S' H'' ∧ VR K T W'' v x) ∧ (iv.items[i]? = none → J.stop i H')
theorem ItOk.mono {K : PySem.W.Frag} {T : Tbl} {W W' : Wd} {iv : ItV} {J : It} (l : WLe W W') (h : ItOk K T W iv J) : ItOk K T W' iv J := fun W2 S H l2 => h W2 S H (l.trans l2)
def rdI (K : PySem.W.Frag) (T : Tbl) (Ew : XW) (f : IM) : TI := fun σ H R => ∃ W ρ S, SR K T W S H ∧ ER K T W ρ σ ∧ RP K T W (f ρ S) (fun W' _ H' iv => ∀ J, ItOk K T W' iv J → R J H') (fun H' c o => Ew c o σ H')
abbrev PIm (T : Tbl) (X : Cx) (Ew : XW) (tg e : Expr) (f : IM) : Prop := PI X tg e (rdI X.K T Ew f)
theorem PI.to {X : Cx} {tg e : Expr} {t t' : TI} (h : PI X tg e t) (i : ∀ σ H R, t' σ H R → t σ H R) : PI X tg e t' := ⟨fun pins s σ H R I q => h.run pins s σ H R I (i _ _ _ q)⟩
/-- a target: its names -/
abbrev PGm (X : Cx) (e : Expr) (t : Tgt) : Prop := PG X e (t.g X.K)
abbrev PGsm (X : Cx) (e : List Expr) (t : List Tgt) : Prop := PGs X e (Tgt.gs X.K t)

section
variable {T : Tbl} {X : Cx} {Ew : XW} {e c a b : Expr} {es : List Expr} {f fa fb : EM} {fs : AM} {t : BM} {s u : SM} {st : Stmt} {sts rest body orelse : List Stmt} {pos : Pos}
theorem g_name {i : Nat} {x : Str} (hN : X.N.Nodup) (hi : X.N[i]? = some x) (hx : Loc X.env.scope x) (hf : X.fn x = true ∨ X.env.scope.names.lookup x = some .local := by first | exact .inl rfl | exact .inr rfl | assumption) : PGm X (.Name x pos) (.name i) := by
  show PG X (.Name x pos) (Tgt.g X.K (.name i))
  unfold Tgt.g
  exact pg_name hN hi hx hf
theorem gs_nil : PGsm X [] [] := by
  show PGs X [] (Tgt.gs X.K [])
  unfold Tgt.gs
  exact pgs_nil
theorem gs_cons {tg : Tgt} {ts : List Tgt} (h1 : PGm X e tg) (h2 : PGsm X es ts) (hs : (assignEach (e :: es) X.env).map (·.2) = assign e X.env :: (assignEach es X.env).map (·.2) := by rfl) : PGsm X (e :: es) (tg :: ts) := by
  show PGs X (e :: es) (Tgt.gs X.K (tg :: ts))
  unfold Tgt.gs
  exact pgs_cons h1 h2 hs
theorem g_tup {ts : List Tgt} {k : Nat} (hc : X.calm = true) (h : PGsm X es ts) (hn : (assignEach es X.env).length = ts.length := by rfl) (hst : (assignEach es X.env).findIdx? (·.1) = none := by rfl) : PGm X (.Tuple es k pos) (.tup ts) := by
  show PG X _ (Tgt.g X.K (.tup ts))
  unfold Tgt.g
  exact pg_tup hc h hn hst
theorem mb_nil : PBm T X Ew [] sNext := PSs.to pss_nil fun D σ H ⟨W, ρ, S, s, er, h⟩ => h W H σ (.refl W) s er
theorem mb_one (h : PSm T X Ew st s) : PBm T X Ew [st] s := pss_one h
theorem mb_cons (h1 : PSm T X Ew st s) (h2 : PBm T X Ew rest u) : PBm T X Ew (st :: rest) (sSeq s u) := by
  refine PSs.to (pss_cons h1 h2) fun D σ H ⟨W, ρ, S, sr, er, h⟩ => ⟨W, ρ, S, sr, er, ?_⟩
  unfold sSeq at h
  cases q : s ρ S with
  | nx ρ' S' =>
    rw [q] at h
    exact fun W2 H2 σ2 l s2 e2 => ⟨W2, ρ', S', s2, e2, SPo.wle l h⟩
  | rt v S' => rw [q] at h; exact h
  | bk v S' => rw [q] at h; exact h
  | ct v S' => rw [q] at h; exact h
  | ex c vs v S' => rw [q] at h; exact h
  | st => rw [q] at h; exact h
theorem ms_pass : PSm T X Ew (.Pass pos) sNext := PS.to ps_pass fun D σ H ⟨W, ρ, S, s, er, h⟩ => h W H σ (.refl W) s er
theorem ms_never : PSm T X Ew st sNever := PS.to ps_never fun D σ H ⟨W, ρ, S, s, er, h⟩ => h
theorem mb_never : PBm T X Ew sts sNever := PSs.to pss_never fun D σ H ⟨W, ρ, S, s, er, h⟩ => h
theorem ms_break : PSm T X Ew (.Break pos) sBreak := PS.to ps_break fun D σ H ⟨W, ρ, S, s, er, h⟩ => h W H σ (.refl W) s er
theorem ms_cont : PSm T X Ew (.Continue pos) sCont := PS.to ps_continue fun D σ H ⟨W, ρ, S, s, er, h⟩ => h W H σ (.refl W) s er
theorem ms_set {i : Nat} {x : Str} {pos' : Pos} (hN : X.N.Nodup) (hi : X.N[i]? = some x) (hx : Loc X.env.scope x) (he : PEm T X Ew e f) (hs : swapsWith e (some (.Name x pos')) pos.line X.env = pure false := by rfl)
    (hf : X.fn x = true ∨ X.env.scope.names.lookup x = some .local := by first | exact .inl rfl | exact .inr rfl | assumption) : PSm T X Ew (.Assign [.Name x pos'] e pos) (sSet i f) := by
  refine PS.to (ps_set hN hi hx he hs hf) fun D σ H ⟨W, ρ, S, sr, er, h⟩ => ⟨W, ρ, S, sr, er, SPo.of er h fun W1 S1 H1 v l s1 h1 x vx => ?_⟩
  exact h1 W1 H1 _ (.refl _) s1 ((er.mono l).set vx)
theorem ms_asg {tg : Expr} {g : Tgt} (he : PEm T X Ew e f) (hg : PGm X tg g) (hs : swapsWithSole [tg] e pos.line X.env = pure false := by rfl) (hw : swappedStores [tg] e X.env = pure none := by rfl)
    (h1 : (assignEach [tg] X.env).map (·.2) = [assign tg X.env] := by rfl) : PSm T X Ew (.Assign [tg] e pos) (sAsg g f) := by
  refine PS.to (ps_asg he hg hs hw h1) fun D σ H ⟨W, ρ, S, sr, er, h⟩ => ⟨W, ρ, S, sr, er, SPo.of er h fun W1 S1 H1 v l s1 h1 x vx => ?_⟩
  cases q : g.set v ρ with
  | none => rw [q] at h1; exact False.elim h1
  | some ρ' =>
    rw [q] at h1
    exact Tgt.ok (ws := []) s1.sub g vx (er.mono l) q fun σ' e' _ => h1 W1 H1 σ' (.refl _) s1 e'
theorem ms_par {i j : Nat} {x y : Str} {px py pt : Pos} {kt k2 pt2} (hc : X.calm = true) (hN : X.N.Nodup) (hi : X.N[i]? = some x) (hj : X.N[j]? = some y) (hij : i ≠ j)
    (hx : X.env.scope.names.lookup x = some .local) (hy : X.env.scope.names.lookup y = some .local) (ha : PAm T X Ew [a, b] fs)
    (hw : swappedStores [.Tuple [.Name x px, .Name y py] kt pt] (.Tuple [a, b] k2 pt2) X.env = pure (some [x, y]) := by rfl)
    (hs : swapsWithSole [.Tuple [.Name x px, .Name y py] kt pt] (.Tuple [a, b] k2 pt2) pos.line X.env = pure false := by rfl) :
    PSm T X Ew (.Assign [.Tuple [.Name x px, .Name y py] kt pt] (.Tuple [a, b] k2 pt2) pos) (sPar i j fs) := by
  refine PS.to (ps_par hc hN hi hj hij hx hy ha hw hs) fun D σ H ⟨W, ρ, S, sr, er, h⟩ => ⟨W, ρ, S, sr, er, SPo.of er h fun W1 S1 H1 vs l s1 h1 xs vxs => ?_⟩
  cases vxs with
  | nil => exact False.elim h1
  | cons v1 r1 =>
    cases r1 with
    | nil => exact False.elim h1
    | cons v2 r2 =>
      cases r2 with
      | nil => exact ⟨_, _, rfl, h1 W1 H1 _ (.refl _) s1 (((er.mono l).set v1).set v2)⟩
      | cons _ _ => exact False.elim h1
theorem ms_expr (he : PEm T X Ew e f) (hs : swapsWith e none pos.line X.env = pure false := by rfl) : PSm T X Ew (.Expr e pos) (sDrop f) :=
  PS.to (ps_expr he hs) fun D σ H ⟨W, ρ, S, sr, er, h⟩ => ⟨W, ρ, S, sr, er, SPo.of er h fun W1 S1 H1 v l s1 h1 x vx => h1 W1 H1 _ (.refl _) s1 (er.mono l)⟩
theorem ms_ret (he : PEm T X Ew e f) : PSm T X Ew (.Return (some e) pos) (sRet f) :=
  PS.to (ps_ret he) fun D σ H ⟨W, ρ, S, sr, er, h⟩ => ⟨W, ρ, S, sr, er, SPo.of er h fun W1 S1 H1 v l s1 h1 x vx => h1 W1 H1 _ (.refl _) s1 vx⟩
theorem ms_retN : PSm T X Ew (.Return none pos) sRetN := PS.to ps_retN fun D σ H ⟨W, ρ, S, s, er, h⟩ => h W H _ (.refl W) s .non
theorem ms_if {A B : List Stmt} (ht : PTm T X Ew c t) (ha : PBm T X Ew A s) (hb : PBm T X Ew B u) : PSm T X Ew (.If c A B pos) (sIf t s u) := by
  refine PS.to (ps_if ht ha hb) fun D σ H ⟨W, ρ, S, sr, er, h⟩ => ⟨W, ρ, S, sr, er, SPo.of er h fun W1 S1 H1 k l s1 h1 => ?_⟩
  cases k with
  | true => rw [if_pos rfl]; exact ⟨W1, ρ, S1, s1, er.mono l, h1⟩
  | false => rw [if_neg Bool.false_ne_true]; exact ⟨W1, ρ, S1, s1, er.mono l, h1⟩
theorem ms_aug {i : Nat} {x : Str} {op : Operator} {o : Val → Val → Sto → Res Val} {r : TIp} {pos' : Pos} (hN : X.N.Nodup) (hi : X.N[i]? = some x) (hx : Loc X.env.scope x) (he : PEm T X Ew e f) (ho : PIp X op r) (ok : Op2 X.K T r o)
    (hf : X.fn x = true ∨ X.env.scope.names.lookup x = some .local := by first | exact .inl rfl | exact .inr rfl | assumption) : PSm T X Ew (.AugAssign (.Name x pos') op e pos) (sAug i o f) := by
  refine PS.to (ps_aug hN hi hx he ho hf) fun D σ H ⟨W, ρ, S, sr, er, h⟩ => ?_
  unfold sAug at h
  cases q : ρ[i]? with
  | none => rw [q] at h; exact False.elim h
  | some z =>
    cases z with
    | none => rw [q] at h; exact False.elim h
    | some v =>
      rw [q] at h
      obtain ⟨y, hy, vy⟩ := er.get i v q
      refine ⟨y, hy, W, ρ, S, sr, er, SPo.of er h fun W1 S1 H1 w l s1 h1 x vx => ?_⟩
      refine ok W1 S1 H1 v w y x _ (fun H' c o => Ew c o σ H') s1 (vy.mono l) vx (SPo.of (er.mono l) h1 fun W2 S2 H2 z l2 s2 h2 xz vz => ?_)
      exact h2 W2 H2 _ (.refl _) s2 (((er.mono l).mono l2).set vz)
theorem ms_while (n : Nat) (hp : PassesOwn (model X.prog X.w) X.A X.env X.xe) (hc : PTm T X Ew c t) (hb : PBm T X Ew body s) : PSm T X Ew (.While c body [] pos) (whileM n t s) := by
  refine PS.to (ps_while hp hc hb) fun D σ H ⟨W, ρ, S, sr, er, h⟩ => ?_
  refine ⟨fun m σ H => ∃ W ρ S, SR X.K T W S H ∧ ER X.K T W ρ σ ∧ SPo X.K T Ew W D (whileM m t s ρ S), ⟨n, W, ρ, S, sr, er, h⟩, fun m σ H hW => ?_⟩
  obtain ⟨W, ρ, S, sr, er, h⟩ := hW
  cases m with
  | zero => exact False.elim h
  | succ m =>
    unfold whileM at h
    refine ⟨W, ρ, S, sr, er, SPo.of er h fun W1 S1 H1 k l s1 h1 => ?_⟩
    cases k with
    | false => rw [if_neg Bool.false_ne_true]; exact h1 W1 H1 σ (.refl _) s1 (er.mono l)
    | true =>
      rw [if_pos rfl]
      rw [if_pos rfl] at h1
      refine ⟨_, fun σ' H' z => ⟨m, Nat.lt_succ_self m, z⟩, W1, ρ, S1, s1, er.mono l, ?_⟩
      cases q : s ρ S1 with
      | nx ρ' S' => rw [q] at h1; exact fun W2 H2 σ2 l2 s2 e2 => ⟨W2, ρ', S', s2, e2, SPo.wle l2 h1⟩
      | ct ρ' S' => rw [q] at h1; exact fun W2 H2 σ2 l2 s2 e2 => ⟨W2, ρ', S', s2, e2, SPo.wle l2 h1⟩
      | bk ρ' S' => rw [q] at h1; exact h1
      | rt v S' => rw [q] at h1; exact h1
      | ex c vs ρ' S' => rw [q] at h1; exact h1
      | st => rw [q] at h1; exact h1
theorem ms_for {tgE iter : Expr} {it : IM} {g : Tgt} (hp : PassesOwn (model X.prog X.w) X.A X.env X.xe) (hc : X.calm = true) (hi : PIm T X Ew tgE iter it) (hg : PGm X tgE g) (hb : PBm T X Ew body s)
    (hs : ∀ x, foldedSetIterable iter X.env x = pure x := by intro _; rfl) : PSm T X Ew (.For tgE iter body [] pos) (sFor it g s) := by
  refine PS.to (ps_for hp hc hi hg hb hs) fun D σ H ⟨W, ρ, S, sr, er, h⟩ => ⟨W, ρ, S, sr, er, SPo.of er h fun W1 S1 H1 iv l s1 h1 J hJ => ?_⟩
  refine ⟨fun i m σ H => ∃ W ρ S rest, iv.items.drop i = rest ∧ m = rest.length ∧ WLe W1 W ∧ SR X.K T W S H ∧ ER X.K T W ρ σ ∧ SPo X.K T Ew W D (forGo iv.src g s rest ρ S),
    ⟨_, W1, ρ, S1, iv.items, rfl, rfl, .refl _, s1, er.mono l, h1⟩, fun i m σ H hW => ?_⟩
  obtain ⟨W, ρ, S, rest, hd, rfl, lw, sr, er, h⟩ := hW
  cases rest with
  | nil =>
    unfold forGo at h
    by_cases hsrc : iv.src S
    · rw [if_pos hsrc] at h
      have hn : iv.items[i]? = none := List.getElem?_eq_none (by simpa using hd)
      exact .inl ⟨(hJ W S H lw sr hsrc i).2 hn, h W H σ (.refl _) sr er⟩
    · rw [if_neg hsrc] at h; exact False.elim h
  | cons v vs =>
    unfold forGo at h
    by_cases hsrc : iv.src S
    · rw [if_pos hsrc] at h
      have hv : iv.items[i]? = some v := by
        have := congrArg (·[0]?) hd
        simpa using this
      have hd' : iv.items.drop (i + 1) = vs := by
        have := congrArg List.tail hd
        simpa using this
      obtain ⟨go, yl⟩ := (hJ W S H lw sr hsrc i).1 v hv
      refine .inr ⟨go, _, fun σ' H' z => ⟨vs.length, Nat.lt_succ_self _, z⟩, fun x H' y => ?_⟩
      obtain ⟨W2, l2, s2, vx⟩ := yl x H' y
      cases q : g.set v ρ with
      | none => rw [q] at h; exact False.elim h
      | some ρ1 =>
        rw [q] at h
        refine Tgt.ok (ws := []) s2.sub g vx (er.mono l2) q fun σ' e' _ => ⟨W2, ρ1, S, s2, e', ?_⟩
        have h' := SPo.wle l2 h
        cases q2 : s ρ1 S with
        | nx ρ' S' => simp only [q2] at h'; exact fun W3 H3 σ3 l3 s3 e3 => ⟨W3, ρ', S', vs, hd', rfl, (lw.trans l2).trans l3, s3, e3, SPo.wle l3 h'⟩
        | ct ρ' S' => simp only [q2] at h'; exact fun W3 H3 σ3 l3 s3 e3 => ⟨W3, ρ', S', vs, hd', rfl, (lw.trans l2).trans l3, s3, e3, SPo.wle l3 h'⟩
        | bk ρ' S' => simp only [q2] at h'; exact h'
        | rt v S' => simp only [q2] at h'; exact h'
        | ex c vs ρ' S' => simp only [q2] at h'; exact h'
        | st => simp only [q2] at h'; exact h'
    · rw [if_neg hsrc] at h; exact False.elim h
end
end PM

/-! PM, part d: the operators and built-ins over data -/
namespace PM
open PySem PySem.Spec L2

/-! ### looking into a value -/
def lstOf (S : Sto) : Val → Option (List Val)
  | .lst xs => some xs
  | .fz xs => some xs
  | .loc k => match S.objs k with
    | some (.lst xs) => some xs
    | _ => none
  | _ => none
/-- a list that is not the script -/
def mlstOf (S : Sto) : Val → Option (List Val)
  | .lst xs => some xs
  | .loc k => match S.objs k with
    | some (.lst xs) => some xs
    | _ => none
  | _ => none
def insOf (S : Sto) : Val → Option (Nat × List Val)
  | .ins c vs => some (c, vs)
  | .loc k => match S.objs k with
    | some (.ins c vs) => some (c, vs)
    | _ => none
  | _ => none
section
variable {K : PySem.W.Frag} {T : Tbl} {W : Wd} {S : Sto} {H : Hp} {v : Val} {x : V}
theorem locLst (s : SR K T W S H) {k : Nat} {vs : List Val} (e : S.objs k = some (.lst vs)) : ∃ xs, H (W.m k) = some (.lst xs) ∧ VRs K T W vs xs := s.at_ k _ e
theorem lstOf_ok (s : SR K T W S H) (r : VR K T W v x) {vs : List Val} (e : lstOf S v = some vs) : ∃ a xs, x = .ref a ∧ SqL K H a xs ∧ VRs K T W vs xs := by
  cases r with
  | lst h r => cases e; exact ⟨_, _, rfl, .inl (.inl (s.sub _ _ h)), r⟩
  | fz h r => cases e; exact ⟨_, _, rfl, SqL_mono s.sub h, r⟩
  | @loc k h =>
    unfold lstOf at e
    cases q : S.objs k with
    | none => simp only [q] at e; cases e
    | some o =>
      cases o with
      | lst ys =>
        simp only [q] at e; cases e
        obtain ⟨xs, h1, h2⟩ := locLst s q
        exact ⟨_, _, rfl, .inl (.inl h1), h2⟩
      | dk _ _ _ => simp only [q] at e; cases e
      | dt _ _ _ => simp only [q] at e; cases e
      | ins _ _ => simp only [q] at e; cases e
  | _ => cases e
theorem mlstOf_ok (s : SR K T W S H) (r : VR K T W v x) {vs : List Val} (e : mlstOf S v = some vs) : ∃ a xs, x = .ref a ∧ H a = some (.lst xs) ∧ VRs K T W vs xs := by
  cases r with
  | lst h r => cases e; exact ⟨_, _, rfl, s.sub _ _ h, r⟩
  | @loc k h =>
    unfold mlstOf at e
    cases q : S.objs k with
    | none => simp only [q] at e; cases e
    | some o =>
      cases o with
      | lst ys =>
        simp only [q] at e; cases e
        obtain ⟨xs, h1, h2⟩ := locLst s q
        exact ⟨_, _, rfl, h1, h2⟩
      | dk _ _ _ => simp only [q] at e; cases e
      | dt _ _ _ => simp only [q] at e; cases e
      | ins _ _ => simp only [q] at e; cases e
  | _ => cases e
theorem insOf_ok (s : SR K T W S H) (r : VR K T W v x) {c : Nat} {vs : List Val} (e : insOf S v = some (c, vs)) :
    ∃ a C dx xs, x = .ref a ∧ T.cl c = some C ∧ xs.length ≤ (T.fl c).length ∧ H a = some (.ins C dx ((T.fl c).zip xs)) ∧ VRs K T W vs xs := by
  cases r with
  | ins h1 h2 h3 h4 => cases e; exact ⟨_, _, _, _, rfl, h1, h2, s.sub _ _ h3, h4⟩
  | @loc k h =>
    unfold insOf at e
    cases q : S.objs k with
    | none => simp only [q] at e; cases e
    | some o =>
      cases o with
      | ins c' vs' =>
        simp only [q] at e; cases e
        obtain ⟨C, dx, xs, h1, h2, h3, h4⟩ := s.at_ k _ q
        exact ⟨_, _, _, _, rfl, h1, h2, h3, h4⟩
      | dk _ _ _ => simp only [q] at e; cases e
      | dt _ _ _ => simp only [q] at e; cases e
      | lst _ => simp only [q] at e; cases e
  | _ => cases e
theorem tup_ok (s : SR K T W S H) {vs : List Val} (r : VR K T W (.tup vs) x) : ∃ a xs, x = .ref a ∧ SqT K H a xs ∧ VRs K T W vs xs := by
  cases r with
  | tup h r => exact ⟨_, _, rfl, TQ_sq s.sub h, r⟩
end

/-! ### data -/
mutual
def Val.dat : Val → Option PyData
  | .non => some .none
  | .bl b => some (.bool b)
  | .int i => some (.int i)
  | .str x => some (.str x)
  | .tup xs => (Val.dats xs).map .tuple
  | .lst xs => (Val.dats xs).map .list
  | .fz xs => (Val.dats xs).map .list
  | _ => none
def Val.dats : List Val → Option (List PyData)
  | [] => some []
  | v :: vs => match v.dat, Val.dats vs with
    | some d, some ds => some (d :: ds)
    | _, _ => none
end
/-- a list of the store counts as its items -/
def datS (S : Sto) : Val → Option PyData
  | .loc k => match S.objs k with
    | some (.lst xs) => (Val.dats xs).map .list
    | _ => none
  | v => v.dat
section
variable {K : PySem.W.Frag} {T : Tbl} {W : Wd} {S : Sto} {H : Hp}
mutual
theorem Val.dat_ok (sub : ∀ a o, W.I a = some o → H a = some o) : ∀ {v : Val} {x : V} {d : PyData}, VR K T W v x → v.dat = some d → Dp K H x d
  | _, _, d, .non, e => by unfold Val.dat at e; cases e; exact .non
  | _, _, d, .bl b, e => by unfold Val.dat at e; cases e; exact .bl b
  | _, _, d, .int b, e => by unfold Val.dat at e; cases e; exact .int b
  | _, _, d, .str b, e => by unfold Val.dat at e; cases e; exact .str b
  | _, _, d, .ty b, e => by unfold Val.dat at e; cases e
  | _, _, d, .tup (vs := vs) h r, e => by
    unfold Val.dat at e
    cases q : Val.dats vs with
    | none => rw [q] at e; cases e
    | some ds => rw [q] at e; cases e; exact .tup (TQ_sq sub h) (Val.dats_ok sub r q)
  | _, _, d, .lst (vs := vs) h r, e => by
    unfold Val.dat at e
    cases q : Val.dats vs with
    | none => rw [q] at e; cases e
    | some ds => rw [q] at e; cases e; exact .lst (.inl (.inl (sub _ _ h))) (Val.dats_ok sub r q)
  | _, _, d, .fz (vs := vs) h r, e => by
    unfold Val.dat at e
    cases q : Val.dats vs with
    | none => rw [q] at e; cases e
    | some ds => rw [q] at e; cases e; exact .lst (SqL_mono sub h) (Val.dats_ok sub r q)
  | _, _, d, .dk _ _ _, e => by unfold Val.dat at e; cases e
  | _, _, d, .dt _ _ _, e => by unfold Val.dat at e; cases e
  | _, _, d, .ins _ _ _ _, e => by unfold Val.dat at e; cases e
  | _, _, d, .loc _, e => by unfold Val.dat at e; cases e
  | _, _, d, .cls _, e => by unfold Val.dat at e; cases e
  | _, _, d, .err0 _ _ _, e => by unfold Val.dat at e; cases e
  | _, _, d, .errd _ _ _ _ _, e => by unfold Val.dat at e; cases e
theorem Val.dats_ok (sub : ∀ a o, W.I a = some o → H a = some o) : ∀ {vs : List Val} {xs : List V} {ds : List PyData}, VRs K T W vs xs → Val.dats vs = some ds → DpAll K H xs ds
  | _, _, ds, .nil, e => by unfold Val.dats at e; cases e; exact .nil
  | _, _, ds, .cons (v := v) (vs := vs) a r, e => by
    unfold Val.dats at e
    cases q : v.dat with
    | none => rw [q] at e; cases e
    | some d =>
      cases q2 : Val.dats vs with
      | none => rw [q, q2] at e; cases e
      | some d2 =>
        rw [q, q2] at e; cases e
        exact .cons (Val.dat_ok sub a q) (Val.dats_ok sub r q2)
end
theorem datS_ok (s : SR K T W S H) {v : Val} {x : V} {d : PyData} (r : VR K T W v x) (e : datS S v = some d) : Dp K H x d := by
  cases r with
  | @loc k h =>
    unfold datS at e
    cases q : S.objs k with
    | none => simp only [q] at e; cases e
    | some o =>
      cases o with
      | lst ys =>
        simp only [q] at e
        obtain ⟨xs, h1, h2⟩ := locLst s q
        cases q2 : Val.dats ys with
        | none => rw [q2] at e; cases e
        | some ds => rw [q2] at e; cases e; exact .lst (.inl (.inl h1)) (Val.dats_ok s.sub h2 q2)
      | dk _ _ _ => simp only [q] at e; cases e
      | dt _ _ _ => simp only [q] at e; cases e
      | ins _ _ => simp only [q] at e; cases e
  | non => exact Val.dat_ok (T := T) s.sub .non e
  | bl b => exact Val.dat_ok (T := T) s.sub (.bl b) e
  | int b => exact Val.dat_ok (T := T) s.sub (.int b) e
  | str b => exact Val.dat_ok (T := T) s.sub (.str b) e
  | ty b => exact Val.dat_ok (T := T) s.sub (.ty b) e
  | tup h r => exact Val.dat_ok s.sub (.tup h r) e
  | lst h r => exact Val.dat_ok s.sub (.lst h r) e
  | fz h r => exact Val.dat_ok s.sub (.fz h r) e
  | dk a b c => exact Val.dat_ok s.sub (.dk a b c) e
  | dt a b c => exact Val.dat_ok s.sub (.dt a b c) e
  | ins a b c d => exact Val.dat_ok s.sub (.ins a b c d) e
  | cls a => exact Val.dat_ok s.sub (.cls a) e
  | err0 a b c => exact Val.dat_ok s.sub (.err0 a b c) e
  | errd a b c d r => exact Val.dat_ok s.sub (.errd a b c d r) e
end

/-! ### operators -/
theorem OpR.or {X : Cx} {f : Value → Value → Sem Value} {r r' : R2} (h : OpR X f r) (h' : OpR X f r') : OpR X f (fun x y H Q => r x y H Q ∨ r' x y H Q) := by
  intro pins s σ H x y v u Q I rx ry q
  rcases q with q | q
  · exact h pins s σ H x y v u Q I rx ry q
  · exact h' pins s σ H x y v u Q I rx ry q
theorem CallR.or {X : Cx} {f : Value} {r r' : List V → Hp → VK → Prop} (h : CallR X f r) (h' : CallR X f r') : CallR X f (fun x H Q => r x H Q ∨ r' x H Q) := by
  intro pins s σ H xs us Q I rx q
  rcases q with q | q
  · exact h pins s σ H xs us Q I rx q
  · exact h' pins s σ H xs us Q I rx q

def vAdd (bx : Bool) (v w : Val) (S : Sto) : Res Val := match v, w with
  | .int i, .int j => .ok (.int (i + j)) S
  | .str i, .str j => if i.length + j.length ≤ sizeLine then .ok (.str (i ++ j)) S else .st
  | .tup xs, .tup ys => if xs.length + ys.length ≤ sizeLine then .ok (.tup (xs ++ ys)) S else .st
  | a, b => match mlstOf S a, mlstOf S b with
    | some xs, some ys => if xs.length + ys.length ≤ sizeLine then mkL bx (xs ++ ys) S else .st
    | _, _ => .st
def vSub (v w : Val) (S : Sto) : Res Val := match v, w with
  | .int i, .int j => .ok (.int (i - j)) S
  | _, _ => .st
def vMul (v w : Val) (S : Sto) : Res Val := match v, w with
  | .int i, .int j => if (-(2 ^ 64) < i ∧ i < 2 ^ 64) ∨ (-(2 ^ 64) < j ∧ j < 2 ^ 64) then .ok (.int (i * j)) S else .st
  | _, _ => .st
def vFdiv (v w : Val) (S : Sto) : Res Val := match v, w with
  | .int i, .int j => if 0 < j ∧ j < 1073741824 then .ok (.int (i / j)) S else .st
  | _, _ => .st
def vMod (v w : Val) (S : Sto) : Res Val := match v, w with
  | .int i, .int j => if 0 < j then .ok (.int (i % j)) S else .st
  | _, _ => .st
def vPow (v w : Val) (S : Sto) : Res Val := match v, w with
  | .int i, .int j => if 0 ≤ j ∧ j ≤ 1000000 ∧ i.natAbs < 2 ^ 64 then .ok (.int (i ^ j.toNat)) S else .st
  | _, _ => .st
def vNeg (v : Val) (S : Sto) : Res Val := match v with
  | .int i => .ok (.int (-i)) S
  | _ => .st
def vLt (v w : Val) (S : Sto) : Res Val := match v, w with
  | .int i, .int j => .ok (.bl (decide (i < j))) S
  | _, _ => .st
def vLe (v w : Val) (S : Sto) : Res Val := match v, w with
  | .int i, .int j => .ok (.bl (decide (i ≤ j))) S
  | _, _ => .st
def vGt (v w : Val) (S : Sto) : Res Val := match v, w with
  | .int i, .int j => .ok (.bl (decide (j < i))) S
  | _, _ => .st
def vGe (v w : Val) (S : Sto) : Res Val := match v, w with
  | .int i, .int j => .ok (.bl (decide (j ≤ i))) S
  | _, _ => .st
def vEq (v w : Val) (S : Sto) : Res Val := match datS S v, datS S w with
  | some d, some e => if SeqAt.shaped d = true ∧ SeqAt.shaped e = true then .ok (.bl (PyData.eqv d e)) S else .st
  | _, _ => .st
def vNe (v w : Val) (S : Sto) : Res Val := match datS S v, datS S w with
  | some d, some e => if SeqAt.shaped d = true ∧ SeqAt.shaped e = true then .ok (.bl (!PyData.eqv d e)) S else .st
  | _, _ => .st
def vIsN (v w : Val) (S : Sto) : Res Val := match v, w with
  | .non, .non => .ok (.bl true) S
  | _, .non => .ok (.bl false) S
  | _, _ => .st
def vNotN (v w : Val) (S : Sto) : Res Val := match v, w with
  | .non, .non => .ok (.bl false) S
  | _, .non => .ok (.bl true) S
  | _, _ => .st
/-- an item of a list or tuple -/
def vIx (v w : Val) (S : Sto) : Res Val := match v, w with
  | .tup xs, .int i => match atI xs i with
    | some u => .ok u S
    | none => .st
  | a, .int i => match lstOf S a with
    | some xs => (match atI xs i with
      | some u => .ok u S
      | none => .st)
    | none => .st
  | _, _ => .st
theorem atI_ok {K : PySem.W.Frag} {T : Tbl} {W : Wd} {vs : List Val} {xs : List V} {i : Int} {u : Val} (r : VRs K T W vs xs) (e : atI vs i = some u) : ∃ y, atI xs i = some y ∧ VR K T W u y := by
  unfold atI at e ⊢
  rw [← r.length]
  cases q : ixN vs.length i with
  | none => rw [q] at e; cases e
  | some j =>
    rw [q] at e
    obtain ⟨y, h1, h2⟩ := r.get e
    exact ⟨y, h1, h2⟩
section
variable {K : PySem.W.Frag} {T : Tbl}
theorem o_int {g : Int → Int → V} {f : Int → Int → Val} {op : Val → Val → Sto → Res Val} (hg : ∀ W i j, VR K T W (f i j) (g i j))
    (h : ∀ v w S, (∃ i j, v = .int i ∧ w = .int j ∧ op v w S = .ok (f i j) S) ∨ op v w S = .st) : Op2 K T (rI0 g) op := by
  intro W S H v w x y Q PX s vx vy q
  rcases h v w S with ⟨i, j, rfl, rfl, e⟩ | e
  · rw [e] at q
    cases vx; cases vy
    exact ⟨i, j, rfl, rfl, q.now s _ (hg W i j)⟩
  · rw [e] at q; exact False.elim q
theorem o_intC {C : Int → Int → Prop} {g : Int → Int → V} {f : Int → Int → Val} {op : Val → Val → Sto → Res Val} (hg : ∀ W i j, VR K T W (f i j) (g i j))
    (h : ∀ v w S, (∃ i j, v = .int i ∧ w = .int j ∧ C i j ∧ op v w S = .ok (f i j) S) ∨ op v w S = .st) : Op2 K T (rI C g) op := by
  intro W S H v w x y Q PX s vx vy q
  rcases h v w S with ⟨i, j, rfl, rfl, c, e⟩ | e
  · rw [e] at q
    cases vx; cases vy
    exact ⟨i, j, rfl, rfl, c, q.now s _ (hg W i j)⟩
  · rw [e] at q; exact False.elim q
theorem o_sub : Op2 K T (rI0 fun i j => .int (i - j)) vSub := o_int (f := fun i j => .int (i - j)) (fun _ _ _ => .int _) fun v w S => by
  cases v <;> cases w <;> first | exact .inl ⟨_, _, rfl, rfl, rfl⟩ | exact .inr rfl
theorem o_lt : Op2 K T (rI0 fun i j => .bl (decide (i < j))) vLt := o_int (f := fun i j => .bl (decide (i < j))) (fun _ _ _ => .bl _) fun v w S => by
  cases v <;> cases w <;> first | exact .inl ⟨_, _, rfl, rfl, rfl⟩ | exact .inr rfl
theorem o_le : Op2 K T (rI0 fun i j => .bl (decide (i ≤ j))) vLe := o_int (f := fun i j => .bl (decide (i ≤ j))) (fun _ _ _ => .bl _) fun v w S => by
  cases v <;> cases w <;> first | exact .inl ⟨_, _, rfl, rfl, rfl⟩ | exact .inr rfl
theorem o_gt : Op2 K T (rI0 fun i j => .bl (decide (j < i))) vGt := o_int (f := fun i j => .bl (decide (j < i))) (fun _ _ _ => .bl _) fun v w S => by
  cases v <;> cases w <;> first | exact .inl ⟨_, _, rfl, rfl, rfl⟩ | exact .inr rfl
theorem o_ge : Op2 K T (rI0 fun i j => .bl (decide (j ≤ i))) vGe := o_int (f := fun i j => .bl (decide (j ≤ i))) (fun _ _ _ => .bl _) fun v w S => by
  cases v <;> cases w <;> first | exact .inl ⟨_, _, rfl, rfl, rfl⟩ | exact .inr rfl
theorem o_mul : Op2 K T (rI CMul fun i j => .int (i * j)) vMul := o_intC (f := fun i j => .int (i * j)) (fun _ _ _ => .int _) fun v w S => by
  cases v <;> cases w <;> first | exact .inr rfl | skip
  rename_i i j
  by_cases c : (-(2 ^ 64) < i ∧ i < 2 ^ 64) ∨ (-(2 ^ 64) < j ∧ j < 2 ^ 64)
  · exact .inl ⟨_, _, rfl, rfl, c, if_pos c⟩
  · exact .inr (if_neg c)
theorem o_fdiv : Op2 K T (rI CDiv fun i j => .int (i / j)) vFdiv := o_intC (f := fun i j => .int (i / j)) (fun _ _ _ => .int _) fun v w S => by
  cases v <;> cases w <;> first | exact .inr rfl | skip
  rename_i i j
  by_cases c : 0 < j ∧ j < 1073741824
  · exact .inl ⟨_, _, rfl, rfl, c, if_pos c⟩
  · exact .inr (if_neg c)
theorem o_mod : Op2 K T (rI (fun _ j => 0 < j) fun i j => .int (i % j)) vMod := o_intC (f := fun i j => .int (i % j)) (fun _ _ _ => .int _) fun v w S => by
  cases v <;> cases w <;> first | exact .inr rfl | skip
  rename_i i j
  by_cases c : 0 < j
  · exact .inl ⟨_, _, rfl, rfl, c, if_pos c⟩
  · exact .inr (if_neg c)
theorem o_pow : Op2 K T (rI CPow fun i j => .int (i ^ j.toNat)) vPow := o_intC (f := fun i j => .int (i ^ j.toNat)) (fun _ _ _ => .int _) fun v w S => by
  cases v <;> cases w <;> first | exact .inr rfl | skip
  rename_i i j
  by_cases c : 0 ≤ j ∧ j ≤ 1000000 ∧ i.natAbs < 2 ^ 64
  · exact .inl ⟨_, _, rfl, rfl, c, if_pos c⟩
  · exact .inr (if_neg c)
theorem o_neg : Op1 K T (rU fun i => .int (-i)) vNeg := by
  intro W S H v x Q PX s vx q
  cases vx with
  | int i => exact ⟨i, rfl, q.now s _ (.int _)⟩
  | _ => exact False.elim q
def rAddAll (K : PySem.W.Frag) : R2 := fun x y H Q => rI0 (fun i j => .int (i + j)) x y H Q ∨ (∃ i j, x = .str i ∧ y = .str j ∧ i.length + j.length ≤ sizeLine ∧ Q (.str (i ++ j)) H) ∨ rCatA K x y H Q ∨ rCat x y H Q
theorem add_all {X : Cx} : OpR X (binaryOp .Add) (rAddAll X.K) := OpR.or op_add (OpR.or op_add_str (OpR.or op_catA op_cat))
theorem o_add (bx : Bool) : Op2 K T (rAddAll K) (vAdd bx) := by
  intro W S H v w x y Q PX s vx vy q
  have lists : ∀ {a b : Val} {x y : V}, VR K T W a x → VR K T W b y → RP K T W (match mlstOf S a, mlstOf S b with
      | some xs, some ys => if xs.length + ys.length ≤ sizeLine then mkL bx (xs ++ ys) S else .st
      | _, _ => .st) (VP K T Q) PX → rAddAll K x y H Q := fun {a b x y} vx vy q => by
    cases ea : mlstOf S a with
    | none => simp only [ea] at q; exact False.elim q
    | some xs =>
      cases eb : mlstOf S b with
      | none => simp only [ea, eb] at q; exact False.elim q
      | some ys =>
        simp only [ea, eb] at q
        by_cases hz : xs.length + ys.length ≤ sizeLine
        · rw [if_pos hz] at q
          obtain ⟨a1, x1, rfl, h1, r1⟩ := mlstOf_ok s vx ea
          obtain ⟨a2, x2, rfl, h2, r2⟩ := mlstOf_ok s vy eb
          exact .inr (.inr (.inr ⟨a1, a2, x1, x2, rfl, rfl, h1, h2, by rw [← r1.length, ← r2.length]; exact hz, fun p hp => mkL_ok s (r1.append r2) hp q⟩))
        · rw [if_neg hz] at q; exact False.elim q
  cases v with
  | int i =>
    cases w with
    | int j => cases vx; cases vy; exact .inl ⟨i, j, rfl, rfl, q.now s _ (.int _)⟩
    | _ => exact lists vx vy q
  | str i =>
    cases w with
    | str j =>
      cases vx; cases vy
      unfold vAdd at q
      simp only at q
      by_cases hz : i.length + j.length ≤ sizeLine
      · rw [if_pos hz] at q
        exact .inr (.inl ⟨i, j, rfl, rfl, hz, q.now s _ (.str _)⟩)
      · rw [if_neg hz] at q; exact False.elim q
    | _ => exact lists vx vy q
  | tup xs =>
    cases w with
    | tup ys =>
      unfold vAdd at q
      simp only at q
      by_cases hz : xs.length + ys.length ≤ sizeLine
      · rw [if_pos hz] at q
        have vx' := vx
        have vy' := vy
        obtain ⟨a, x1, rfl, h1, r1⟩ := tup_ok s vx
        obtain ⟨b, y1, rfl, h2, r2⟩ := tup_ok s vy
        refine .inr (.inr (.inl ⟨a, b, x1, y1, rfl, rfl, h1, h2, by rw [← r1.length, ← r2.length]; exact hz, fun e => ?_, fun e1 e2 => ?_, fun e1 e2 p hp => ?_⟩))
        · subst e
          cases r1
          exact q.now s _ vy'
        · subst e2
          cases r2
          rw [List.append_nil] at q
          exact q.now s _ vx'
        · have l : WLe W (W.add p (.tup (x1 ++ y1))) := .add (s.free hp)
          exact q _ _ l (s.add hp) _ (.tup (.inl upd_same) ((r1.append r2).mono l))
      · rw [if_neg hz] at q; exact False.elim q
    | _ => exact lists vx vy q
  | _ => exact lists vx vy q
theorem o_eq : Op2 K T (rEqD K) vEq := by
  intro W S H v w x y Q PX s vx vy q
  unfold vEq at q
  cases e1 : datS S v with
  | none => simp only [e1] at q; exact False.elim q
  | some d =>
    cases e2 : datS S w with
    | none => simp only [e1, e2] at q; exact False.elim q
    | some e =>
      simp only [e1, e2] at q
      by_cases c : SeqAt.shaped d = true ∧ SeqAt.shaped e = true
      · rw [if_pos c] at q
        exact ⟨d, e, datS_ok s vx e1, datS_ok s vy e2, c.1, c.2, q.now s _ (.bl _)⟩
      · rw [if_neg c] at q; exact False.elim q
theorem o_ne : Op2 K T (rNeD K) vNe := by
  intro W S H v w x y Q PX s vx vy q
  unfold vNe at q
  cases e1 : datS S v with
  | none => simp only [e1] at q; exact False.elim q
  | some d =>
    cases e2 : datS S w with
    | none => simp only [e1, e2] at q; exact False.elim q
    | some e =>
      simp only [e1, e2] at q
      by_cases c : SeqAt.shaped d = true ∧ SeqAt.shaped e = true
      · rw [if_pos c] at q
        exact ⟨d, e, datS_ok s vx e1, datS_ok s vy e2, c.1, c.2, q.now s _ (.bl _)⟩
      · rw [if_neg c] at q; exact False.elim q
theorem o_isN : Op2 K T (fun x y H Q => y = .non ∧ Q (.bl (decide (x = .non))) H) vIsN := by
  intro W S H v w x y Q PX s vx vy q
  cases vy with
  | non =>
    refine ⟨rfl, ?_⟩
    cases vx <;> exact q.now s _ (.bl _)
  | _ => cases v <;> exact False.elim q
theorem o_notN : Op2 K T (fun x y H Q => y = .non ∧ Q (.bl (!decide (x = .non))) H) vNotN := by
  intro W S H v w x y Q PX s vx vy q
  cases vy with
  | non =>
    refine ⟨rfl, ?_⟩
    cases vx <;> exact q.now s _ (.bl _)
  | _ => cases v <;> exact False.elim q
theorem o_ix : Op2 K T (fun x y H Q => rIxL K x y H Q ∨ rIxT K x y H Q) vIx := by
  intro W S H v w x y Q PX s vx vy q
  have lists : ∀ {a : Val} {x : V} {i : Int}, VR K T W a x → RP K T W (match lstOf S a with
    | some xs => (match atI xs i with
      | some u => .ok u S
      | none => .st)
    | none => .st) (VP K T Q) PX → rIxL K x (.int i) H Q := fun {a x i} vx q => by
    cases ea : lstOf S a with
    | none => simp only [ea] at q; exact False.elim q
    | some xs =>
      simp only [ea] at q
      cases eb : atI xs i with
      | none => simp only [eb] at q; exact False.elim q
      | some u =>
        simp only [eb] at q
        obtain ⟨a1, x1, rfl, h1, r1⟩ := lstOf_ok s vx ea
        obtain ⟨y1, h2, r2⟩ := atI_ok r1 eb
        exact ⟨a1, x1, i, y1, rfl, rfl, h1, h2, q.now s _ r2⟩
  cases w with
  | int i =>
    cases vy
    cases v with
    | tup vs =>
      unfold vIx at q
      simp only at q
      cases eb : atI vs i with
      | none => simp only [eb] at q; exact False.elim q
      | some u =>
        simp only [eb] at q
        obtain ⟨a1, x1, rfl, h1, r1⟩ := tup_ok s vx
        obtain ⟨y1, h2, r2⟩ := atI_ok r1 eb
        exact .inr ⟨a1, x1, i, y1, rfl, rfl, h1, h2, q.now s _ r2⟩
    | _ => exact .inl (lists vx q)
  | _ => cases v <;> exact False.elim q
end
end PM

/-! PM, part e: defs, calls, instances, comprehensions -/
namespace PM
open PySem PySem.Spec L2

/-! ### a def -/
def spD (K : PySem.W.Frag) (T : Tbl) (n : Nat) (F : FM) : Sp := fun vs H Q E => ∃ W args S, args.length = n ∧ SR K T W S H ∧ VRs K T W args vs ∧ RP K T W (F args S) (VP K T Q) (fun H' c o => E c o H')
def runB (N : Nat) (b : SM) : FM := fun vs S => match b (vs.map Option.some ++ List.replicate (N - vs.length) none) S with
  | .nx _ S' => .ok .non S'
  | .rt v S' => .ok v S'
  | .ex c vs _ S' => .ex c vs S'
  | _ => .st
/-- what a body's context gives -/
structure Bd (X : Cx) (Ew : XW) (k : Nat) : Prop where
  hp : PassesOwn (model X.prog X.w) X.A X.env X.xe
  calm : X.calm = true
  room : Room k X.A
  tk : Takes X Ew
  nd : X.N.Nodup
theorem Bd.hu {X : Cx} {Ew : XW} {k : Nat} (h : Bd X Ew k) : X.A.units + 64 < cLine := h.room.units
theorem Bd.hu1 {X : Cx} {Ew : XW} {k : Nat} (h : Bd X Ew k) : X.A.units + 1 < cLine := Nat.lt_of_le_of_lt (Nat.add_le_add_left (by decide : 1 ≤ 64) _) h.room.units
theorem Bd.hu65 {X : Cx} {Ew : XW} {k : Nat} (h : Bd X Ew k) : X.A.units + 65 < cLine := by have := h.room.un; omega
theorem Bd.mono {X : Cx} {Ew : XW} {j k : Nat} (h : Bd X Ew k) (l : j ≤ k) : Bd X Ew j := ⟨h.hp, h.calm, h.room.mono l, h.tk, h.nd⟩
theorem Bd.blk {X : Cx} {Ew : XW} {k : Nat} (h : Bd X Ew k) (s : Shared) (H : Hp) (scope : Scope) (cenv : Env) (fp : List Addr) : Bd (X.blk s H scope cenv fp) XW0 k :=
  ⟨PassesOwn.never, h.calm, h.room, takes0, h.nd⟩
section
variable {P : Program} {w : World} {K : PySem.W.Frag} {mg : Str → Option Value} {base : Heap} {T : Tbl}
theorem read_body {n : Nat} {N : List Str} {b : SM} {vs : List V} {H : Hp} {Q : VK} {E : XK} (h : spD K T n (runB N.length b) vs H Q E) :
    rdS K T (fun c o _ H' => E c o H') b { nx := fun _ H' => Q .non H', rt := Q } (L2.start N vs) H := by
  obtain ⟨W, args, S, _, s, r, h⟩ := h
  refine ⟨W, _, S, s, ER.start (N := N) r, ?_⟩
  unfold runB at h
  cases q : b (args.map Option.some ++ List.replicate (N.length - args.length) none) S with
  | nx ρ S' => simp only [q] at h; exact fun W' H' σ' l s' e' => h W' H' l s' _ .non
  | rt v S' => simp only [q] at h; exact fun W' H' x l s' vx => h W' H' l s' _ vx
  | ex c vs ρ S' => simp only [q] at h; exact fun W' H' σ' cls od l s' e' x => h W' H' cls od l s' x
  | bk _ _ => simp only [q] at h; exact False.elim h
  | ct _ _ => simp only [q] at h; exact False.elim h
  | st => simp only [q] at h; exact False.elim h
theorem fn_ok {x qual : Str} {st : Stmt} {f : Addr} {fd : FuncData} {N ps : List Str} {k : Nat} {b : SM} (F : Fun K x qual st f fd) (S : FnScope N ps (defScope st))
    (hb : ∀ (cdv : Value) (A : Around) (outer : List Env) (s : Shared) (H : Hp) (E : XK), Bd (cxOf (L2.CX P w) P w K mg base N qual (defScope st) f cdv A outer s H E) (fun c o _ H' => E c o H') k →
      PBm T (cxOf (L2.CX P w) P w K mg base N qual (defScope st) f cdv A outer s H E) (fun c o _ H' => E c o H') (defBody st) b) :
    FnOk P w K mg base (L2.CX P w) (k + 1) f fd ps (spD K T ps.length (runB N.length b)) := by
  refine F.okX S (fun vs H Q E h => ?_) (fun cdv A outer s H vs Q E hr h => ⟨_, hb cdv A outer s H E ⟨passes_of rfl, rfl, hr, takes_of rfl rfl rfl rfl, S.nd⟩, read_body h⟩)
  obtain ⟨W, args, S, hl, _, r, _⟩ := h
  rw [← r.length, hl]
end

/-! ### calls -/
def eCallX (F : FM) (a : AM) : EM := fun ρ S => (a ρ S).bind fun vs S1 => F vs S1
def isInst (c : Nat) (S : Sto) (o : Val) : Bool := match insOf S o with
  | some (c', _) => c' == c
  | none => false
def eMeth (c : Nat) (F : FM) (o : EM) (a : AM) : EM := fun ρ S => (o ρ S).bind fun v S1 => if isInst c S1 v then (a ρ S1).bind fun vs S2 => noEx (F (v :: vs) S2) else .st
def eMethX (c : Nat) (F : FM) (o : EM) (a : AM) : EM := fun ρ S => (o ρ S).bind fun v S1 => if isInst c S1 v then (a ρ S1).bind fun vs S2 => F (v :: vs) S2 else .st
def eMake (c : Nat) (F : FM) (a : AM) : EM := fun ρ S => (a ρ S).bind fun vs S1 => (noEx (F (.loc S1.next :: vs) (S1.alloc (.ins c [])))).bind fun r S2 => match r with
  | .non => .ok (.loc S1.next) S2
  | _ => .st
def eMakeX (c : Nat) (F : FM) (a : AM) : EM := fun ρ S => (a ρ S).bind fun vs S1 => (F (.loc S1.next :: vs) (S1.alloc (.ins c []))).bind fun r S2 => match r with
  | .non => .ok (.loc S1.next) S2
  | _ => .st
/-- a store's object handed out for good -/
def giveUp (v : Val) (S : Sto) : Res Val := match v with
  | .loc k => match S.objs k with
    | some (.lst xs) => .ok (.lst xs) (S.drop k)
    | some (.dk false ks vs) => .ok (.dk ks vs) (S.drop k)
    | some (.dt false ks vs) => .ok (.dt ks vs) (S.drop k)
    | some (.ins c vs) => .ok (.ins c vs) (S.drop k)
    | _ => .st
  | v => .ok v S
def eFrz (f : EM) : EM := fun ρ S => (f ρ S).bind giveUp
/-- what is known of a class -/
structure CO (K : PySem.W.Frag) (T : Tbl) (c : Nat) (C : Addr) : Prop where
  at_ : T.cl c = some C
  cls : Cls K C
  nd : (T.fl c).Nodup
  na : ∀ f ∈ T.fl c, NoAttr K C f
  len : (T.fl c).length < 1000
theorem lookup_zip : ∀ {fs : List Str} {xs : List V} {i : Nat} {f : Str}, fs.Nodup → fs[i]? = some f → (fs.zip xs).lookup f = xs[i]?
  | [], _, _, _, _, h => by simp at h
  | _ :: _, [], i, _, _, _ => by simp
  | g :: fs, x :: xs, 0, f, nd, h => by
    simp only [List.getElem?_cons_zero, Option.some.injEq] at h
    subst h
    simp [List.lookup]
  | g :: fs, x :: xs, i + 1, f, nd, h => by
    have h' : fs[i]? = some f := by simpa using h
    have ne : f ≠ g := fun e => (List.nodup_cons.mp nd).1 (e ▸ List.mem_of_getElem? h')
    have hb : (f == g) = false := beq_eq_false_iff_ne.mpr ne
    simp only [List.zip_cons_cons, List.lookup, hb, List.getElem?_cons_succ]
    exact lookup_zip (List.nodup_cons.mp nd).2 h'
theorem lookup_none : ∀ {fs : List Str} {xs : List V} {f : Str}, f ∉ fs → (fs.zip xs).lookup f = none
  | [], _, _, _ => by simp
  | _ :: _, [], _, _ => by simp
  | g :: fs, x :: xs, f, h => by
    have hb : (f == g) = false := beq_eq_false_iff_ne.mpr fun e => h (by rw [e]; exact List.mem_cons_self)
    simp only [List.zip_cons_cons, List.lookup, hb]
    exact lookup_none fun z => h (List.mem_cons_of_mem _ z)
theorem putF_set : ∀ {fs : List Str} {xs : List V} {i : Nat} {f : Str} {y : V}, fs.Nodup → fs[i]? = some f → i < xs.length → putF f y (fs.zip xs) = fs.zip (xs.set i y)
  | [], _, _, _, _, _, h, _ => by simp at h
  | _ :: _, [], _, _, _, _, _, h => by simp at h
  | g :: fs, x :: xs, 0, f, y, nd, h, _ => by
    simp only [List.getElem?_cons_zero, Option.some.injEq] at h
    subst h
    simp [putF]
  | g :: fs, x :: xs, i + 1, f, y, nd, h, hi => by
    have h' : fs[i]? = some f := by simpa using h
    have ne : g ≠ f := fun e => (List.nodup_cons.mp nd).1 (e ▸ List.mem_of_getElem? h')
    have ih := putF_set (y := y) (List.nodup_cons.mp nd).2 h' (by simpa using hi)
    simp only [List.zip_cons_cons, putF, if_neg ne, List.set_cons_succ, ih]
theorem putF_new : ∀ {fs : List Str} {xs : List V} {f : Str} {y : V}, fs.Nodup → fs[xs.length]? = some f → putF f y (fs.zip xs) = fs.zip (xs ++ [y])
  | [], _, _, _, _, h => by simp at h
  | g :: fs, [], f, y, nd, h => by
    simp only [List.length_nil, List.getElem?_cons_zero, Option.some.injEq] at h
    subst h
    simp [putF]
  | g :: fs, x :: xs, f, y, nd, h => by
    have h' : fs[xs.length]? = some f := by simpa using h
    have ne : g ≠ f := fun e => (List.nodup_cons.mp nd).1 (e ▸ List.mem_of_getElem? h')
    have ih := putF_new (y := y) (List.nodup_cons.mp nd).2 h'
    simp only [List.zip_cons_cons, putF, if_neg ne, List.cons_append, ih]
def eAttr (c i : Nat) (o : EM) : EM := fun ρ S => (o ρ S).bind fun v S1 => match insOf S1 v with
  | some (c', vs) => if c' = c then (match vs[i]? with
    | some u => .ok u S1
    | none => .st) else .st
  | none => .st
def sAttr (c i : Nat) (o e : EM) : SM := fun ρ S => (e ρ S).toS ρ fun u S1 => (o ρ S1).toS ρ fun v S2 => match v with
  | .loc k => (match S2.objs k with
    | some (.ins c' vs) => if c' = c then (if i < vs.length then .nx ρ (S2.put k (.ins c (vs.set i u))) else if i = vs.length then .nx ρ (S2.put k (.ins c (vs ++ [u]))) else .st) else .st
    | _ => .st)
  | _ => .st

section
variable {T : Tbl} {X : Cx} {Ew : XW} {k : Nat} {f C : Addr} {fd : FuncData} {ps : List Str} {n : Nat} {F : FM} {x m fl : Str} {p pos apos : Pos} {e o value : Expr} {es : List Expr} {fo fe : EM} {fs : AM} {c i : Nat}
theorem spD_of {W : Wd} {S : Sto} {H : Hp} {args : List Val} {xs : List V} {Q : VK} {PX : Hp → Value → Option Addr → Prop} {E : XK} (s : SR X.K T W S H) (r : VRs X.K T W args xs) (hl : args.length = n) (h : RP X.K T W (F args S) (VP X.K T Q) PX) (hE : ∀ H' c o, PX H' c o → E c o H') :
    spD X.K T n F xs H Q E := ⟨W, args, S, hl, s, r, h.imp (fun _ _ _ _ _ _ q => q) hE⟩
theorem spD_no {W : Wd} {S : Sto} {H : Hp} {args : List Val} {xs : List V} {Q : VK} {PX : Hp → Value → Option Addr → Prop} (s : SR X.K T W S H) (r : VRs X.K T W args xs) (hl : args.length = n) (h : RP X.K T W (noEx (F args S)) (VP X.K T Q) PX) :
    spD X.K T n F xs H Q E0 := ⟨W, args, S, hl, s, r, h.noEx⟩
def eCallN (n : Nat) (F : FM) (a : AM) : EM := fun ρ S => (a ρ S).bind fun vs S1 => if vs.length = n then noEx (F vs S1) else .st
theorem m_call (G : FnOk X.prog X.w X.K X.mg X.base (L2.CX X.prog X.w) k f fd ps (spD X.K T n F)) (hr : Room k X.A) (hg : Gl X x) (hm : X.mg x = some (.ref f)) (hk : PySem.W.keepIn X.K (.ref f) = true) (hb : Binds X.K fd ps [])
    (ha : PAm T X Ew (e :: es) fs) (hdb : (x == ("__debug__" : Str)) = false := by decide) (he : starEach (e :: es) X.env = (false, eval e X.env) :: starEach es X.env := by rfl) (hpl : (backTo pos (starEach es X.env)).any (·.1) = false := by rfl) :
    PEm T X Ew (.Call (.Name x p) (e :: es) [] pos) (eCallN n F fs) := by
  refine PE.to (pe_call G hr hg hm hk hb .nil passL ha hdb he hpl) fun σ H Q h => ?_
  obtain ⟨W, ρ, S, s, er, h⟩ := h
  refine ⟨W, ρ, S, s, er, RP.bind h fun W1 S1 H1 vs l1 s1 h1 xs vx => ?_⟩
  show spD X.K T n F (xs ++ []) H1 Q E0
  rw [List.append_nil]
  by_cases hl : vs.length = n
  · rw [if_pos hl] at h1; exact spD_no s1 vx hl h1
  · rw [if_neg hl] at h1; exact False.elim h1
theorem m_call0 (G : FnOk X.prog X.w X.K X.mg X.base (L2.CX X.prog X.w) k f fd ps (spD X.K T n F)) (hr : Room k X.A) (hg : Gl X x) (hm : X.mg x = some (.ref f)) (hk : PySem.W.keepIn X.K (.ref f) = true) (hb : Binds X.K fd ps [])
    (hdb : (x == ("__debug__" : Str)) = false := by decide) : PEm T X Ew (.Call (.Name x p) [] [] pos) (eCallN n F aNil) := by
  refine PE.to (pe_call0 G hr hg hm hk hb .nil passL hdb) fun σ H Q h => ?_
  obtain ⟨W, ρ, S, s, er, h⟩ := h
  have h1 : RP X.K T W (if ([] : List Val).length = n then noEx (F [] S) else .st) (VP X.K T Q) (fun H' c o => Ew c o σ H') := h
  show spD X.K T n F [] H Q E0
  by_cases hl : ([] : List Val).length = n
  · rw [if_pos hl] at h1; exact spD_no s .nil hl h1
  · rw [if_neg hl] at h1; exact False.elim h1
/-- what is raised goes on -/
def eCallXN (n : Nat) (F : FM) (a : AM) : EM := fun ρ S => (a ρ S).bind fun vs S1 => if vs.length = n then F vs S1 else .st
theorem m_callX (tk : Takes X Ew) (G : FnOk X.prog X.w X.K X.mg X.base (L2.CX X.prog X.w) k f fd ps (spD X.K T n F)) (hr : Room k X.A) (hg : Gl X x) (hm : X.mg x = some (.ref f)) (hk : PySem.W.keepIn X.K (.ref f) = true) (hb : Binds X.K fd ps [])
    (ha : PAm T X Ew (e :: es) fs) (hdb : (x == ("__debug__" : Str)) = false := by decide) (he : starEach (e :: es) X.env = (false, eval e X.env) :: starEach es X.env := by rfl) (hpl : (backTo pos (starEach es X.env)).any (·.1) = false := by rfl) :
    PEm T X Ew (.Call (.Name x p) (e :: es) [] pos) (eCallXN n F fs) := by
  refine PE.to (pe_callS (E := WE Ew) G hr hg hm hk hb (fun σ => passAt tk σ) ha hdb he hpl) fun σ H Q h => ?_
  obtain ⟨W, ρ, S, s, er, h⟩ := h
  refine ⟨W, ρ, S, s, er, RP.bind h fun W1 S1 H1 vs l1 s1 h1 xs vx => ?_⟩
  by_cases hl : vs.length = n
  · rw [if_pos hl] at h1; exact spD_of s1 vx hl h1 fun _ _ _ q => q
  · rw [if_neg hl] at h1; exact False.elim h1
theorem isInst_ok {K : PySem.W.Frag} {W : Wd} {S : Sto} {H : Hp} {v : Val} {y : V} (O : CO K T c C) (s : SR K T W S H) (r : VR K T W v y) (h : isInst c S v = true) : ∃ a dx xs, y = .ref a ∧ H a = some (.ins C dx ((T.fl c).zip xs)) := by
  unfold isInst at h
  cases q : insOf S v with
  | none => simp only [q] at h; cases h
  | some z =>
    obtain ⟨c', vs⟩ := z
    simp only [q] at h
    obtain rfl : c' = c := by simpa using h
    obtain ⟨a, C', dx, xs, rfl, hc, _, hH, _⟩ := insOf_ok s r q
    rw [O.at_] at hc
    cases hc
    exact ⟨a, dx, xs, rfl, hH⟩
def eMethN (n c : Nat) (F : FM) (o : EM) (a : AM) : EM := fun ρ S => (o ρ S).bind fun v S1 => if isInst c S1 v then (a ρ S1).bind fun vs S2 => if (v :: vs).length = n then noEx (F (v :: vs) S2) else .st else .st
theorem m_meth {pl : Sem Bool} (O : CO X.K T c C) (hmn : m ∉ T.fl c) (ho : PEm T X Ew o fo) (hm : Meth X.K C m f) (G : FnOk X.prog X.w X.K X.mg X.base (L2.CX X.prog X.w) k f fd ps (spD X.K T n F)) (hr : Room k X.A) (hb : Binds X.K fd ps [])
    (ha : PAm T X Ew (e :: es) fs)
    (hst : starEach (e :: es) X.env = (false, eval e X.env) :: starEach es X.env := by rfl) (hpl : (backTo pos (starEach es X.env)).any (·.1) = false := by rfl)
    (ht : eval (.Call (.Attribute o m apos) (e :: es) [] pos) X.env = (do
      let ov ← eval o X.env
      standAt apos.atName
      let (f, first) ← holding [ov] (getMethod ov m pl)
      callWith pos f first (backTo pos (starEach (e :: es) X.env)) (backToKw pos (keywordEach [] X.env))) := by rfl) :
    PEm T X Ew (.Call (.Attribute o m apos) (e :: es) [] pos) (eMethN n c F fo fs) := by
  refine PE.to (pe_meth ho O.cls hm G hr hb .nil passL ha hst hpl ht) fun σ H Q h => ?_
  obtain ⟨W, ρ, S, s, er, h⟩ := h
  refine ⟨W, ρ, S, s, er, RP.bind h fun W1 S1 H1 v l1 s1 h1 y vy => ?_⟩
  cases hi : isInst c S1 v with
  | false => rw [hi] at h1; exact False.elim h1
  | true =>
    rw [hi, if_pos rfl] at h1
    obtain ⟨a, dx, xs, rfl, hH⟩ := isInst_ok O s1 vy hi
    refine ⟨a, dx, _, rfl, hH, lookup_none hmn, W1, ρ, S1, s1, er.mono l1, RP.bind h1 fun W2 S2 H2 vs l2 s2 h2 zs vz => ?_⟩
    show spD X.K T n F (.ref a :: (zs ++ [])) H2 Q E0
    rw [List.append_nil]
    by_cases hl : (v :: vs).length = n
    · rw [if_pos hl] at h2; exact spD_no s2 (.cons (vy.mono l2) vz) hl h2
    · rw [if_neg hl] at h2; exact False.elim h2
theorem m_meth0 {pl : Sem Bool} (O : CO X.K T c C) (hmn : m ∉ T.fl c) (ho : PEm T X Ew o fo) (hm : Meth X.K C m f) (G : FnOk X.prog X.w X.K X.mg X.base (L2.CX X.prog X.w) k f fd ps (spD X.K T n F)) (hr : Room k X.A) (hb : Binds X.K fd ps [])
    (ht : eval (.Call (.Attribute o m apos) [] [] pos) X.env = (do
      let ov ← eval o X.env
      standAt apos.atName
      let (f, first) ← holding [ov] (getMethod ov m pl)
      callWith pos f first (backTo pos (starEach [] X.env)) (backToKw pos (keywordEach [] X.env))) := by rfl) :
    PEm T X Ew (.Call (.Attribute o m apos) [] [] pos) (eMethN n c F fo aNil) := by
  refine PE.to (pe_meth0 ho O.cls hm G hr hb .nil passL ht) fun σ H Q h => ?_
  obtain ⟨W, ρ, S, s, er, h⟩ := h
  refine ⟨W, ρ, S, s, er, RP.bind h fun W1 S1 H1 v l1 s1 h1 y vy => ?_⟩
  cases hi : isInst c S1 v with
  | false => rw [hi] at h1; exact False.elim h1
  | true =>
    rw [hi, if_pos rfl] at h1
    obtain ⟨a, dx, xs, rfl, hH⟩ := isInst_ok O s1 vy hi
    have h2 : RP X.K T W1 (if [v].length = n then noEx (F [v] S1) else .st) (VP X.K T Q) (fun H' c o => Ew c o σ H') := h1
    refine ⟨a, dx, _, rfl, hH, lookup_none hmn, ?_⟩
    show spD X.K T n F [.ref a] H1 Q E0
    by_cases hl : [v].length = n
    · rw [if_pos hl] at h2; exact spD_no s1 (.cons vy .nil) hl h2
    · rw [if_neg hl] at h2; exact False.elim h2
def eMakeN (n c : Nat) (F : FM) (a : AM) : EM := fun ρ S => (a ρ S).bind fun vs S1 => if (Val.loc S1.next :: vs).length = n then (noEx (F (.loc S1.next :: vs) (S1.alloc (.ins c [])))).bind fun r S2 => (match r with
  | .non => .ok (.loc S1.next) S2
  | _ => .st) else .st
theorem m_make (O : CO X.K T c C) (M : Mk X.K C f) (G : FnOk X.prog X.w X.K X.mg X.base (L2.CX X.prog X.w) k f fd ps (spD X.K T n F)) (hr : Room (k + 1) X.A) (hg : Gl X x) (hm : X.mg x = some (.ref C)) (hb : Binds X.K fd ps [])
    (ha : PAm T X Ew (e :: es) fs) (hdb : (x == ("__debug__" : Str)) = false := by decide) (he : starEach (e :: es) X.env = (false, eval e X.env) :: starEach es X.env := by rfl) (hpl : (backTo pos (starEach es X.env)).any (·.1) = false := by rfl) :
    PEm T X Ew (.Call (.Name x p) (e :: es) [] pos) (eMakeN n c F fs) := by
  refine PE.to (pe_make M G hr hg hm hb .nil passL ha hdb he hpl) fun σ H Q h => ?_
  obtain ⟨W, ρ, S, s, er, h⟩ := h
  refine ⟨W, ρ, S, s, er, RP.bind h fun W1 S1 H1 vs l1 s1 h1 xs vx => fun q dx hq hdx hne => ?_⟩
  show spD X.K T n F (.ref q :: (xs ++ [])) (upd (upd H1 dx (.own q)) q (.ins C dx [])) (fun v H2 => v = .non ∧ Q (.ref q) H2) E0
  rw [List.append_nil]
  by_cases hl : (Val.loc S1.next :: vs).length = n
  · rw [if_pos hl] at h1
    have s2 := s1.beside (o := .own q) hdx
    have hq' : (upd H1 dx (.own q)) q = none := by rw [upd_ne hne.symm]; exact hq
    have s3 : SR X.K T (W1.box q) (S1.alloc (.ins c [])) (upd (upd H1 dx (.own q)) q (.ins C dx [])) :=
      s2.box (b := .ins c []) hq' ⟨C, dx, [], O.at_, Nat.zero_le _, by rw [upd_same]; simp, .nil⟩
    have vl : VR X.K T (W1.box q) (.loc S1.next) (.ref q) := by
      have z : VR X.K T (W1.box q) (.loc W1.n) (.ref ((W1.box q).m W1.n)) := .loc (Nat.lt_succ_self _)
      rw [Wd.box_at] at z
      rw [← s1.nx]; exact z
    refine spD_no (PX := fun H' c o => Ew c o σ H') s3 (.cons vl (vx.mono .box)) hl ?_
    refine RP.bind (h1.wle .box) fun W2 S2 H2 r l2 s4 h2 y vy => ?_
    cases vy with
    | non => exact ⟨rfl, h2.now s4 _ (vl.mono l2)⟩
    | _ => exact False.elim h2
  · rw [if_neg hl] at h1; exact False.elim h1
theorem m_frz (h : PEm T X Ew e fe) : PEm T X Ew e (eFrz fe) := by
  refine PE.to h fun σ H Q h => ?_
  obtain ⟨W, ρ, S, s, er, h⟩ := h
  refine ⟨W, ρ, S, s, er, RP.bind h fun W1 S1 H1 v l1 s1 h1 y vy => ?_⟩
  cases vy with
  | @loc k hk =>
    unfold giveUp at h1
    cases q : S1.objs k with
    | none => simp only [q] at h1; exact False.elim h1
    | some b =>
      have A := s1.at_ k b q
      cases b with
      | lst xs =>
        simp only [q] at h1
        obtain ⟨zs, hz, r⟩ := A
        have l : WLe W1 (W1.add (W1.m k) (.lst zs)) := .add (s1.out k _ q rfl)
        exact h1 _ _ l (s1.frz q hz) _ (.lst upd_same (r.mono l))
      | ins c vs =>
        simp only [q] at h1
        obtain ⟨C, dx, zs, hc, hl, hz, r⟩ := A
        have l : WLe W1 (W1.add (W1.m k) (.ins C dx ((T.fl c).zip zs))) := .add (s1.out k _ q rfl)
        exact h1 _ _ l (s1.frz q hz) _ (.ins hc hl upd_same (r.mono l))
      | dk lk ks vs =>
        cases lk with
        | true => simp only [q] at h1; exact False.elim h1
        | false =>
          simp only [q] at h1
          obtain ⟨zs, hl, hz, r⟩ := A
          rw [if_neg Bool.false_ne_true] at hz
          have l : WLe W1 (W1.add (W1.m k) (.dK (ks.zip zs))) := .add (s1.out k _ q rfl)
          exact h1 _ _ l (s1.frz q hz) _ (.dk hl upd_same (r.mono l))
      | dt lk ks vs =>
        cases lk with
        | true => simp only [q] at h1; exact False.elim h1
        | false =>
          simp only [q] at h1
          obtain ⟨zs, hl, hz, r⟩ := A
          rw [if_neg Bool.false_ne_true] at hz
          have l : WLe W1 (W1.add (W1.m k) (.dT (ks.zip zs))) := .add (s1.out k _ q rfl)
          exact h1 _ _ l (s1.frz q hz) _ (.dt hl upd_same (r.mono l))
  | non => exact h1.now s1 _ .non
  | bl b => exact h1.now s1 _ (.bl b)
  | int b => exact h1.now s1 _ (.int b)
  | str b => exact h1.now s1 _ (.str b)
  | ty b => exact h1.now s1 _ (.ty b)
  | tup h r => exact h1.now s1 _ (.tup h r)
  | lst h r => exact h1.now s1 _ (.lst h r)
  | fz h r => exact h1.now s1 _ (.fz h r)
  | dk a b c => exact h1.now s1 _ (.dk a b c)
  | dt a b c => exact h1.now s1 _ (.dt a b c)
  | ins a b c d => exact h1.now s1 _ (.ins a b c d)
  | cls a => exact h1.now s1 _ (.cls a)
  | err0 a b c => exact h1.now s1 _ (.err0 a b c)
  | errd a b c d r => exact h1.now s1 _ (.errd a b c d r)
theorem m_attr (O : CO X.K T c C) (hi : (T.fl c)[i]? = some fl) (ho : PEm T X Ew o fo) (hb : attributeBase o fl X.env (eval o X.env) = eval o X.env := by rfl) : PEm T X Ew (.Attribute o fl pos) (eAttr c i fo) := by
  refine PE.to (pe_fld ho hb) fun σ H Q h => ?_
  obtain ⟨W, ρ, S, s, er, h⟩ := h
  refine ⟨W, ρ, S, s, er, RP.bind h fun W1 S1 H1 v l1 s1 h1 y vy => ?_⟩
  cases q : insOf S1 v with
  | none => simp only [q] at h1; exact False.elim h1
  | some z =>
    obtain ⟨c', vs⟩ := z
    simp only [q] at h1
    by_cases hc : c' = c
    · subst hc
      rw [if_pos rfl] at h1
      cases q2 : vs[i]? with
      | none => simp only [q2] at h1; exact False.elim h1
      | some u =>
        simp only [q2] at h1
        obtain ⟨a, C', dx, xs, rfl, hcl, hle, hH, r⟩ := insOf_ok s1 vy q
        rw [O.at_] at hcl
        cases hcl
        obtain ⟨yu, e1, vu⟩ := r.get q2
        exact ⟨a, C, dx, _, yu, rfl, hH, O.cls, O.na _ (List.mem_of_getElem? hi), (lookup_zip O.nd hi).trans e1, h1.now s1 _ vu⟩
    · rw [if_neg hc] at h1; exact False.elim h1
theorem ms_attr {pos' : Pos} (O : CO X.K T c C) (hi : (T.fl c)[i]? = some fl) (ho : PEm T X Ew o fo) (hv : PEm T X Ew value fe) (hs : swapsWith value (some (.Attribute o fl pos')) pos.line X.env = pure false := by rfl) :
    PSm T X Ew (.Assign [.Attribute o fl pos'] value pos) (sAttr c i fo fe) := by
  refine PS.to (ps_fld ho hv hs) fun D σ H ⟨W, ρ, S, sr, er, h⟩ => ⟨W, ρ, S, sr, er, SPo.of er h fun W1 S1 H1 u l1 s1 h1 y vy => ⟨W1, ρ, S1, s1, er.mono l1, SPo.of (er.mono l1) h1 fun W2 S2 H2 v l2 s2 h2 z vz => ?_⟩⟩
  cases vz with
  | @loc k hk =>
    simp only at h2
    cases q : S2.objs k with
    | none => simp only [q] at h2; exact False.elim h2
    | some b =>
      cases b with
      | ins c' vs =>
        simp only [q] at h2
        by_cases hc : c' = c
        · subst hc
          rw [if_pos rfl] at h2
          obtain ⟨C', dx, xs, hcl, hle, hH, r⟩ := s2.at_ k _ q
          rw [O.at_] at hcl
          cases hcl
          have hlt := O.len
          refine ⟨_, C, dx, _, rfl, hH, O.cls, O.na _ (List.mem_of_getElem? hi), ?_, ?_⟩
          · rw [List.length_zip]; omega
          · by_cases h3 : i < vs.length
            · rw [if_pos h3] at h2
              have h3' : i < xs.length := by rw [← r.length]; exact h3
              refine h2 W2 _ σ (.refl _) (s2.put q ⟨C, dx, xs.set i y, O.at_, by rw [List.length_set]; exact hle, ?_, VRs.set (vy.mono l2) i r⟩) ((er.mono l1).mono l2)
              rw [upd_same, putF_set O.nd hi h3']
            · rw [if_neg h3] at h2
              by_cases h4 : i = vs.length
              · subst h4
                rw [if_pos rfl] at h2
                have hi' : (T.fl c')[xs.length]? = some fl := by rw [← r.length]; exact hi
                refine h2 W2 _ σ (.refl _) (s2.put q ⟨C, dx, xs ++ [y], O.at_, ?_, ?_, r.append (.cons (vy.mono l2) .nil)⟩) ((er.mono l1).mono l2)
                · have := (List.getElem?_eq_some_iff.mp hi').1
                  rw [List.length_append, List.length_singleton]; omega
                · rw [upd_same, putF_new O.nd hi']
              · rw [if_neg h4] at h2; exact False.elim h2
        · rw [if_neg hc] at h2; exact False.elim h2
      | _ => simp only [q] at h2; exact False.elim h2
  | _ => exact False.elim h2
end

/-! ### built-ins -/
section
variable {T : Tbl} {X : Cx} {Ew : XW} {x : Str} {p pos apos cpos : Pos} {e o : Expr} {es : List Expr} {fo : EM} {fs : AM} {id Ty : String} {r : List V → Hp → VK → Prop} {op : List Val → Sto → Res Val}
theorem rd_L (ok : OpL X.K T r op) {σ : L2.St} {H : Hp} {Q : VK} (h : rdE X.K T Ew (eBI op fs) σ H Q) : tCB r (rdA X.K T Ew fs) σ H Q := by
  obtain ⟨W, ρ, S, s, er, h⟩ := h
  exact ⟨W, ρ, S, s, er, RP.bind h fun W1 S1 H1 vs l1 s1 h1 xs vx => ok W1 S1 H1 vs xs Q _ s1 vx h1⟩
theorem m_callB (hc : CallR X (.builtin id) r) (ok : OpL X.K T r op) (hg : Gl X x) (hm : X.mg x = none) (hv : bootBuiltins x = some (.builtin id)) (ha : PAm T X Ew (e :: es) fs) (hn : x ≠ "__name__" := by decide) (hdb : (x == ("__debug__" : Str)) = false := by decide)
    (he : starEach (e :: es) X.env = (false, eval e X.env) :: starEach es X.env := by rfl) (hpl : (backTo pos (starEach es X.env)).any (·.1) = false := by rfl) : PEm T X Ew (.Call (.Name x p) (e :: es) [] pos) (eBI op fs) :=
  PE.to (pe_callB hc hg hm hv ha hn hdb he hpl) fun _ _ _ h => rd_L ok h
theorem m_callTy (hc : CallR X (.type Ty) r) (ok : OpL X.K T r op) (hg : Gl X x) (hm : X.mg x = none) (hv : bootBuiltins x = some (.type Ty)) (ha : PAm T X Ew (e :: es) fs) (hn : x ≠ "__name__" := by decide) (hdb : (x == ("__debug__" : Str)) = false := by decide)
    (he : starEach (e :: es) X.env = (false, eval e X.env) :: starEach es X.env := by rfl) (hpl : (backTo pos (starEach es X.env)).any (·.1) = false := by rfl) : PEm T X Ew (.Call (.Name x p) (e :: es) [] pos) (eBI op fs) :=
  PE.to (pe_callTy hc hg hm hv ha hn hdb he hpl) fun _ _ _ h => rd_L ok h
def OpM (K : PySem.W.Frag) (T : Tbl) (r : V → List V → Hp → VK → Prop) (op : Val → List Val → Sto → Res Val) : Prop := ∀ W S H v y vs xs (Q : VK) (PX : Hp → Value → Option Addr → Prop), SR K T W S H → VR K T W v y → VRs K T W vs xs →
  RP K T W (op v vs S) (VP K T Q) PX → r y xs H Q
def eBM (chk : Val → Sto → Bool) (op : Val → List Val → Sto → Res Val) (o : EM) (a : AM) : EM := fun ρ S => (o ρ S).bind fun v S1 => if chk v S1 then (a ρ S1).bind fun vs S2 => op v vs S2 else .st
theorem m_bm {name : Str} {rm : V → List V → Hp → VK → Prop} {chk : Val → Sto → Bool} {om : Val → List Val → Sto → Res Val} (pa : PlainAttrs Ty) (slot : Slot Ty name id) (hty : typeOf (.builtin id) = pure (.type "method_descriptor")) (hm : MtR X id rm)
    (hck : ∀ W S H v y, SR X.K T W S H → VR X.K T W v y → chk v S = true → tyV X.K Ty y H) (ok : OpM X.K T rm om) (ho : PEm T X Ew o fo) (ha : PAm T X Ew (e :: es) fs)
    (hbase : attributeBase o name X.env (eval o X.env) = eval o X.env := by rfl)
    (hfew : ((backTo cpos (starEach (e :: es) X.env)).all (fun x => !x.1) && (backToKw cpos (keywordEach [] X.env)).all (fun x => x.1.isSome)
      && decide ((e :: es).length + ([] : List Keyword).length + (if ([] : List Keyword).isEmpty then 0 else 1) < 30)) = true := by rfl)
    (hline : (apos.endLine == cpos.line) = true := by rfl) (hs : starEach (e :: es) X.env = (false, eval e X.env) :: starEach es X.env := by rfl) (hplain : (backTo cpos (starEach es X.env)).any (·.1) = false := by rfl) :
    PEm T X Ew (.Call (.Attribute o name apos) (e :: es) [] cpos) (eBM chk om fo fs) := by
  refine PE.to (pe_bm pa slot hty hm ho ha hbase hfew hline hs hplain) fun σ H Q h => ?_
  obtain ⟨W, ρ, S, s, er, h⟩ := h
  refine ⟨W, ρ, S, s, er, RP.bind h fun W1 S1 H1 v l1 s1 h1 y vy => ?_⟩
  cases hc : chk v S1 with
  | false => rw [hc] at h1; exact False.elim h1
  | true =>
    rw [hc, if_pos rfl] at h1
    exact ⟨hck W1 S1 H1 v y s1 vy hc, W1, ρ, S1, s1, er.mono l1, RP.bind h1 fun W2 S2 H2 vs l2 s2 h2 xs vx => ok W2 S2 H2 v y vs xs Q _ s2 (vy.mono l2) vx h2⟩
end

/-! ### list comprehensions -/
open Classical in
noncomputable def lcGo (src : Sto → Prop) (tg : Tgt) (tst : BM) (elt : EM) (n0 : Nat) (ρ0 : Ev) : List Val → Sto → Res Unit
  | [], S => if src S then .ok () S else .st
  | v :: vs, S => if src S then (match tg.set v ρ0 with
      | some ρ1 => (noEx (tst ρ1 S)).bind fun k S1 => if k then (noEx (elt ρ1 S1)).bind fun u S2 => (match S2.objs n0 with
          | some (.lst acc) => if acc.length < sizeLine then lcGo src tg tst elt n0 ρ0 vs (S2.put n0 (.lst (acc ++ [u]))) else .st
          | _ => .st) else lcGo src tg tst elt n0 ρ0 vs S1
      | none => .st) else .st
def lcEnd (bx : Bool) (n0 : Nat) (S : Sto) : Res Val := match S.objs n0 with
  | some (.lst acc) => if bx then .ok (.loc n0) S else .ok (.lst acc) (S.drop n0)
  | _ => .st
noncomputable def eLc (bx : Bool) (it : IM) (tg : Tgt) (tst : BM) (elt : EM) (ws : List Nat) : EM := fun ρ S => (it ρ S).bind fun iv S1 =>
  (lcGo iv.src tg tst elt S1.next (wipeE ρ ws) iv.items (S1.alloc (.lst []))).bind fun _ S2 => lcEnd bx S1.next S2
def tYesM : BM := fun _ S => .ok true S
section
variable {T : Tbl} {X : Cx} {Ew : XW} {elt tgE iter c : Expr} {ifs : List Expr} {scope : Scope} {own : List (Str × Nat)} {pos : Pos} {it : IM} {tg : Tgt} {tst : BM} {fe : EM} {bx : Bool}
theorem rd_lc (hsl : ∀ i ∈ tg.slots, i ∈ own.map (·.2)) {σ : L2.St} {H : Hp} {Q : VK} (h : rdE X.K T Ew (eLc bx it tg tst fe (own.map (·.2))) σ H Q) :
    tLc (rdI X.K T Ew it) (tg.g X.K) (rdT X.K T XW0 tst) (rdE X.K T XW0 fe) (own.map (·.2)) σ H Q := by
  obtain ⟨W, ρ, S, sr, er, h⟩ := h
  refine ⟨W, ρ, S, sr, er, RP.bind h fun W1 S1 H1 iv l1 s1 h1 J hJ D hD => ?_⟩
  have sB : SR X.K T (W1.box D) (S1.alloc (.lst [])) (upd H1 D (.lst [])) := s1.box (b := .lst []) hD ⟨[], upd_same, .nil⟩
  have eD : (W1.box D).m S1.next = D := by rw [← s1.nx]; exact Wd.box_at
  have lD : S1.next < (W1.box D).n := by rw [← s1.nx]; exact Nat.lt_succ_self _
  refine ⟨fun i m H => ∃ W S rest, iv.items.drop i = rest ∧ m = rest.length ∧ WLe (W1.box D) W ∧ SR X.K T W S H ∧
      RP X.K T W ((lcGo iv.src tg tst fe S1.next (wipeE ρ (own.map (·.2))) rest S).bind fun _ S2 => lcEnd bx S1.next S2) (VP X.K T Q) (fun H' c o => Ew c o σ H'),
    ⟨_, W1.box D, _, iv.items, rfl, rfl, .refl _, sB, h1.wle .box⟩, fun i m H hW => ?_⟩
  obtain ⟨W, S, rest, hd, rfl, lw, sr, h⟩ := hW
  have wD : W.m S1.next = D := (lw.eq _ lD).trans eD
  cases rest with
  | nil =>
    unfold lcGo at h
    by_cases hsrc : iv.src S
    · rw [if_pos hsrc] at h
      have hn : iv.items[i]? = none := List.getElem?_eq_none (by simpa using hd)
      refine .inl ⟨(hJ W S H (.trans .box lw) sr hsrc i).2 hn, ?_⟩
      have h' : RP X.K T W (lcEnd bx S1.next S) (VP X.K T Q) (fun H' c o => Ew c o σ H') := h
      unfold lcEnd at h'
      cases q : S.objs S1.next with
      | none => simp only [q] at h'; exact False.elim h'
      | some b =>
        cases b with
        | lst acc =>
          simp only [q] at h'
          obtain ⟨xs, hx, r⟩ := sr.at_ _ _ q
          cases bx with
          | true =>
            rw [if_pos rfl] at h'
            have z : VR X.K T W (.loc S1.next) (.ref (W.m S1.next)) := .loc (Nat.lt_of_lt_of_le lD lw.le)
            rw [wD] at z
            exact h'.now sr _ z
          | false =>
            rw [if_neg Bool.false_ne_true] at h'
            have l : WLe W (W.add (W.m S1.next) (.lst xs)) := .add (sr.out _ _ q rfl)
            have z : VR X.K T (W.add (W.m S1.next) (.lst xs)) (.lst acc) (.ref (W.m S1.next)) := .lst upd_same (r.mono l)
            have r' := h' _ _ l (sr.frz q hx) _ z
            rw [wD] at r'
            exact r'
        | _ => simp only [q] at h'; exact False.elim h'
    · rw [if_neg hsrc] at h; exact False.elim h
  | cons v vs =>
    unfold lcGo at h
    by_cases hsrc : iv.src S
    · rw [if_pos hsrc] at h
      have hv : iv.items[i]? = some v := by
        have := congrArg (·[0]?) hd
        simpa using this
      have hd' : iv.items.drop (i + 1) = vs := by
        have := congrArg List.tail hd
        simpa using this
      obtain ⟨go, yl⟩ := (hJ W S H (.trans .box lw) sr hsrc i).1 v hv
      refine .inr ⟨go, _, fun H' z => ⟨vs.length, Nat.lt_succ_self _, z⟩, fun x H' y => ?_⟩
      obtain ⟨W2, l2, s2, vx⟩ := yl x H' y
      cases q : tg.set v (wipeE ρ (own.map (·.2))) with
      | none => rw [q] at h; exact False.elim h
      | some ρ1 =>
        rw [q] at h
        have er2 : ER X.K T W2 (wipeE ρ (own.map (·.2))) (L2.wipe σ (own.map (·.2))) := ((er.mono l1).mono (.trans .box (lw.trans l2))).wipe _
        refine Tgt.ok (ws := own.map (·.2)) s2.sub tg vx er2 q fun σ' e' w' => ⟨?_, ?_⟩
        · rw [w' hsl]
          apply List.ext_getElem?
          intro j
          rw [wipe_get, wipe_get]
          rw [wipe_length]
          by_cases hj : j ∈ own.map (·.2) ∧ j < σ.length
          · rw [if_pos hj, if_pos hj]
          · rw [if_neg hj, if_neg hj]
        have h' : RP X.K T W2 ((noEx (tst ρ1 S)).bind fun k S1' => (if k then (noEx (fe ρ1 S1')).bind fun u S2 => (match S2.objs S1.next with
          | some (.lst acc) => if acc.length < sizeLine then lcGo iv.src tg tst fe S1.next (wipeE ρ (own.map (·.2))) vs (S2.put S1.next (.lst (acc ++ [u]))) else .st
          | _ => .st) else lcGo iv.src tg tst fe S1.next (wipeE ρ (own.map (·.2))) vs S1').bind fun _ S2 => lcEnd bx S1.next S2) (VP X.K T Q) (fun H' c o => Ew c o σ H') := by
          have hh := h.wle l2
          cases qt : noEx (tst ρ1 S) with
          | ok k S' => simp only [qt, Res.bind] at hh ⊢; exact hh
          | ex c vs S' => simp only [qt, Res.bind] at hh ⊢; exact hh
          | st => simp only [qt, Res.bind] at hh ⊢; exact hh
        refine ⟨W2, ρ1, S, s2, e', (RP.bind h' fun W3 S3 H3 k l3 s3 h3 => ?_ : RP X.K T W2 (noEx (tst ρ1 S)) _ (fun H' c o => Ew c o σ H')).noEx⟩
        have lw3 : WLe (W1.box D) W3 := lw.trans (l2.trans l3)
        cases k with
        | false =>
          dsimp only at h3 ⊢
          rw [if_neg Bool.false_ne_true] at h3 ⊢
          exact ⟨W3, S3, vs, hd', rfl, lw3, s3, h3⟩
        | true =>
          dsimp only at h3 ⊢
          rw [if_pos rfl] at h3 ⊢
          have h4 : RP X.K T W3 ((noEx (fe ρ1 S3)).bind fun u S2 => (match S2.objs S1.next with
            | some (.lst acc) => if acc.length < sizeLine then lcGo iv.src tg tst fe S1.next (wipeE ρ (own.map fun (p : Str × Nat) => p.2)) vs (S2.put S1.next (.lst (acc ++ [u]))) else .st
            | _ => .st).bind fun _ S2 => lcEnd bx S1.next S2) (VP X.K T Q) (fun H' c o => Ew c o σ H') := by
            cases qt : noEx (fe ρ1 S3) with
            | ok k S' => simp only [qt, Res.bind] at h3 ⊢; exact h3
            | ex c vs S' => simp only [qt, Res.bind] at h3 ⊢; exact h3
            | st => simp only [qt, Res.bind] at h3 ⊢; exact h3
          refine ⟨W3, ρ1, S3, s3, e'.mono l3, (RP.bind h4 fun W4 S4 H4 u l4 s4 h5 yv vu => ?_ : RP X.K T W3 (noEx (fe ρ1 S3)) _ (fun H' c o => Ew c o σ H')).noEx⟩
          have lw4 : WLe (W1.box D) W4 := lw3.trans l4
          have wD4 : W4.m S1.next = D := (lw4.eq _ lD).trans eD
          cases q5 : S4.objs S1.next with
          | none => simp only [q5] at h5; exact False.elim h5
          | some b =>
            cases b with
            | lst acc =>
              simp only [q5] at h5
              by_cases hz : acc.length < sizeLine
              · rw [if_pos hz] at h5
                obtain ⟨xs, hx, r⟩ := s4.at_ _ _ q5
                rw [wD4] at hx
                refine ⟨xs, hx, by rw [← r.length]; exact hz, W4, S4.put S1.next (.lst (acc ++ [u])), vs, hd', rfl, lw4, ?_, h5⟩
                have sp := s4.put (o := .lst (xs ++ [yv])) (b' := .lst (acc ++ [u])) q5 ⟨xs ++ [yv], upd_same, r.append (.cons vu .nil)⟩
                rw [wD4] at sp
                exact sp
              · rw [if_neg hz] at h5; exact False.elim h5
            | _ => simp only [q5] at h5; exact False.elim h5
    · rw [if_neg hsrc] at h; exact False.elim h
theorem mts_nil : PTs X [] (rdT X.K T XW0 tYesM) := ⟨fun pins s σ H Q I h => pts_nil.run pins s σ H Q I (by
  obtain ⟨W, ρ, S, sr, er, h⟩ := h
  exact h.now sr)⟩
theorem mts_one (h : PTm T X XW0 c tst) : PTs X [c] (rdT X.K T XW0 tst) := pts_one h
theorem m_lc (hc : X.calm = true) (hN : X.N.Nodup) (hi : PIm T X Ew tgE iter it) (ok : BlkOk X.N X.env.scope scope own) (hsl : ∀ i ∈ tg.slots, i ∈ own.map (·.2))
    (hg : ∀ (s : Shared) (H : Hp) (C : Addr) (cl : List (Str × Addr)) (fp : List Addr), PG (X.blk s H scope (compEnvC scope cl C X.env) fp) tgE (tg.g X.K)) (ht : ∀ (s : Shared) (H : Hp) (C : Addr) (cl : List (Str × Addr)) (fp : List Addr), PTs (X.blk s H scope (compEnvC scope cl C X.env) fp) ifs (rdT X.K T XW0 tst))
    (he : ∀ (s : Shared) (H : Hp) (C : Addr) (cl : List (Str × Addr)) (fp : List Addr), PEm T (X.blk s H scope (compEnvC scope cl C X.env) fp) XW0 elt fe) (hs : ∀ x, foldedSetIterable iter X.env x = pure x := by intro _; rfl) :
    PEm T X Ew (.ListComp elt [⟨tgE, iter, ifs, 0⟩] scope pos) (eLc bx it tg tst fe (own.map (·.2))) :=
  PE.to (pe_lc hc hN hi ok hg ht he hs) fun _ _ _ h => rd_lc hsl h
/-- name = [..] where the name is stored within the comprehension's frame -/
theorem ms_setLc {i : Nat} {y : Str} {py : Pos} {spos : Pos} (hc : X.calm = true) (hN : X.N.Nodup) (hy : X.N[i]? = some y) (hyl : X.env.scope.names.lookup y = some .local)
    (hsw : swapsWith (.ListComp elt [⟨tgE, iter, ifs, 0⟩] scope pos) (some (.Name y py)) spos.line X.env = pure true) (hi : PIm T X Ew tgE iter it) (ok : BlkOk X.N X.env.scope scope own) (hsl : ∀ i ∈ tg.slots, i ∈ own.map (·.2))
    (hg : ∀ (s : Shared) (H : Hp) (C : Addr) (cl : List (Str × Addr)) (fp : List Addr), PG (X.blk s H scope (compEnvC scope cl C X.env) fp) tgE (tg.g X.K)) (ht : ∀ (s : Shared) (H : Hp) (C : Addr) (cl : List (Str × Addr)) (fp : List Addr), PTs (X.blk s H scope (compEnvC scope cl C X.env) fp) ifs (rdT X.K T XW0 tst))
    (he : ∀ (s : Shared) (H : Hp) (C : Addr) (cl : List (Str × Addr)) (fp : List Addr), PEm T (X.blk s H scope (compEnvC scope cl C X.env) fp) XW0 elt fe) (hs : ∀ x, foldedSetIterable iter X.env x = pure x := by intro _; rfl) :
    PSm T X Ew (.Assign [.Name y py] (.ListComp elt [⟨tgE, iter, ifs, 0⟩] scope pos) spos) (sSet i (eLc bx it tg tst fe (own.map (·.2)))) := by
  refine PS.to (ps_setLc (te := rdE X.K T XW0 fe) hc hN hy hyl hsw hi ok hg ht he hs) fun D σ H ⟨W, ρ, S, sr, er, h⟩ => ?_
  refine rd_lc (Ew := Ew) (bx := bx) hsl ⟨W, ρ, S, sr, er, SPo.of er h fun W1 S1 H1 v l s1 h1 x vx => ?_⟩
  exact h1 W1 H1 _ (.refl _) s1 ((er.mono l).set vx)
end
end PM

/-! PM, part f: what is walked, built-in functions and methods -/
namespace PM
open PySem PySem.Spec L2

/-! ### iterators -/
def seqIt (v : Val) (S : Sto) : Res ItV := match v with
  | .tup xs => .ok ⟨xs, fun _ => True⟩ S
  | .lst xs => .ok ⟨xs, fun _ => True⟩ S
  | .fz xs => .ok ⟨xs, fun _ => True⟩ S
  | .loc k => match S.objs k with
    | some (.lst xs) => .ok ⟨xs, fun S' => S'.objs k = some (.lst xs)⟩ S
    | _ => .st
  | _ => .st
def iSeq (f : EM) : IM := fun ρ S => (f ρ S).bind seqIt
def rangeL (lo : Int) (n : Nat) : List Val := (List.range n).map fun (i : Nat) => Val.int (lo + (i : Int))
def iRange1 (a : EM) : IM := fun ρ S => (a ρ S).bind fun v S1 => match v with
  | .int j => if -(2 ^ 62) ≤ j ∧ j < 2 ^ 62 then .ok ⟨rangeL 0 j.toNat, fun _ => True⟩ S1 else .st
  | _ => .st
def iRange2 (a b : EM) : IM := fun ρ S => (a ρ S).bind fun v S1 => (b ρ S1).bind fun w S2 => match v, w with
  | .int i, .int j => if -(2 ^ 62) ≤ i ∧ i < 2 ^ 62 ∧ -(2 ^ 62) ≤ j ∧ j < 2 ^ 62 then .ok ⟨rangeL i (j - i).toNat, fun _ => True⟩ S2 else .st
  | _, _ => .st
def iRev (f : EM) : IM := fun ρ S => (f ρ S).bind fun v S1 => match v with
  | .lst xs => .ok ⟨xs.reverse, fun _ => True⟩ S1
  | .fz xs => .ok ⟨xs.reverse, fun _ => True⟩ S1
  | .loc k => (match S1.objs k with
    | some (.lst xs) => .ok ⟨xs.reverse, fun S' => S'.objs k = some (.lst xs)⟩ S1
    | _ => .st)
  | _ => .st
def zipE (vs : List Val) : List Val := vs.zipIdx.map fun p => Val.tup [.int (p.2 : Nat), p.1]
def iEnumM (f : EM) : IM := fun ρ S => (f ρ S).bind fun v S1 => match v with
  | .lst xs => .ok ⟨zipE xs, fun _ => True⟩ S1
  | .fz xs => .ok ⟨zipE xs, fun _ => True⟩ S1
  | .loc k => (match S1.objs k with
    | some (.lst xs) => .ok ⟨zipE xs, fun S' => S'.objs k = some (.lst xs)⟩ S1
    | _ => .st)
  | _ => .st
section
variable {K : PySem.W.Frag} {T : Tbl} {W : Wd} {S : Sto} {H : Hp}
/-- a readable list: by a fixed one, or by the store -/
theorem list_src (s : SR K T W S H) {v : Val} {x : V} (r : VR K T W v x) {xs : List Val} {src : Sto → Prop}
    (h : (v = .lst xs ∧ src = fun _ => True) ∨ (v = .fz xs ∧ src = fun _ => True) ∨ ∃ k, v = .loc k ∧ S.objs k = some (.lst xs) ∧ src = fun S' => S'.objs k = some (.lst xs)) :
    ∃ a, x = .ref a ∧ (∃ ys, SqL K H a ys ∧ ys.length = xs.length) ∧ ∀ W' S' H', WLe W W' → SR K T W' S' H' → src S' → ∃ ys, SqL K H' a ys ∧ VRs K T W' xs ys := by
  rcases h with ⟨rfl, rfl⟩ | ⟨rfl, rfl⟩ | ⟨k, rfl, e, rfl⟩
  · cases r with
    | lst h r => exact ⟨_, rfl, ⟨_, .inl (.inl (s.sub _ _ h)), r.length.symm⟩, fun W' S' H' l s' _ => ⟨_, .inl (.inl (s'.sub _ _ (l.sub _ _ h))), r.mono l⟩⟩
  · cases r with
    | fz h r => exact ⟨_, rfl, ⟨_, SqL_mono s.sub h, r.length.symm⟩, fun W' S' H' l s' _ => ⟨_, SqL_mono (fun a o q => s'.sub a o (l.sub a o q)) h, r.mono l⟩⟩
  · cases r with
    | loc hk =>
      obtain ⟨ys, hy, r⟩ := locLst s e
      refine ⟨_, rfl, ⟨ys, .inl (.inl hy), r.length.symm⟩, fun W' S' H' l s' e' => ?_⟩
      obtain ⟨zs, hz, r'⟩ := locLst s' e'
      rw [l.eq k hk] at hz
      exact ⟨zs, .inl (.inl hz), r'⟩
theorem itl_ok {a : Addr} {xs : List Val} {src : Sto → Prop} (h : ∀ W' S' H', WLe W W' → SR K T W' S' H' → src S' → ∃ ys, SqL K H' a ys ∧ VRs K T W' xs ys) : ItOk K T W ⟨xs, src⟩ (Itl K a) := by
  intro W' S' H' l s' hs i
  obtain ⟨ys, hy, r⟩ := h W' S' H' l s' hs
  refine ⟨fun v hv => ?_, fun hn => ⟨ys, hy, ?_⟩⟩
  · obtain ⟨y, e, vy⟩ := r.get hv
    refine ⟨⟨ys, y, hy, e⟩, fun x H'' q => ?_⟩
    obtain ⟨rfl, q⟩ := q
    have := q ys hy
    rw [e] at this
    cases this
    exact ⟨W', .refl _, s', vy⟩
  · rw [← r.length]
    exact List.getElem?_eq_none_iff.mp hn
theorem itt_ok {a : Addr} {xs : List Val} {ys : List V} (hy : SqT K W.I a ys) (r : VRs K T W xs ys) : ItOk K T W ⟨xs, fun _ => True⟩ (Itt K a) := by
  intro W' S' H' l s' hs i
  have hy' : SqT K H' a ys := SqT_mono (fun a o q => s'.sub a o (l.sub a o q)) hy
  refine ⟨fun v hv => ?_, fun hn => ⟨ys, hy', ?_⟩⟩
  · obtain ⟨y, e, vy⟩ := r.get hv
    refine ⟨⟨ys, y, hy', e⟩, fun x H'' q => ?_⟩
    obtain ⟨rfl, q⟩ := q
    have := q ys hy'
    rw [e] at this
    cases this
    exact ⟨W', .refl _, s', vy.mono l⟩
  · rw [← r.length]
    exact List.getElem?_eq_none_iff.mp hn
theorem rangeL_get (lo : Int) (n i : Nat) : (rangeL lo n)[i]? = if i < n then some (.int (lo + (i : Int))) else none := by
  unfold rangeL
  rw [List.getElem?_map]
  by_cases h : i < n
  · rw [List.getElem?_range h, if_pos h]; rfl
  · rw [List.getElem?_eq_none (by rw [List.length_range]; omega), if_neg h]; rfl
theorem itr_ok (lo : Int) (n : Nat) : ItOk K T W ⟨rangeL lo n, fun _ => True⟩ (Itr lo n) := by
  intro W' S' H' l s' hs i
  show (∀ v, (rangeL lo n)[i]? = some v → _) ∧ ((rangeL lo n)[i]? = none → _)
  rw [rangeL_get]
  by_cases h : i < n
  · rw [if_pos h]
    refine ⟨fun v hv => ?_, fun hn => (by cases hn)⟩
    cases hv
    refine ⟨h, fun x H'' q => ?_⟩
    obtain ⟨e1, e2⟩ := (show H'' = H' ∧ x = .int (lo + i) from q)
    subst e1 e2
    exact ⟨W', .refl _, s', .int _⟩
  · rw [if_neg h]
    exact ⟨fun v hv => (by cases hv), fun _ => Nat.le_of_not_lt h⟩
theorem itv_ok {a : Addr} {xs : List Val} {n : Nat} (hn : n = xs.length) {src : Sto → Prop} (h : ∀ W' S' H', WLe W W' → SR K T W' S' H' → src S' → ∃ ys, SqL K H' a ys ∧ VRs K T W' xs ys) : ItOk K T W ⟨xs.reverse, src⟩ (Itv K a n) := by
  intro W' S' H' l s' hs i
  obtain ⟨ys, hy, r⟩ := h W' S' H' l s' hs
  subst hn
  refine ⟨fun v hv => ?_, fun hq => ?_⟩
  · have hi : i < xs.length := by
      have := (List.getElem?_eq_some_iff.mp hv).1
      simpa using this
    have hv' : xs.reverse[i]? = some v := hv
    rw [List.getElem?_reverse hi] at hv'
    obtain ⟨y, e, vy⟩ := r.get hv'
    refine ⟨⟨hi, ys, y, hy, e⟩, fun x H'' q => ?_⟩
    obtain ⟨rfl, q⟩ := q
    have := q ys hy
    rw [e] at this
    cases this
    exact ⟨W', .refl _, s', vy⟩
  · have := List.getElem?_eq_none_iff.mp (show xs.reverse[i]? = none from hq)
    show xs.length ≤ i
    simpa using this
theorem ite_ok {a : Addr} {xs : List Val} {src : Sto → Prop} (h : ∀ W' S' H', WLe W W' → SR K T W' S' H' → src S' → ∃ ys, SqL K H' a ys ∧ VRs K T W' xs ys) : ItOk K T W ⟨zipE xs, src⟩ (Ite K a) := by
  intro W' S' H' l s' hs i
  obtain ⟨ys, hy, r⟩ := h W' S' H' l s' hs
  have hg : (zipE xs)[i]? = (xs[i]?).map fun v => Val.tup [.int (i : Nat), v] := by
    unfold zipE
    rw [List.getElem?_map, List.getElem?_zipIdx]
    cases xs[i]? <;> simp
  refine ⟨fun v hv => ?_, fun hq => ⟨ys, hy, ?_⟩⟩
  · have hv' : (zipE xs)[i]? = some v := hv
    rw [hg] at hv'
    cases e0 : xs[i]? with
    | none => rw [e0] at hv'; cases hv'
    | some u =>
      rw [e0] at hv'
      cases hv'
      obtain ⟨y, e, vy⟩ := r.get e0
      refine ⟨⟨ys, y, hy, e⟩, fun x H'' q => ?_⟩
      obtain ⟨p, z, rfl, hp, rfl, q⟩ := q
      have := q ys hy
      rw [e] at this
      cases this
      have l2 : WLe W' (W'.add p (.tup [.int (i : Nat), y])) := .add (s'.free hp)
      exact ⟨_, l2, s'.add hp, .tup (.inl upd_same) (.cons (.int _) (.cons (vy.mono l2) .nil))⟩
  · have hq' : (zipE xs)[i]? = none := hq
    rw [hg] at hq'
    rw [← r.length]
    cases e0 : xs[i]? with
    | none => exact List.getElem?_eq_none_iff.mp e0
    | some u => rw [e0] at hq'; cases hq'
end
section
variable {T : Tbl} {X : Cx} {Ew : XW} {tg e a b : Expr} {f fa fb : EM} {p pos : Pos}
/-- list or tuple -/
theorem pi_seq {te : TE} (hl : PE X e te) : PI X tg e (fun σ H R => te σ H fun x H1 => ∃ a, x = .ref a ∧ (((∃ xs, SqL X.K H1 a xs) ∧ R (Itl X.K a) H1) ∨ ((∃ xs, SqT X.K H1 a xs) ∧ R (Itt X.K a) H1))) := by
  refine ⟨fun pins s σ H R I h => ?_⟩
  refine thn (hl.run pins s σ H _ I h) fun v s1 ⟨x, H1, I1, r1, q1⟩ => ?_
  obtain ⟨a, e, q⟩ := q1
  subst e
  cases r1
  rcases q with ⟨⟨xs, hq⟩, q⟩ | ⟨⟨xs, hq⟩, q⟩
  · obtain ⟨its, rv, p, hz⟩ := I1.list hq
    refine wpAny_pyIter_list p.isList ?_
    refine ⟨s1.heap.objs.size, [s1.heap.objs.size], _, _, H1, rfl, I1.kept (t' := s1.toks) fun b o e => Heap.get?_push_of_some _ e, turn_list a _, ⟨_, Heap.get?_push_size _ rfl, rfl, rfl⟩, fun b hb => ?_, q⟩
    have e : b = s1.heap.objs.size := by simpa using hb
    subst e
    exact I1.fpOk (Nat.le_refl _) (I1.hok.fresh (Nat.le_refl _))
  · obtain ⟨its, rv, p, hz⟩ := I1.tuple hq
    refine wpAny_pyIter_tuple (show s1.heap.IsTuple a its.toArray from p) ?_
    refine ⟨s1.heap.objs.size, [s1.heap.objs.size], _, _, H1, rfl, I1.kept (t' := s1.toks) fun b o e => Heap.get?_push_of_some _ e, turn_tuple a _, ⟨_, Heap.get?_push_size _ rfl, rfl, rfl⟩, fun b hb => ?_, q⟩
    have e : b = s1.heap.objs.size := by simpa using hb
    subst e
    exact I1.fpOk (Nat.le_refl _) (I1.hok.fresh (Nat.le_refl _))
theorem i_seq (h : PEm T X Ew e f) : PIm T X Ew tg e (iSeq f) := by
  refine PI.to (pi_seq h) fun σ H R h => ?_
  obtain ⟨W, ρ, S, s, er, h⟩ := h
  refine ⟨W, ρ, S, s, er, RP.bind h fun W1 S1 H1 v l1 s1 h1 x vx => ?_⟩
  cases v with
  | tup xs =>
    cases vx with
    | tup hy r => exact ⟨_, rfl, .inr ⟨⟨_, TQ_sq s1.sub hy⟩, h1.now s1 _ (itt_ok hy.sq r)⟩⟩
  | lst xs =>
    obtain ⟨a, rfl, ⟨ys, hy, _⟩, q⟩ := list_src s1 vx (.inl ⟨rfl, rfl⟩)
    exact ⟨a, rfl, .inl ⟨⟨ys, hy⟩, h1.now s1 _ (itl_ok q)⟩⟩
  | fz xs =>
    obtain ⟨a, rfl, ⟨ys, hy, _⟩, q⟩ := list_src s1 vx (.inr (.inl ⟨rfl, rfl⟩))
    exact ⟨a, rfl, .inl ⟨⟨ys, hy⟩, h1.now s1 _ (itl_ok q)⟩⟩
  | loc k =>
    unfold seqIt at h1
    cases q0 : S1.objs k with
    | none => simp only [q0] at h1; exact False.elim h1
    | some o =>
      cases o with
      | lst xs =>
        simp only [q0] at h1
        obtain ⟨a, rfl, ⟨ys, hy, _⟩, q⟩ := list_src s1 vx (.inr (.inr ⟨k, rfl, q0, rfl⟩))
        exact ⟨a, rfl, .inl ⟨⟨ys, hy⟩, h1.now s1 _ (itl_ok q)⟩⟩
      | _ => simp only [q0] at h1; exact False.elim h1
  | _ => exact False.elim h1
theorem i_range1 (hg : Gl X "range") (hm : X.mg "range" = none) (ha : PEm T X Ew a fa) (hs : starEach [a] X.env = [(false, eval a X.env)] := by rfl) : PIm T X Ew tg (.Call (.Name "range" p) [a] [] pos) (iRange1 fa) := by
  refine PI.to (pi_range1 (ta := rdA X.K T Ew (aCons fa aNil)) hg hm (ma_cons ha ma_nil hs) hs) fun σ H R h => ?_
  obtain ⟨W, ρ, S, s, er, h⟩ := h
  refine ⟨W, ρ, S, s, er, ?_⟩
  unfold iRange1 at h
  unfold aCons
  cases q : fa ρ S with
  | st => rw [q] at h; exact h
  | ex c vs S' => rw [q] at h; exact h
  | ok v S' =>
    rw [q] at h
    intro W1 H1 l1 s1 xs vxs
    have h1 := RP.wle l1 h
    cases vxs with
    | cons vx rr =>
      cases rr
      cases vx with
      | int j =>
        have h2 : RP X.K T W1 (if -(2 ^ 62) ≤ j ∧ j < 2 ^ 62 then Res.ok (⟨rangeL 0 j.toNat, fun _ => True⟩ : ItV) S' else .st) _ _ := h1
        by_cases c : -(2 ^ 62) ≤ j ∧ j < 2 ^ 62
        · rw [if_pos c] at h2
          exact ⟨j, rfl, c.1, c.2, h2.now s1 _ (itr_ok 0 j.toNat)⟩
        · rw [if_neg c] at h2; exact False.elim h2
      | _ => exact False.elim h1
theorem i_range2 (hg : Gl X "range") (hm : X.mg "range" = none) (ha : PEm T X Ew a fa) (hb : PEm T X Ew b fb) (hs : starEach [a, b] X.env = [(false, eval a X.env), (false, eval b X.env)] := by rfl) (hs1 : starEach [b] X.env = (false, eval b X.env) :: starEach [] X.env := by rfl) : PIm T X Ew tg (.Call (.Name "range" p) [a, b] [] pos) (iRange2 fa fb) := by
  refine PI.to (pi_range2 (ta := rdA X.K T Ew (aCons fa (aCons fb aNil))) hg hm (ma_cons ha (ma_cons hb ma_nil hs1) (by rw [hs, hs1]; rfl)) hs hs1) fun σ H R h => ?_
  obtain ⟨W, ρ, S, s, er, h⟩ := h
  refine ⟨W, ρ, S, s, er, ?_⟩
  unfold iRange2 at h
  unfold aCons
  cases q : fa ρ S with
  | st => rw [q] at h; exact h
  | ex c vs S' => rw [q] at h; exact h
  | ok v S' =>
    rw [q] at h
    show RP X.K T W (((fb ρ S').bind fun w S2 => (aNil ρ S2).bind fun vs S3 => .ok (w :: vs) S3).bind fun vs S2 => .ok (v :: vs) S2) _ _
    have h' : RP X.K T W ((fb ρ S').bind fun w S2 => match v, w with
      | .int i, .int j => if -(2 ^ 62) ≤ i ∧ i < 2 ^ 62 ∧ -(2 ^ 62) ≤ j ∧ j < 2 ^ 62 then Res.ok (⟨rangeL i (j - i).toNat, fun _ => True⟩ : ItV) S2 else .st
      | _, _ => .st) (fun W' x H' iv => ∀ (J : It), ItOk X.K T W' iv J → R J H') (fun H' c o => Ew c o σ H') := h
    cases q2 : fb ρ S' with
    | st => rw [q2] at h'; exact h'
    | ex c vs S' => rw [q2] at h'; exact h'
    | ok w S2 =>
      rw [q2] at h'
      intro W1 H1 l1 s1 xs vxs
      have h1 := RP.wle l1 h'
      cases vxs with
      | cons vx rr =>
        cases rr with
        | cons vy rr =>
          cases rr
          cases vx with
          | int i =>
            cases vy with
            | int j =>
              have h2 : RP X.K T W1 (if -(2 ^ 62) ≤ i ∧ i < 2 ^ 62 ∧ -(2 ^ 62) ≤ j ∧ j < 2 ^ 62 then Res.ok (⟨rangeL i (j - i).toNat, fun _ => True⟩ : ItV) S2 else .st) _ _ := h1
              by_cases c : -(2 ^ 62) ≤ i ∧ i < 2 ^ 62 ∧ -(2 ^ 62) ≤ j ∧ j < 2 ^ 62
              · rw [if_pos c] at h2
                exact ⟨i, j, rfl, c, h2.now s1 _ (itr_ok i _)⟩
              · rw [if_neg c] at h2; exact False.elim h2
            | _ => exact False.elim h1
          | _ => exact False.elim h1
theorem one_of {W : Wd} {ρ : Ev} {S : Sto} {P : Wd → Sto → Hp → ItV → Prop} {g : Val → Sto → Res ItV} {R : List V → Hp → Prop} {σ : L2.St} (h : RP X.K T W ((f ρ S).bind g) P (fun H' c o => Ew c o σ H'))
    (i : ∀ W' S' H' v x, WLe W W' → SR X.K T W' S' H' → RP X.K T W' (g v S') P (fun H' c o => Ew c o σ H') → VR X.K T W' v x → R [x] H') : RP X.K T W (aCons f aNil ρ S) (fun W' _ H' vs => ∀ xs, VRs X.K T W' vs xs → R xs H') (fun H' c o => Ew c o σ H') := by
  unfold aCons
  cases q : f ρ S with
  | st => rw [q] at h; exact h
  | ex c vs S' => rw [q] at h; exact h
  | ok v S' =>
    rw [q] at h
    intro W1 H1 l1 s1 xs vxs
    cases vxs with
    | cons vx rr =>
      cases rr
      exact i W1 S' H1 v _ l1 s1 (RP.wle l1 h) vx
theorem i_rev (hg : Gl X "reversed") (hm : X.mg "reversed" = none) (ha : PEm T X Ew e f) (hs : starEach [e] X.env = [(false, eval e X.env)] := by rfl) : PIm T X Ew tg (.Call (.Name "reversed" p) [e] [] pos) (iRev f) := by
  refine PI.to (pi_reversed (ta := rdA X.K T Ew (aCons f aNil)) hg hm (ma_cons ha ma_nil hs) hs) fun σ H R h => ?_
  obtain ⟨W, ρ, S, s, er, h⟩ := h
  refine ⟨W, ρ, S, s, er, one_of (R := fun vs H1 => ∃ (a : Addr) (xs : List V), vs = [.ref a] ∧ SqL X.K H1 a xs ∧ R (Itv X.K a xs.length) H1) h fun W1 S1 H1 v x l1 s1 h1 vx => ?_⟩
  cases v with
  | lst xs =>
    obtain ⟨a, rfl, ⟨ys, hy, hl⟩, q⟩ := list_src s1 vx (.inl ⟨rfl, rfl⟩)
    exact ⟨a, ys, rfl, hy, h1.now s1 _ (itv_ok hl q)⟩
  | fz xs =>
    obtain ⟨a, rfl, ⟨ys, hy, hl⟩, q⟩ := list_src s1 vx (.inr (.inl ⟨rfl, rfl⟩))
    exact ⟨a, ys, rfl, hy, h1.now s1 _ (itv_ok hl q)⟩
  | loc k =>
    simp only at h1
    cases q0 : S1.objs k with
    | none => simp only [q0] at h1; exact False.elim h1
    | some o =>
      cases o with
      | lst xs =>
        simp only [q0] at h1
        obtain ⟨a, rfl, ⟨ys, hy, hl⟩, q⟩ := list_src s1 vx (.inr (.inr ⟨k, rfl, q0, rfl⟩))
        exact ⟨a, ys, rfl, hy, h1.now s1 _ (itv_ok hl q)⟩
      | _ => simp only [q0] at h1; exact False.elim h1
  | _ => exact False.elim h1
theorem i_enum {tpos : Pos} {elts : List Expr} {kk : Nat} (hg : Gl X "enumerate") (hm : X.mg "enumerate" = none) (ha : PEm T X Ew e f) (hs : starEach [e] X.env = [(false, eval e X.env)] := by rfl) : PIm T X Ew (.Tuple elts kk tpos) (.Call (.Name "enumerate" p) [e] [] pos) (iEnumM f) := by
  refine PI.to (pi_enum (ta := rdA X.K T Ew (aCons f aNil)) hg hm (ma_cons ha ma_nil hs) hs) fun σ H R h => ?_
  obtain ⟨W, ρ, S, s, er, h⟩ := h
  refine ⟨W, ρ, S, s, er, one_of (R := fun vs H1 => ∃ (a : Addr) (xs : List V), vs = [.ref a] ∧ SqL X.K H1 a xs ∧ R (Ite X.K a) H1) h fun W1 S1 H1 v x l1 s1 h1 vx => ?_⟩
  cases v with
  | lst xs =>
    obtain ⟨a, rfl, ⟨ys, hy, hl⟩, q⟩ := list_src s1 vx (.inl ⟨rfl, rfl⟩)
    exact ⟨a, ys, rfl, hy, h1.now s1 _ (ite_ok q)⟩
  | fz xs =>
    obtain ⟨a, rfl, ⟨ys, hy, hl⟩, q⟩ := list_src s1 vx (.inr (.inl ⟨rfl, rfl⟩))
    exact ⟨a, ys, rfl, hy, h1.now s1 _ (ite_ok q)⟩
  | loc k =>
    simp only at h1
    cases q0 : S1.objs k with
    | none => simp only [q0] at h1; exact False.elim h1
    | some o =>
      cases o with
      | lst xs =>
        simp only [q0] at h1
        obtain ⟨a, rfl, ⟨ys, hy, hl⟩, q⟩ := list_src s1 vx (.inr (.inr ⟨k, rfl, q0, rfl⟩))
        exact ⟨a, ys, rfl, hy, h1.now s1 _ (ite_ok q)⟩
      | _ => simp only [q0] at h1; exact False.elim h1
  | _ => exact False.elim h1
end

/-! ### tests by truth -/
def truOf (S : Sto) : Val → Option Bool
  | .non => some false
  | .bl b => some b
  | .int i => some (i != 0)
  | .str y => if y.length ≤ sizeLine then some ((y.length : Int) != 0) else none
  | .tup xs => some (!xs.isEmpty)
  | v => (lstOf S v).map fun xs => !xs.isEmpty
def tTru (f : EM) : BM := fun ρ S => (f ρ S).bind fun v S1 => match truOf S1 v with
  | some c => .ok c S1
  | none => .st
section
variable {T : Tbl} {X : Cx} {Ew : XW} {e : Expr} {f : EM}
theorem isEmpty_vr {K : PySem.W.Frag} {W : Wd} {vs : List Val} {xs : List V} (r : VRs K T W vs xs) : vs.isEmpty = xs.isEmpty := by cases r <;> rfl
theorem tru_vr {W : Wd} {S : Sto} {H : Hp} {v : Val} {x : V} {c : Bool} (s : SR X.K T W S H) (r : VR X.K T W v x) (h : truOf S v = some c) : TruV X.K x H c := by
  have lists : ∀ {v : Val} {x : V}, VR X.K T W v x → (lstOf S v).map (fun xs => !xs.isEmpty) = some c → TruV X.K x H c := fun {v x} r h => by
    cases q : lstOf S v with
    | none => rw [q] at h; cases h
    | some xs =>
      rw [q] at h
      cases h
      obtain ⟨a, ys, rfl, hy, ry⟩ := lstOf_ok s r q
      exact .inl ⟨ys, hy, by show (!xs.isEmpty) = _; rw [isEmpty_vr ry]⟩
  cases v with
  | non => cases r; cases h; exact rfl
  | bl b => cases r; cases h; exact rfl
  | int b => cases r; cases h; exact rfl
  | str y =>
    cases r
    unfold truOf at h
    simp only at h
    by_cases hz : y.length ≤ sizeLine
    · rw [if_pos hz] at h; cases h; exact ⟨hz, rfl⟩
    · rw [if_neg hz] at h; cases h
  | tup xs =>
    cases h
    obtain ⟨a, ys, rfl, hy, ry⟩ := tup_ok s r
    exact .inr (.inl ⟨ys, hy, by rw [isEmpty_vr ry]⟩)
  | _ => exact lists r h
theorem mt_tru (h : PEm T X Ew e f) (he : ∀ whole, isTrue e X.env whole = (do let v ← whole; standAt e.pos; holding [v] (truthy v)) := by intro _; rfl) : PTm T X Ew e (tTru f) := by
  refine PT.to (pt_truth h he) fun σ H Q h => ?_
  obtain ⟨W, ρ, S, s, er, h⟩ := h
  refine ⟨W, ρ, S, s, er, RP.bind h fun W1 S1 H1 v l1 s1 h1 x vx => ?_⟩
  cases q : truOf S1 v with
  | none => rw [q] at h1; exact False.elim h1
  | some c => rw [q] at h1; exact ⟨c, tru_vr s1 vx q, h1.now s1⟩
end

/-! ### built-in functions -/
def vLen (vs : List Val) (S : Sto) : Res Val := match vs with
  | [.str y] => if y.length ≤ sizeLine then .ok (.int (y.length : Nat)) S else .st
  | [.tup xs] => .ok (.int (xs.length : Nat)) S
  | [v] => match lstOf S v with
    | some xs => .ok (.int (xs.length : Nat)) S
    | none => .st
  | _ => .st
def vAbs (vs : List Val) (S : Sto) : Res Val := match vs with
  | [.int i] => .ok (.int (if i < 0 then -i else i)) S
  | _ => .st
def vMin2 (vs : List Val) (S : Sto) : Res Val := match vs with
  | [.int i, .int j] => .ok (.int (if j < i then j else i)) S
  | _ => .st
def vMax2 (vs : List Val) (S : Sto) : Res Val := match vs with
  | [.int i, .int j] => .ok (.int (if j > i then j else i)) S
  | _ => .st
def vInt (vs : List Val) (S : Sto) : Res Val := match vs with
  | [.int i] => .ok (.int i) S
  | [.bl k] => .ok (.int (if k then 1 else 0)) S
  | _ => .st
def vList (bx : Bool) (vs : List Val) (S : Sto) : Res Val := match vs with
  | [.tup xs] => mkL bx xs S
  | [v] => match lstOf S v with
    | some xs => mkL bx xs S
    | none => .st
  | _ => .st
def vTuple (vs : List Val) (S : Sto) : Res Val := match vs with
  | [.tup xs] => .ok (.tup xs) S
  | [v] => match lstOf S v with
    | some xs => .ok (.tup xs) S
    | none => .st
  | _ => .st
/-- the class of a value -/
def tagOf (S : Sto) : Val → Option Tg
  | .non => some .non
  | .bl _ => some .bl
  | .int _ => some .int
  | .str _ => some .str
  | .tup _ => some .tup
  | .lst _ => some .lst
  | .loc k => match S.objs k with
    | some (.lst _) => some .lst
    | some (.dk false _ _) => some .dct
    | some (.dt false _ _) => some .dct
    | _ => none
  | .dk _ _ => some .dct
  | .dt _ _ => some .dct
  | _ => none
def isA (t n : Tg) : Bool := t = n || (t = .bl && n = .int)
def vIsi (vs : List Val) (S : Sto) : Res Val := match vs with
  | [v, .ty n] => match tagOf S v with
    | some t => .ok (.bl (isA t n)) S
    | none => .st
  | _ => .st
theorem kit_tag : ∀ t n : Tg, kitB t.nm n.nm = some (isA t n) := by
  intro t n
  cases t <;> cases n <;> decide +kernel
section
variable {K : PySem.W.Frag} {T : Tbl}
theorem tagOf_ok {W : Wd} {S : Sto} {H : Hp} {v : Val} {x : V} {t : Tg} (s : SR K T W S H) (r : VR K T W v x) (h : tagOf S v = some t) : TyX K H x (.type t.nm) := by
  cases r with
  | non => cases h; exact .base .non
  | bl b => cases h; exact .base (.bl b)
  | int b => cases h; exact .base (.int b)
  | str b => cases h; exact .base (.str b)
  | tup hy r =>
    cases h
    rcases hy.sq with (hy | ⟨o, hy⟩) | ⟨o, its, n, hk, hc, _⟩
    · exact .base (.tup (s.sub _ _ hy))
    · exact .fTuple (s.sub _ _ hy)
    · exact .kTuple hk hc
  | lst hy r => cases h; exact .base (.lst (s.sub _ _ hy))
  | dk hl hy r => cases h; exact .base (.dK (s.sub _ _ hy))
  | dt hl hy r => cases h; exact .base (.dT (s.sub _ _ hy))
  | @loc k hk =>
    unfold tagOf at h
    cases q : S.objs k with
    | none => simp only [q] at h; cases h
    | some b =>
      have A := s.at_ k b q
      cases b with
      | lst xs =>
        simp only [q] at h; cases h
        obtain ⟨ys, hy, _⟩ := A
        exact .base (.lst hy)
      | dk lk ks vs =>
        cases lk with
        | true => simp only [q] at h; cases h
        | false =>
          simp only [q] at h; cases h
          obtain ⟨ys, _, hy, _⟩ := A
          rw [if_neg Bool.false_ne_true] at hy
          exact .base (.dK hy)
      | dt lk ks vs =>
        cases lk with
        | true => simp only [q] at h; cases h
        | false =>
          simp only [q] at h; cases h
          obtain ⟨ys, _, hy, _⟩ := A
          rw [if_neg Bool.false_ne_true] at hy
          exact .base (.dT hy)
      | ins c vs => simp only [q] at h; cases h
  | _ => cases h
theorem l_isi : OpL K T (rIsi K) vIsi := by
  intro W S H vs xs Q PX s r q
  unfold vIsi at q
  split at q
  · rename_i v n
    cases r with
    | cons r1 r2 =>
      cases r2 with
      | cons r3 r4 =>
        cases r4
        cases r3
        cases e : tagOf S v with
        | none => rw [e] at q; exact False.elim q
        | some t =>
          rw [e] at q
          exact ⟨_, _, _, _, _, rfl, .ty _, tagOf_ok s r1 e, kit_ty (kit_tag t n), q.now s _ (.bl _)⟩
  · exact False.elim q
theorem l_len : OpL K T (fun xs H Q => ∃ x n, xs = [x] ∧ LenV K x H n ∧ Q (.int n) H) vLen := by
  intro W S H vs xs Q PX s r q
  have lists : ∀ {v : Val} {xs : List V}, VRs K T W [v] xs → RP K T W (match lstOf S v with
    | some xs => .ok (.int (xs.length : Nat)) S
    | none => .st) (VP K T Q) PX → ∃ x n, xs = [x] ∧ LenV K x H n ∧ Q (.int n) H := fun {v xs} r q => by
    cases r with
    | cons r1 r2 =>
      cases r2
      cases e : lstOf S v with
      | none => rw [e] at q; exact False.elim q
      | some ys =>
        rw [e] at q
        obtain ⟨a, zs, rfl, hz, rz⟩ := lstOf_ok s r1 e
        exact ⟨_, ys.length, rfl, .inl ⟨zs, hz, rz.length⟩, q.now s _ (.int _)⟩
  cases vs with
  | nil => exact False.elim q
  | cons v vs =>
    cases vs with
    | cons _ _ => cases v <;> exact False.elim q
    | nil =>
      cases v with
      | str y =>
        cases r with
        | cons r1 r2 =>
          cases r2
          cases r1
          unfold vLen at q
          simp only at q
          by_cases hz : y.length ≤ sizeLine
          · rw [if_pos hz] at q; exact ⟨_, y.length, rfl, ⟨hz, rfl⟩, q.now s _ (.int _)⟩
          · rw [if_neg hz] at q; exact False.elim q
      | tup ys =>
        cases r with
        | cons r1 r2 =>
          cases r2
          obtain ⟨a, zs, rfl, hz, rz⟩ := tup_ok s r1
          exact ⟨_, ys.length, rfl, .inr ⟨zs, hz, rz.length⟩, q.now s _ (.int _)⟩
      | _ => exact lists r q
theorem l_abs : OpL K T (fun xs H Q => ∃ i, xs = [.int i] ∧ Q (.int (if i < 0 then -i else i)) H) vAbs := by
  intro W S H vs xs Q PX s r q
  unfold vAbs at q
  split at q
  · cases r with
    | cons r1 r2 => cases r2; cases r1; exact ⟨_, rfl, q.now s _ (.int _)⟩
  · exact False.elim q
theorem l_min2 : OpL K T (fun xs H Q => ∃ i j, xs = [.int i, .int j] ∧ Q (.int (if j < i then j else i)) H) vMin2 := by
  intro W S H vs xs Q PX s r q
  unfold vMin2 at q
  split at q
  · cases r with
    | cons r1 r2 => cases r2 with
      | cons r3 r4 => cases r4; cases r1; cases r3; exact ⟨_, _, rfl, q.now s _ (.int _)⟩
  · exact False.elim q
theorem l_max2 : OpL K T (fun xs H Q => ∃ i j, xs = [.int i, .int j] ∧ Q (.int (if j > i then j else i)) H) vMax2 := by
  intro W S H vs xs Q PX s r q
  unfold vMax2 at q
  split at q
  · cases r with
    | cons r1 r2 => cases r2 with
      | cons r3 r4 => cases r4; cases r1; cases r3; exact ⟨_, _, rfl, q.now s _ (.int _)⟩
  · exact False.elim q
theorem l_int : OpL K T (fun xs H Q => (∃ i, xs = [.int i] ∧ Q (.int i) H) ∨ ∃ k, xs = [.bl k] ∧ Q (.int (if k then 1 else 0)) H) vInt := by
  intro W S H vs xs Q PX s r q
  unfold vInt at q
  split at q
  · cases r with
    | cons r1 r2 => cases r2; cases r1; exact .inl ⟨_, rfl, q.now s _ (.int _)⟩
  · cases r with
    | cons r1 r2 => cases r2; cases r1; exact .inr ⟨_, rfl, q.now s _ (.int _)⟩
  · exact False.elim q
theorem l_list (bx : Bool) : OpL K T (fun xs H Q => ∃ p ys, xs = [.ref p] ∧ (SqL K H p ys ∨ SqT K H p ys) ∧ ∀ l, H l = none → Q (.ref l) (upd H l (.lst ys))) (vList bx) := by
  intro W S H vs xs Q PX s r q
  have lists : ∀ {v : Val} {xs : List V}, VRs K T W [v] xs → RP K T W (match lstOf S v with
    | some xs => mkL bx xs S
    | none => .st) (VP K T Q) PX → ∃ p ys, xs = [.ref p] ∧ (SqL K H p ys ∨ SqT K H p ys) ∧ ∀ l, H l = none → Q (.ref l) (upd H l (.lst ys)) := fun {v xs} r q => by
    cases r with
    | cons r1 r2 =>
      cases r2
      cases e : lstOf S v with
      | none => rw [e] at q; exact False.elim q
      | some ys =>
        rw [e] at q
        obtain ⟨a, zs, rfl, hz, rz⟩ := lstOf_ok s r1 e
        exact ⟨a, zs, rfl, .inl hz, fun l hl => mkL_ok s rz hl q⟩
  cases vs with
  | nil => exact False.elim q
  | cons v vs =>
    cases vs with
    | cons _ _ => cases v <;> exact False.elim q
    | nil =>
      cases v with
      | tup ys =>
        cases r with
        | cons r1 r2 =>
          cases r2
          obtain ⟨a, zs, rfl, hz, rz⟩ := tup_ok s r1
          exact ⟨a, zs, rfl, .inr hz, fun l hl => mkL_ok s rz hl q⟩
      | _ => exact lists r q
theorem l_tuple : OpL K T (fun xs H Q => ∃ p ys, xs = [.ref p] ∧ ((SqL K H p ys ∧ ∀ l, H l = none → Q (.ref l) (upd H l (.tup ys))) ∨ (SqT K H p ys ∧ Q (.ref p) H))) vTuple := by
  intro W S H vs xs Q PX s r q
  have lists : ∀ {v : Val} {xs : List V}, VRs K T W [v] xs → RP K T W (match lstOf S v with
    | some xs => .ok (.tup xs) S
    | none => .st) (VP K T Q) PX → ∃ p ys, xs = [.ref p] ∧ ((SqL K H p ys ∧ ∀ l, H l = none → Q (.ref l) (upd H l (.tup ys))) ∨ (SqT K H p ys ∧ Q (.ref p) H)) := fun {v xs} r q => by
    cases r with
    | cons r1 r2 =>
      cases r2
      cases e : lstOf S v with
      | none => rw [e] at q; exact False.elim q
      | some ys =>
        rw [e] at q
        obtain ⟨a, zs, rfl, hz, rz⟩ := lstOf_ok s r1 e
        refine ⟨a, zs, rfl, .inl ⟨hz, fun l hl => ?_⟩⟩
        have l2 : WLe W (W.add l (.tup zs)) := .add (s.free hl)
        exact q _ _ l2 (s.add hl) _ (.tup (.inl upd_same) (rz.mono l2))
  cases vs with
  | nil => exact False.elim q
  | cons v vs =>
    cases vs with
    | cons _ _ => cases v <;> exact False.elim q
    | nil =>
      cases v with
      | tup ys =>
        cases r with
        | cons r1 r2 =>
          cases r2
          have r1' := r1
          obtain ⟨a, zs, rfl, hz, rz⟩ := tup_ok s r1
          exact ⟨a, zs, rfl, .inr ⟨hz, q.now s _ r1'⟩⟩
      | _ => exact lists r q
end

/-! ### all, any of a list of truth values -/
def blsOf : List Val → Option (List Bool)
  | [] => some []
  | .bl b :: vs => (blsOf vs).map (b :: ·)
  | _ :: _ => none
def vAll (vs : List Val) (S : Sto) : Res Val := match vs with
  | [v] => match (lstOf S v).bind blsOf with
    | some bs => .ok (.bl (bs.all id)) S
    | none => .st
  | _ => .st
def vAny (vs : List Val) (S : Sto) : Res Val := match vs with
  | [v] => match (lstOf S v).bind blsOf with
    | some bs => .ok (.bl (bs.any id)) S
    | none => .st
  | _ => .st
section
variable {K : PySem.W.Frag} {T : Tbl}
theorem blsOf_ok {W : Wd} : ∀ {vs : List Val} {xs : List V} {bs : List Bool}, VRs K T W vs xs → blsOf vs = some bs → xs = bs.map V.bl
  | _, _, _, .nil, h => by cases h; rfl
  | v :: vs, _, bs, .cons r rr, h => by
    cases v with
    | bl b =>
      cases r
      unfold blsOf at h
      cases e : blsOf vs with
      | none => rw [e] at h; cases h
      | some cs => rw [e] at h; cases h; rw [blsOf_ok rr e]; rfl
    | _ => cases h
theorem l_all : OpL K T (rAll K) vAll := by
  intro W S H vs xs Q PX s r q
  unfold vAll at q
  split at q
  · rename_i v
    cases r with
    | cons r1 r2 =>
      cases r2
      cases e : lstOf S v with
      | none => rw [e] at q; exact False.elim q
      | some ys =>
        rw [e] at q
        cases e2 : blsOf ys with
        | none => simp only [Option.bind, e2] at q; exact False.elim q
        | some bs =>
          simp only [Option.bind, e2] at q
          obtain ⟨a, zs, rfl, hz, rz⟩ := lstOf_ok s r1 e
          have ez := blsOf_ok rz e2
          subst ez
          exact ⟨a, bs, rfl, hz, q.now s _ (.bl _)⟩
  · exact False.elim q
theorem l_any : OpL K T (rAny K) vAny := by
  intro W S H vs xs Q PX s r q
  unfold vAny at q
  split at q
  · rename_i v
    cases r with
    | cons r1 r2 =>
      cases r2
      cases e : lstOf S v with
      | none => rw [e] at q; exact False.elim q
      | some ys =>
        rw [e] at q
        cases e2 : blsOf ys with
        | none => simp only [Option.bind, e2] at q; exact False.elim q
        | some bs =>
          simp only [Option.bind, e2] at q
          obtain ⟨a, zs, rfl, hz, rz⟩ := lstOf_ok s r1 e
          have ez := blsOf_ok rz e2
          subst ez
          exact ⟨a, bs, rfl, hz, q.now s _ (.bl _)⟩
  · exact False.elim q
end
end PM

/-! PM, part g: slices, stores to items, list methods, in, dicts, exceptions -/
namespace PM
open PySem PySem.Spec L2

/-! ### slices -/
def cutG {α : Type} (xs : List α) (lo hi : Option Int) : List α := (xs.drop (HT.sIx xs.length 0 lo)).take (HT.sIx xs.length xs.length hi - HT.sIx xs.length 0 lo)
abbrev OM := Ev → Sto → Res (Option Int)
def oNone : OM := fun _ S => .ok none S
def oSome (f : EM) : OM := fun ρ S => (f ρ S).bind fun v S1 => match v with
  | .int i => .ok (some i) S1
  | _ => .st
def vCut (bx : Bool) (v : Val) (lo hi : Option Int) (S : Sto) : Res Val := match v with
  | .tup xs => .ok (.tup (cutG xs lo hi)) S
  | v => match lstOf S v with
    | some xs => mkL bx (cutG xs lo hi) S
    | none => .st
def eCut (bx : Bool) (f : EM) (lo hi : OM) : EM := fun ρ S => (f ρ S).bind fun v S1 => (lo ρ S1).bind fun l S2 => (hi ρ S2).bind fun u S3 => vCut bx v l u S3
def rdO (K : PySem.W.Frag) (T : Tbl) (Ew : XW) (f : OM) : TO := fun σ H Q => ∃ W ρ S, SR K T W S H ∧ ER K T W ρ σ ∧ RP K T W (f ρ S) (fun _ _ H' o => Q o H') (fun H' c o => Ew c o σ H')
abbrev POm (T : Tbl) (X : Cx) (Ew : XW) (e : Option Expr) (f : OM) : Prop := PO X e (rdO X.K T Ew f)
theorem cutG_vr {K : PySem.W.Frag} {T : Tbl} {W : Wd} {vs : List Val} {xs : List V} (r : VRs K T W vs xs) (lo hi : Option Int) : VRs K T W (cutG vs lo hi) (cutV xs lo hi) := by
  unfold cutG cutV
  rw [r.length]
  exact (r.drop _).take _
section
variable {T : Tbl} {X : Cx} {Ew : XW} {e o i value : Expr} {es : List Expr} {f fo fi fe : EM} {fs : AM} {lo hi : Option Expr} {lm hm : OM} {pos p2 tpos : Pos}
theorem mo_none : POm T X Ew none oNone := ⟨fun pins s σ H Q I ⟨W, ρ, S, sr, er, h⟩ => po_none.run pins s σ H Q I (h.now sr)⟩
theorem mo_some (h : PEm T X Ew e f) : POm T X Ew (some e) (oSome f) := ⟨fun pins s σ H Q I ⟨W, ρ, S, sr, er, q⟩ => (po_some h).run pins s σ H Q I ⟨W, ρ, S, sr, er, RP.bind q fun W1 S1 H1 v l1 s1 h1 x vx => by
  cases vx with
  | int j => exact ⟨j, rfl, h1.now s1⟩
  | _ => exact False.elim h1⟩⟩
theorem m_cut {bx : Bool} (he : PEm T X Ew e f) (hl : POm T X Ew lo lm) (hu : POm T X Ew hi hm) : PEm T X Ew (.Subscript e (.Slice lo hi none p2) pos) (eCut bx f lm hm) := by
  refine PE.to (pe_slice (SlR.or sl_list sl_tupA) he hl hu) fun σ H Q h => ?_
  obtain ⟨W, ρ, S, s, er, h⟩ := h
  refine ⟨W, ρ, S, s, er, RP.bind h fun W1 S1 H1 v l1 s1 h1 x vx => ⟨W1, ρ, S1, s1, er.mono l1, RP.bind h1 fun W2 S2 H2 lw l2 s2 h2 => ⟨W2, ρ, S2, s2, (er.mono l1).mono l2, RP.bind h2 fun W3 S3 H3 uw l3 s3 h3 => ?_⟩⟩⟩
  have vx3 := vx.mono (l2.trans l3)
  have lists : ∀ {v : Val}, VR X.K T W3 v x → RP X.K T W3 (match lstOf S3 v with
    | some xs => mkL bx (cutG xs lw uw) S3
    | none => .st) (VP X.K T Q) (fun H' c o => Ew c o σ H') → rSlL X.K x lw uw H3 Q := fun {v} vx q => by
    cases e : lstOf S3 v with
    | none => rw [e] at q; exact False.elim q
    | some xs =>
      rw [e] at q
      obtain ⟨a, ys, rfl, hy, r⟩ := lstOf_ok s3 vx e
      exact ⟨a, ys, rfl, hy, fun p hp => mkL_ok s3 (cutG_vr r lw uw) hp q⟩
  cases v with
  | tup xs =>
    refine .inr ?_
    have vt := vx3
    obtain ⟨a, ys, rfl, hy, r⟩ := tup_ok s3 vx3
    refine ⟨a, ys, rfl, hy, fun hw => ?_, fun hw p hp => ?_⟩
    · have e0 : cutG xs lw uw = xs := by
        unfold cutG
        rw [r.length, hw.1, hw.2, List.drop_zero, Nat.sub_zero, ← r.length, List.take_length]
      have h4 : RP X.K T W3 (.ok (.tup (cutG xs lw uw)) S3) (VP X.K T Q) (fun H' c o => Ew c o σ H') := h3
      rw [e0] at h4
      exact h4.now s3 _ vt
    · have l : WLe W3 (W3.add p (.tup (cutV ys lw uw))) := .add (s3.free hp)
      exact h3 _ _ l (s3.add hp) _ (.tup (.inl upd_same) ((cutG_vr r lw uw).mono l))
  | _ => exact .inl (lists vx3 h3)
/-- xs[::-1] of a list -/
def vRevL (bx : Bool) (v : Val) (S : Sto) : Res Val := match lstOf S v with
  | some xs => mkL bx xs.reverse S
  | none => .st
theorem m_revL {bx : Bool} {k : Nat} {p1 p2 p3 : Pos} (he : PEm T X Ew e f) : PEm T X Ew (.Subscript e (.Slice none none (some (.UnaryOp .USub (.Constant (.int 1) k p1) p2)) p3) pos) (eUn (vRevL bx) f) := by
  refine PE.to (pe_revL he) fun σ H Q h => ?_
  obtain ⟨W, ρ, S, s, er, h⟩ := h
  refine ⟨W, ρ, S, s, er, RP.bind h fun W1 S1 H1 v l1 s1 h1 x vx => ?_⟩
  unfold vRevL at h1
  cases e : lstOf S1 v with
  | none => rw [e] at h1; exact False.elim h1
  | some xs =>
    rw [e] at h1
    obtain ⟨a, ys, rfl, hy, r⟩ := lstOf_ok s1 vx e
    exact ⟨a, ys, rfl, hy, fun p hp => mkL_ok s1 r.reverse hp h1⟩

/-! ### stores to items -/
def setIx (o i u : Val) (S : Sto) : Option Sto := match o, i with
  | .loc k, .int j => match S.objs k with
    | some (.lst xs) => (ixN xs.length j).map fun n => S.put k (.lst (xs.set n u))
    | _ => none
  | _, _ => none
theorem setIx_ok {K : PySem.W.Frag} {W : Wd} {S S' : Sto} {H : Hp} {o i u : Val} {x y z : V} {Q : Hp → Prop} (s : SR K T W S H) (ro : VR K T W o x) (ri : VR K T W i y) (ru : VR K T W u z) (h : setIx o i u S = some S') (q : ∀ H', SR K T W S' H' → Q H') : rSetL x y z H Q := by
  cases ro with
  | @loc k hk =>
    cases ri with
    | int j =>
      unfold setIx at h
      simp only at h
      cases e : S.objs k with
      | none => rw [e] at h; cases h
      | some b =>
        cases b with
        | lst xs =>
          rw [e] at h
          simp only at h
          obtain ⟨ys, hy, r⟩ := locLst s e
          cases e2 : ixN xs.length j with
          | none => rw [e2] at h; cases h
          | some n =>
            rw [e2] at h
            cases h
            exact ⟨_, ys, j, n, rfl, rfl, hy, by rw [← r.length]; exact e2, q _ (s.put e ⟨_, upd_same, r.set ru n⟩)⟩
        | _ => rw [e] at h; cases h
    | _ => cases h
  | _ => cases h
def sSetIx (o i e : EM) : SM := fun ρ S => (e ρ S).toS ρ fun u S1 => (o ρ S1).toS ρ fun v S2 => (i ρ S2).toS ρ fun j S3 => match setIx v j u S3 with
  | some S4 => .nx ρ S4
  | none => .st
theorem ms_setIx (hv : PEm T X Ew value fe) (ho : PEm T X Ew o fo) (hi : PEm T X Ew i fi) (hs : swapsWithSole [.Subscript o i tpos] value pos.line X.env = pure false := by rfl) (hw : swappedStores [.Subscript o i tpos] value X.env = pure none := by rfl)
    (h1 : (assignEach [.Subscript o i tpos] X.env).map (·.2) = [assign (.Subscript o i tpos) X.env] := by rfl)
    (ha : ∀ v, assign (.Subscript o i tpos) X.env v = (do
      let ov ← holding [v] (eval o X.env)
      let iv ← holding [v, ov] (eval i X.env)
      standAt tpos
      holding [v, ov, iv] (setItem ov iv v)
      release [v, ov, iv] []) := by intro _; rfl) : PSm T X Ew (.Assign [.Subscript o i tpos] value pos) (sSetIx fo fi fe) := by
  refine PS.to (ps_asg hv (pg_sub ho hi set_list ha) hs hw h1) fun D σ H ⟨W, ρ, S, sr, er, h⟩ => ⟨W, ρ, S, sr, er, SPo.of er h fun W1 S1 H1 u l1 s1 h1 z vz => ?_⟩
  refine ⟨W1, ρ, S1, s1, er.mono l1, SPo.of (er.mono l1) h1 fun W2 S2 H2 v l2 s2 h2 x vx => ⟨W2, ρ, S2, s2, (er.mono l1).mono l2, SPo.of ((er.mono l1).mono l2) h2 fun W3 S3 H3 j l3 s3 h3 y vy => ?_⟩⟩
  cases e : setIx v j u S3 with
  | none => rw [e] at h3; exact False.elim h3
  | some S4 =>
    rw [e] at h3
    exact setIx_ok s3 (vx.mono l3) vy (vz.mono (l2.trans l3)) e fun H' s' => h3 W3 H' σ (.refl _) s' (((er.mono l1).mono l2).mono l3)
/-- a[i], b[j] = e, e a pair -/
def sSetIx2 (o i o2 i2 e : EM) : SM := fun ρ S => (e ρ S).toS ρ fun t S1 => match t with
  | .tup [u, w] => (o ρ S1).toS ρ fun v S2 => (i ρ S2).toS ρ fun j S3 => (match setIx v j u S3 with
    | some S4 => (o2 ρ S4).toS ρ fun v2 S5 => (i2 ρ S5).toS ρ fun j2 S6 => (match setIx v2 j2 w S6 with
      | some S7 => .nx ρ S7
      | none => .st)
    | none => .st)
  | _ => .st
theorem ms_setIx2 {o2 i2 : Expr} {fo2 fi2 : EM} {p3 p4 : Pos} {kk : Nat} (hc : X.calm = true) (hv : PEm T X Ew value fe) (ho : PEm T X Ew o fo) (hi : PEm T X Ew i fi) (ho2 : PEm T X Ew o2 fo2) (hi2 : PEm T X Ew i2 fi2)
    (hs : swapsWithSole [.Tuple [.Subscript o i tpos, .Subscript o2 i2 p3] kk p4] value pos.line X.env = pure false := by rfl) (hw : swappedStores [.Tuple [.Subscript o i tpos, .Subscript o2 i2 p3] kk p4] value X.env = pure none := by rfl)
    (h1 : (assignEach [.Tuple [.Subscript o i tpos, .Subscript o2 i2 p3] kk p4] X.env).map (·.2) = [assign (.Tuple [.Subscript o i tpos, .Subscript o2 i2 p3] kk p4) X.env] := by rfl)
    (ha : ∀ v, assign (.Subscript o i tpos) X.env v = (do
      let ov ← holding [v] (eval o X.env)
      let iv ← holding [v, ov] (eval i X.env)
      standAt tpos
      holding [v, ov, iv] (setItem ov iv v)
      release [v, ov, iv] []) := by intro _; rfl)
    (ha2 : ∀ v, assign (.Subscript o2 i2 p3) X.env v = (do
      let ov ← holding [v] (eval o2 X.env)
      let iv ← holding [v, ov] (eval i2 X.env)
      standAt p3
      holding [v, ov, iv] (setItem ov iv v)
      release [v, ov, iv] []) := by intro _; rfl)
    (hn : (assignEach [.Subscript o i tpos, .Subscript o2 i2 p3] X.env).length = 2 := by rfl) (hst : (assignEach [.Subscript o i tpos, .Subscript o2 i2 p3] X.env).findIdx? (·.1) = none := by rfl)
    (hs1 : (assignEach [.Subscript o i tpos, .Subscript o2 i2 p3] X.env).map (·.2) = assign (.Subscript o i tpos) X.env :: (assignEach [.Subscript o2 i2 p3] X.env).map (·.2) := by rfl)
    (hs2 : (assignEach [.Subscript o2 i2 p3] X.env).map (·.2) = assign (.Subscript o2 i2 p3) X.env :: (assignEach [] X.env).map (·.2) := by rfl) :
    PSm T X Ew (.Assign [.Tuple [.Subscript o i tpos, .Subscript o2 i2 p3] kk p4] value pos) (sSetIx2 fo fi fo2 fi2 fe) := by
  refine PS.to (ps_asg hv (pg_tup hc (pgs_cons (pg_sub ho hi set_list ha) (pgs_cons (pg_sub ho2 hi2 set_list ha2) pgs_nil hs2) hs1) hn hst) hs hw h1) fun D σ H ⟨W, ρ, S, sr, er, h⟩ => ⟨W, ρ, S, sr, er, SPo.of er h fun W1 S1 H1 t l1 s1 h1 z vz => ?_⟩
  cases vz with
  | @tup a vs xs hy r =>
    cases r with
    | nil => exact False.elim h1
    | cons r1 rr =>
      cases rr with
      | nil => exact False.elim h1
      | cons r2 rr =>
        cases rr with
        | cons _ _ => exact False.elim h1
        | nil =>
          refine ⟨_, _, rfl, TQ_sq s1.sub hy, rfl, _, _, rfl, ?_⟩
          refine ⟨W1, ρ, S1, s1, er.mono l1, SPo.of (er.mono l1) h1 fun W2 S2 H2 v l2 s2 h2 x vx => ⟨W2, ρ, S2, s2, (er.mono l1).mono l2, SPo.of ((er.mono l1).mono l2) h2 fun W3 S3 H3 j l3 s3 h3 y vy => ?_⟩⟩
          have er3 := ((er.mono l1).mono l2).mono l3
          rename_i u xu w xw
          cases e : setIx v j u S3 with
          | none => rw [e] at h3; exact False.elim h3
          | some S4 =>
            rw [e] at h3
            refine setIx_ok s3 (vx.mono l3) vy (r1.mono (l2.trans l3)) e fun H4 s4 => ?_
            refine ⟨_, _, rfl, W3, ρ, S4, s4, er3, SPo.of er3 h3 fun W5 S5 H5 v2 l5 s5 h5 x2 vx2 => ⟨W5, ρ, S5, s5, er3.mono l5, SPo.of (er3.mono l5) h5 fun W6 S6 H6 j2 l6 s6 h6 y2 vy2 => ?_⟩⟩
            cases e2 : setIx v2 j2 w S6 with
            | none => rw [e2] at h6; exact False.elim h6
            | some S7 =>
              rw [e2] at h6
              exact setIx_ok s6 (vx2.mono l6) vy2 (r2.mono (((l2.trans l3).trans l5).trans l6)) e2 fun H' s' => ⟨rfl, h6 W6 H' σ (.refl _) s' ((er3.mono l5).mono l6)⟩
  | _ => exact False.elim h1
end

/-! ### methods of lists -/
def isLst (v : Val) (S : Sto) : Bool := (lstOf S v).isSome
theorem isLst_ok {K : PySem.W.Frag} {T : Tbl} (W : Wd) (S : Sto) (H : Hp) (v : Val) (y : V) (s : SR K T W S H) (r : VR K T W v y) (h : isLst v S = true) : tyV K "list" y H := by
  unfold isLst at h
  cases e : lstOf S v with
  | none => rw [e] at h; cases h
  | some xs =>
    obtain ⟨a, ys, rfl, hy, _⟩ := lstOf_ok s r e
    exact .inl ⟨rfl, ys, hy⟩
def vAppend (v : Val) (vs : List Val) (S : Sto) : Res Val := match v, vs with
  | .loc k, [u] => match S.objs k with
    | some (.lst xs) => if xs.length < sizeLine then .ok .non (S.put k (.lst (xs ++ [u]))) else .st
    | _ => .st
  | _, _ => .st
def vExtend (v : Val) (vs : List Val) (S : Sto) : Res Val := match v, vs with
  | .loc k, [u] => match S.objs k, mlstOf S u with
    | some (.lst xs), some ys => if xs.length + ys.length ≤ sizeLine then .ok .non (S.put k (.lst (xs ++ ys))) else .st
    | _, _ => .st
  | _, _ => .st
def vPopAt (v : Val) (vs : List Val) (S : Sto) : Res Val := match v, vs with
  | .loc k, [.int i] => match S.objs k with
    | some (.lst xs) => if -(2 ^ 63) ≤ i ∧ i < 2 ^ 63 then (match seqIndex? i xs.length with
      | some j => (match xs[j]? with
        | some u => .ok u (S.put k (.lst (xs.eraseIdx j)))
        | none => .st)
      | none => .st) else .st
    | _ => .st
  | _, _ => .st
section
variable {K : PySem.W.Frag} {T : Tbl}
theorem w_append : OpM K T rAppend vAppend := by
  intro W S H v y vs xs Q PX s rv rs q
  unfold vAppend at q
  split at q
  · rename_i k u
    cases rs with
    | cons r1 r2 =>
      cases r2
      cases rv with
      | loc hk =>
        cases e : S.objs k with
        | none => simp only [e] at q; exact False.elim q
        | some b =>
          cases b with
          | lst ys =>
            simp only [e] at q
            obtain ⟨zs, hz, r⟩ := locLst s e
            by_cases hl : ys.length < sizeLine
            · rw [if_pos hl] at q
              exact ⟨_, zs, _, rfl, rfl, hz, by rw [← r.length]; exact hl, q W _ (.refl _) (s.put e ⟨_, upd_same, r.append (.cons r1 .nil)⟩) _ .non⟩
            · rw [if_neg hl] at q; exact False.elim q
          | _ => simp only [e] at q; exact False.elim q
  · exact False.elim q
theorem w_extend : OpM K T rExtend vExtend := by
  intro W S H v y vs xs Q PX s rv rs q
  unfold vExtend at q
  split at q
  · rename_i k u
    cases rs with
    | cons r1 r2 =>
      cases r2
      cases rv with
      | loc hk =>
        cases e : S.objs k with
        | none => simp only [e] at q; exact False.elim q
        | some b =>
          cases b with
          | lst ys =>
            simp only [e] at q
            cases e2 : mlstOf S u with
            | none => rw [e2] at q; exact False.elim q
            | some us =>
              rw [e2] at q
              simp only at q
              obtain ⟨zs, hz, r⟩ := locLst s e
              obtain ⟨b, ws, rfl, hw, r2⟩ := mlstOf_ok s r1 e2
              by_cases hl : ys.length + us.length ≤ sizeLine
              · rw [if_pos hl] at q
                exact ⟨_, b, zs, ws, rfl, rfl, hz, hw, by rw [← r.length, ← r2.length]; exact hl, q W _ (.refl _) (s.put e ⟨_, upd_same, r.append r2⟩) _ .non⟩
              · rw [if_neg hl] at q; exact False.elim q
          | _ => simp only [e] at q; exact False.elim q
  · exact False.elim q
theorem w_popAt : OpM K T rPopAt vPopAt := by
  intro W S H v y vs xs Q PX s rv rs q
  unfold vPopAt at q
  split at q
  · rename_i k i
    cases rs with
    | cons r1 r2 =>
      cases r2
      cases r1
      cases rv with
      | loc hk =>
        cases e : S.objs k with
        | none => simp only [e] at q; exact False.elim q
        | some b =>
          cases b with
          | lst ys =>
            simp only [e] at q
            obtain ⟨zs, hz, r⟩ := locLst s e
            by_cases hl : -(2 ^ 63) ≤ i ∧ i < 2 ^ 63
            · rw [if_pos hl] at q
              cases e2 : seqIndex? i ys.length with
              | none => rw [e2] at q; exact False.elim q
              | some j =>
                rw [e2] at q
                simp only at q
                cases e3 : ys[j]? with
                | none => rw [e3] at q; exact False.elim q
                | some u =>
                  rw [e3] at q
                  obtain ⟨z, h1, h2⟩ := r.get e3
                  exact ⟨_, zs, i, j, z, rfl, rfl, hz, hl.1, hl.2, by rw [← r.length]; exact e2, h1, q W _ (.refl _) (s.put e ⟨_, upd_same, r.eraseIdx j⟩) _ h2⟩
            · rw [if_neg hl] at q; exact False.elim q
          | _ => simp only [e] at q; exact False.elim q
  · exact False.elim q
end

/-! ### list(range(..)) -/
def eListR (bx : Bool) (a b : EM) : EM := fun ρ S => (a ρ S).bind fun v S1 => (b ρ S1).bind fun w S2 => match v, w with
  | .int i, .int j => if -(2 ^ 62) ≤ i ∧ i < 2 ^ 62 ∧ -(2 ^ 62) ≤ j ∧ j < 2 ^ 62 ∧ (j - i).toNat ≤ 2 ^ 24 then mkL bx (rangeL i (j - i).toNat) S2 else .st
  | _, _ => .st
theorem rangeL_vr {K : PySem.W.Frag} {T : Tbl} {W : Wd} (a b : Int) : VRs K T W (rangeL a (b - a).toNat) (rgV a b) := by
  unfold rangeL rgV
  induction (List.range (b - a).toNat) with
  | nil => exact .nil
  | cons i r ih => exact .cons (.int _) ih
section
variable {T : Tbl} {X : Cx} {Ew : XW} {a b e : Expr} {fa fb : EM} {p p2 pos pos2 : Pos} {bx : Bool}
theorem m_listR1 (hc : X.calm = true) (hg : Gl X "list") (hm : X.mg "list" = none) (hg2 : Gl X "range") (hm2 : X.mg "range" = none) (ha : PEm T X Ew a fa) (na : starEach [a] X.env = (false, eval a X.env) :: starEach [] X.env := by rfl)
    (n2 : starEach [.Call (.Name "range" p2) [a] [] pos2] X.env = (false, eval (.Call (.Name "range" p2) [a] [] pos2) X.env) :: starEach [] X.env := by rfl) :
    PEm T X Ew (.Call (.Name "list" p) [.Call (.Name "range" p2) [a] [] pos2] [] pos) (eListR bx (eC (.int 0)) fa) := by
  refine PE.to (pe_listRg hc hg hm (prg_1 hg2 hm2 ha na) n2) fun σ H Q h => ?_
  obtain ⟨W, ρ, S, s, er, h⟩ := h
  have h' : RP X.K T W ((fa ρ S).bind fun w S2 => match (Val.int 0), w with
    | .int i, .int j => if -(2 ^ 62) ≤ i ∧ i < 2 ^ 62 ∧ -(2 ^ 62) ≤ j ∧ j < 2 ^ 62 ∧ (j - i).toNat ≤ 2 ^ 24 then mkL bx (rangeL i (j - i).toNat) S2 else .st
    | _, _ => .st) (VP X.K T Q) (fun H' c o => Ew c o σ H') := h
  refine ⟨W, ρ, S, s, er, RP.bind h' fun W1 S1 H1 v l1 s1 h1 x vx => ?_⟩
  cases vx with
  | int j =>
    simp only at h1
    split at h1
    · rename_i c
      obtain ⟨c1, c2, c3, c4, c5⟩ := c
      exact ⟨j, rfl, ⟨c1, c2, c3, c4, c5⟩, fun q hq => mkL_ok s1 (rangeL_vr 0 j) hq h1⟩
    · exact False.elim h1
  | _ => exact False.elim h1
theorem m_listR2 (hc : X.calm = true) (hg : Gl X "list") (hm : X.mg "list" = none) (hg2 : Gl X "range") (hm2 : X.mg "range" = none) (ha : PEm T X Ew a fa) (hb : PEm T X Ew b fb) (na : starEach [a, b] X.env = (false, eval a X.env) :: starEach [b] X.env := by rfl)
    (nb : starEach [b] X.env = (false, eval b X.env) :: starEach [] X.env := by rfl) (hp : (backTo pos2 (starEach [b] X.env)).any (·.1) = false := by rfl)
    (n2 : starEach [.Call (.Name "range" p2) [a, b] [] pos2] X.env = (false, eval (.Call (.Name "range" p2) [a, b] [] pos2) X.env) :: starEach [] X.env := by rfl) :
    PEm T X Ew (.Call (.Name "list" p) [.Call (.Name "range" p2) [a, b] [] pos2] [] pos) (eListR bx fa fb) := by
  refine PE.to (pe_listRg hc hg hm (prg_2 hg2 hm2 ha hb na nb hp) n2) fun σ H Q h => ?_
  obtain ⟨W, ρ, S, s, er, h⟩ := h
  refine ⟨W, ρ, S, s, er, RP.bind h fun W1 S1 H1 v l1 s1 h1 x vx => ⟨W1, ρ, S1, s1, er.mono l1, RP.bind h1 fun W2 S2 H2 w l2 s2 h2 y vy => ?_⟩⟩
  cases vx with
  | int i =>
    cases vy with
    | int j =>
      simp only at h2
      split at h2
      · rename_i c
        obtain ⟨c1, c2, c3, c4, c5⟩ := c
        exact ⟨i, j, rfl, rfl, ⟨c1, c2, c3, c4, c5⟩, fun q hq => mkL_ok s2 (rangeL_vr i j) hq h2⟩
      · exact False.elim h2
    | _ => exact False.elim h2
  | _ => cases vy <;> exact False.elim h2
end

/-! ### sorted of ints -/
def intsOf : List Val → Option (List Int)
  | [] => some []
  | .int i :: vs => (intsOf vs).map (i :: ·)
  | _ :: _ => none
theorem intsOf_eq : ∀ {vs : List Val} {ns : List Int}, intsOf vs = some ns → vs = ns.map Val.int
  | [], _, h => by cases h; rfl
  | v :: vs, ns, h => by
    cases v with
    | int i =>
      unfold intsOf at h
      cases e : intsOf vs with
      | none => rw [e] at h; cases h
      | some ms => rw [e] at h; cases h; rw [intsOf_eq e]; rfl
    | _ => cases h
def insI (x : Int) : List Int → List Int
  | [] => [x]
  | y :: ys => if x ≤ y then x :: y :: ys else y :: insI x ys
def sortI : List Int → List Int
  | [] => []
  | x :: xs => insI x (sortI xs)
theorem insI_perm (x : Int) : ∀ ys, (insI x ys).Perm (x :: ys)
  | [] => .refl _
  | y :: ys => by
    unfold insI
    by_cases h : x ≤ y
    · rw [if_pos h]
    · rw [if_neg h]
      exact ((insI_perm x ys).cons y).trans (.swap x y ys)
theorem sortI_perm : ∀ xs, (sortI xs).Perm xs
  | [] => .refl _
  | x :: xs => (insI_perm x _).trans ((sortI_perm xs).cons x)
theorem insI_sorted (x : Int) : ∀ {ys : List Int}, ys.Pairwise (· ≤ ·) → (insI x ys).Pairwise (· ≤ ·)
  | [], _ => List.pairwise_singleton _ _
  | y :: ys, h => by
    unfold insI
    obtain ⟨h1, h2⟩ := List.pairwise_cons.mp h
    by_cases c : x ≤ y
    · rw [if_pos c]
      refine List.pairwise_cons.mpr ⟨fun z hz => ?_, h⟩
      rcases List.mem_cons.mp hz with rfl | hz
      · exact c
      · exact Int.le_trans c (h1 z hz)
    · rw [if_neg c]
      refine List.pairwise_cons.mpr ⟨fun z hz => ?_, insI_sorted x h2⟩
      rcases List.mem_cons.mp ((insI_perm x ys).mem_iff.mp hz) with rfl | hz
      · omega
      · exact h1 z hz
theorem sortI_sorted : ∀ xs, (sortI xs).Pairwise (· ≤ ·)
  | [] => .nil
  | x :: xs => insI_sorted x (sortI_sorted xs)
theorem sorted_unique : ∀ {xs ys : List Int}, xs.Perm ys → xs.Pairwise (· ≤ ·) → ys.Pairwise (· ≤ ·) → xs = ys
  | [], ys, p, _, _ => (List.nil_perm.mp p).symm ▸ rfl
  | x :: xs, [], p, _, _ => by simpa using p.length_eq
  | x :: xs, y :: ys, p, h1, h2 => by
    obtain ⟨a1, a2⟩ := List.pairwise_cons.mp h1
    obtain ⟨b1, b2⟩ := List.pairwise_cons.mp h2
    have e : x = y := by
      have hx : x ∈ y :: ys := p.mem_iff.mp List.mem_cons_self
      have hy : y ∈ x :: xs := p.mem_iff.mpr List.mem_cons_self
      have l1 : y ≤ x := by rcases List.mem_cons.mp hx with q | q; · omega
                            · exact b1 x q
      have l2 : x ≤ y := by rcases List.mem_cons.mp hy with q | q; · omega
                            · exact a1 y q
      omega
    subst e
    rw [sorted_unique ((List.perm_cons x).mp p) a2 b2]
def vSortI (bx : Bool) (vs : List Val) (S : Sto) : Res Val := match vs with
  | [v] => match (lstOf S v).bind intsOf with
    | some ns => mkL bx ((sortI ns).map Val.int) S
    | none => .st
  | _ => .st
theorem l_sortI {K : PySem.W.Frag} {T : Tbl} (bx : Bool) : OpL K T (rSortedI K) (vSortI bx) := by
  intro W S H vs xs Q PX s r q
  unfold vSortI at q
  split at q
  · rename_i v
    cases r with
    | cons r1 r2 =>
      cases r2
      cases e : lstOf S v with
      | none => rw [e] at q; exact False.elim q
      | some ys =>
        rw [e] at q
        cases e2 : intsOf ys with
        | none => simp only [Option.bind, e2] at q; exact False.elim q
        | some ns =>
          simp only [Option.bind, e2] at q
          obtain ⟨a, zs, rfl, hz, rz⟩ := lstOf_ok s r1 e
          rw [intsOf_eq e2] at rz
          have ez := rz.ints
          subst ez
          refine ⟨a, ns, rfl, hz, fun ns' p hp hs hf => ?_⟩
          have en : ns' = sortI ns := sorted_unique (hp.trans (sortI_perm ns).symm) hs (sortI_sorted ns)
          subst en
          exact mkL_ok s (VRs.ofInts _) hf q
  · exact False.elim q

/-! ### in, not in -/
def flatD : PyData → Bool
  | .none => true | .bool _ => true | .int _ => true | .str _ => true
  | _ => false
theorem flat_eqv {K : PySem.W.Frag} {H : Hp} {x y : V} {d e : PyData} (h1 : Dp K H x d) (h2 : Dp K H y e) (f1 : flatD d = true) (f2 : flatD e = true) : flatV x = true ∧ flatV y = true ∧ eqV x y = PyData.eqv d e := by
  cases h1 <;> first | (cases f1; done) | skip
  all_goals (cases h2 <;> first | (cases f2; done) | exact ⟨rfl, rfl, rfl⟩)
theorem flat_in {K : PySem.W.Frag} {H : Hp} {x : V} {d : PyData} (h1 : Dp K H x d) (f1 : flatD d = true) : ∀ {ys : List V} {ds : List PyData}, DpAll K H ys ds → ds.all flatD = true → ys.all flatV = true ∧ inV x ys = ds.any fun z => PyData.eqv z d
  | _, _, .nil, _ => ⟨rfl, rfl⟩
  | _, _, .cons a r, h => by
    rw [List.all_cons, Bool.and_eq_true] at h
    obtain ⟨q1, q2⟩ := flat_in h1 f1 r h.2
    obtain ⟨p1, p2, p3⟩ := flat_eqv a h1 h.1 f1
    refine ⟨by rw [List.all_cons, p1, q1]; rfl, ?_⟩
    unfold inV at q2 ⊢
    rw [List.any_cons, List.any_cons, p3, q2]
def vInW (neg : Bool) (v w : Val) (S : Sto) : Res Val := match w with
  | .tup ys => match datS S v, Val.dats ys with
    | some d, some ds => if flatD d = true ∧ ds.all flatD = true then .ok (.bl (if neg then !(ds.any fun z => PyData.eqv z d) else ds.any fun z => PyData.eqv z d)) S else .st
    | _, _ => .st
  | w => match datS S v, datS S w with
    | some d, some (.list ds) => if SeqAt.shaped d = true ∧ SeqAt.shaped (.list ds) = true then .ok (.bl (if neg then !(ds.any fun z => PyData.eqv z d) else ds.any fun z => PyData.eqv z d)) S else .st
    | _, _ => .st
def rInW (K : PySem.W.Frag) (neg : Bool) : R2 := fun x y H Q => (if neg then rNotInD K x y H Q else rInD K x y H Q) ∨ rIn K neg x y H Q
theorem o_in {K : PySem.W.Frag} {T : Tbl} (neg : Bool) : Op2 K T (rInW K neg) (vInW neg) := by
  intro W S H v w x y Q PX s vx vy q
  have lists : ∀ {w : Val}, VR K T W w y → RP K T W (match datS S v, datS S w with
    | some d, some (.list ds) => if SeqAt.shaped d = true ∧ SeqAt.shaped (.list ds) = true then .ok (.bl (if neg then !(ds.any fun z => PyData.eqv z d) else ds.any fun z => PyData.eqv z d)) S else .st
    | _, _ => .st) (VP K T Q) PX → rInW K neg x y H Q := fun {w} vy q => by
    cases e1 : datS S v with
    | none => simp only [e1] at q; exact False.elim q
    | some d =>
      cases e2 : datS S w with
      | none => simp only [e1, e2] at q; exact False.elim q
      | some dd =>
        cases dd with
        | list ds =>
          simp only [e1, e2] at q
          by_cases c : SeqAt.shaped d = true ∧ SeqAt.shaped (.list ds) = true
          · rw [if_pos c] at q
            refine .inl ?_
            cases neg with
            | true => exact ⟨d, ds, datS_ok s vx e1, datS_ok s vy e2, c.1, c.2, q.now s _ (.bl _)⟩
            | false => exact ⟨d, ds, datS_ok s vx e1, datS_ok s vy e2, c.1, c.2, q.now s _ (.bl _)⟩
          · rw [if_neg c] at q; exact False.elim q
        | _ => simp only [e1, e2] at q; exact False.elim q
  cases w with
  | tup ys =>
    obtain ⟨a, zs, rfl, hz, r⟩ := tup_ok s vy
    unfold vInW at q
    simp only at q
    cases e1 : datS S v with
    | none => simp only [e1] at q; exact False.elim q
    | some d =>
      cases e2 : Val.dats ys with
      | none => simp only [e1, e2] at q; exact False.elim q
      | some ds =>
        simp only [e1, e2] at q
        by_cases c : flatD d = true ∧ ds.all flatD = true
        · rw [if_pos c] at q
          have dx := datS_ok s vx e1
          obtain ⟨p1, p2⟩ := flat_in dx c.1 (Val.dats_ok s.sub r e2) c.2
          have fx : flatV x = true := by
            obtain ⟨z, _, _⟩ := flat_eqv dx dx c.1 c.1
            exact z
          refine .inr ⟨a, zs, rfl, .inr hz, fx, p1, ?_⟩
          rw [p2]
          exact q.now s _ (.bl _)
        · rw [if_neg c] at q; exact False.elim q
  | _ => exact lists vy q
theorem or_in {X : Cx} (hu : X.A.units + 65 < cLine) : OpR X (compareOp .In) (rInW X.K false) := OpR.or (op_inD hu) op_in_seq
theorem or_notIn {X : Cx} (hu : X.A.units + 65 < cLine) : OpR X (compareOp .NotIn) (rInW X.K true) := OpR.or (op_notInD hu) op_notIn_seq
end PM

/-! PM, part h: raise; calls whose errors go on; dicts by int or text -/
namespace PM
open PySem PySem.Spec L2

def sRaise (c : Nat) : SM := fun ρ S => .ex c [] ρ S
/-- what is known of an error class without own __init__ -/
structure EO (K : PySem.W.Frag) (mg : Str → Option Value) (T : Tbl) (c : Nat) (C : Addr) (x : Str) : Prop where
  at_ : T.cl c = some C
  fl : T.fl c = []
  gC : mg x = some (.ref C)
  q : PySem.W.excIn K C [.type "ValueError", .type "Exception", .type "BaseException", .type "object"] "ValueError.__new__" = true
  kC : PySem.W.keepIn K (.ref C) = true
  b : PySem.W.subIn K (.ref C) (.type "BaseException") = some true
  t : PySem.W.typeIn K (.ref C) = some (.type "type")
section
variable {T : Tbl} {X : Cx} {Ew : XW} {k : Nat} {f C : Addr} {fd : FuncData} {ps : List Str} {n : Nat} {F : FM} {x m fl : Str} {p p2 pos apos : Pos} {e o value : Expr} {es : List Expr} {fo fe : EM} {fs : AM} {c i : Nat}
theorem ms_raise {j : Nat} (hc : X.calm = true) (tk : Takes X Ew) (E : EO X.K X.mg T c C x) (hg : Gl X x) (hdb : (x == ("__debug__" : Str)) = false := by decide) :
    PSm T X Ew (.Raise (some (.Call (.Name x p) [.Constant (.str m) j p2] [] apos)) none pos) (sRaise c) :=
  PS.to (ps_raise hc tk (pmk_own PySem.F.excBase_ValueError E.q E.gC E.kC (raises_own E.b E.t) hg hdb)) fun D σ H ⟨W, ρ, S, sr, er, h⟩ => h W H σ (.ref C) none (.refl _) sr er ⟨C, E.at_, rfl, .inl ⟨E.fl, rfl, rfl⟩⟩

/-- o.m(..) whose error goes on -/
theorem pe_methQ {sp : Sp} {E : L2.St → XK} {ta : TE} {t : TA} {pl : Sem Bool} (he : PE X o ta) (c : Cls X.K C) (hm : Meth X.K C m f) (G : FnOk X.prog X.w X.K X.mg X.base (L2.CX X.prog X.w) k f fd ps sp) (hr : Room k X.A) (hb : Binds X.K fd ps []) (hx : ∀ σ, PassesAt (L2.CX X.prog X.w) X σ (E σ)) (ha : PA X (e :: es) t)
    (hst : starEach (e :: es) X.env = (false, eval e X.env) :: starEach es X.env := by rfl) (hpl : (backTo pos (starEach es X.env)).any (·.1) = false := by rfl)
    (ht : eval (.Call (.Attribute o m apos) (e :: es) [] pos) X.env = (do
      let ov ← eval o X.env
      standAt apos.atName
      let (f, first) ← holding [ov] (getMethod ov m pl)
      callWith pos f first (backTo pos (starEach (e :: es) X.env)) (backToKw pos (keywordEach [] X.env))) := by rfl) :
    PE X (.Call (.Attribute o m apos) (e :: es) [] pos) (fun σ H Q => ta σ H fun x H1 => ∃ a dx fs, x = .ref a ∧ H1 a = some (.ins C dx fs) ∧ fs.lookup m = none ∧ t σ H1 fun vs H2 => sp (x :: vs) H2 Q (E σ)) := by
  refine ⟨fun pins s σ H Q I h => ?_⟩
  refine PySem.W.methodCall_KW (pl := pl) (thn (he.run pins s σ H _ I h) fun u s1 ⟨x, H1, I1, rx, a, dx, fs, ex, ea, l, q⟩ => ?_) ht
  subst ex
  obtain rfl : u = Value.ref a := rx
  refine getmeth_ok I1 ea c hm l ?_
  refine PySem.W.callWith_K (first := [.ref a]) (h₀ := X.base) I.ok.mod.kin hm.kp (thn (ha.run pos pins s1 σ H1 _ I1 q) fun us s2 ⟨vs, H2, I2, r, q2⟩ => ⟨I2.kIn, ?_⟩) hst hpl
  exact run_fnS (us := .ref a :: us) (vs := .ref a :: vs) G hr hb (hx σ) I2 (.cons rfl r) q2
def eMethXN (n c : Nat) (F : FM) (o : EM) (a : AM) : EM := fun ρ S => (o ρ S).bind fun v S1 => if isInst c S1 v then (a ρ S1).bind fun vs S2 => if (v :: vs).length = n then F (v :: vs) S2 else .st else .st
theorem m_methX {pl : Sem Bool} (tk : Takes X Ew) (O : CO X.K T c C) (hmn : m ∉ T.fl c) (ho : PEm T X Ew o fo) (hm : Meth X.K C m f) (G : FnOk X.prog X.w X.K X.mg X.base (L2.CX X.prog X.w) k f fd ps (spD X.K T n F)) (hr : Room k X.A) (hb : Binds X.K fd ps [])
    (ha : PAm T X Ew (e :: es) fs)
    (hst : starEach (e :: es) X.env = (false, eval e X.env) :: starEach es X.env := by rfl) (hpl : (backTo pos (starEach es X.env)).any (·.1) = false := by rfl)
    (ht : eval (.Call (.Attribute o m apos) (e :: es) [] pos) X.env = (do
      let ov ← eval o X.env
      standAt apos.atName
      let (f, first) ← holding [ov] (getMethod ov m pl)
      callWith pos f first (backTo pos (starEach (e :: es) X.env)) (backToKw pos (keywordEach [] X.env))) := by rfl) :
    PEm T X Ew (.Call (.Attribute o m apos) (e :: es) [] pos) (eMethXN n c F fo fs) := by
  refine PE.to (pe_methQ (E := WE Ew) ho O.cls hm G hr hb (fun σ => passAt tk σ) ha hst hpl ht) fun σ H Q h => ?_
  obtain ⟨W, ρ, S, s, er, h⟩ := h
  refine ⟨W, ρ, S, s, er, RP.bind h fun W1 S1 H1 v l1 s1 h1 y vy => ?_⟩
  cases hi : isInst c S1 v with
  | false => rw [hi] at h1; exact False.elim h1
  | true =>
    rw [hi, if_pos rfl] at h1
    obtain ⟨a, dx, xs, rfl, hH⟩ := isInst_ok O s1 vy hi
    refine ⟨a, dx, _, rfl, hH, lookup_none hmn, W1, ρ, S1, s1, er.mono l1, RP.bind h1 fun W2 S2 H2 vs l2 s2 h2 zs vz => ?_⟩
    by_cases hl : (v :: vs).length = n
    · rw [if_pos hl] at h2; exact spD_of s2 (.cons (vy.mono l2) vz) hl h2 fun _ _ _ q => q
    · rw [if_neg hl] at h2; exact False.elim h2
end

/-! ### a dict's pairs -/
def putS {κ α : Type} [DecidableEq κ] (k : κ) (v : α) : List κ → List α → List κ × List α
  | k' :: ks, x :: xs => if k' = k then (k' :: ks, v :: (ks.zip xs).map fun p => if p.1 = k then v else p.2) else (k' :: (putS k v ks xs).1, x :: (putS k v ks xs).2)
  | _, _ => ([k], [v])
def lookS {κ α : Type} [DecidableEq κ] (k : κ) : List κ → List α → Option α
  | k' :: ks, x :: xs => if k' = k then some x else lookS k ks xs
  | _, _ => none
theorem lookS_val {κ : Type} [DecidableEq κ] {k : κ} : ∀ {ks : List κ} {xs : List V}, valV (ks.zip xs) k = lookS k ks xs
  | [], _ => by simp [valV, lookS]
  | _ :: _, [] => by simp [valV, lookS]
  | k' :: ks, x :: xs => by
    by_cases e : k' = k
    · rw [List.zip_cons_cons, valV_pos (p := (k', x)) e]; simp [lookS, e]
    · rw [List.zip_cons_cons, valV_neg (p := (k', x)) e, lookS_val]; simp [lookS, e]
theorem lookS_vr {K : PySem.W.Frag} {T : Tbl} {W : Wd} {κ : Type} [DecidableEq κ] {k : κ} : ∀ {ks : List κ} {vs : List Val} {xs : List V}, VRs K T W vs xs → (∀ v, lookS k ks vs = some v → ∃ x, lookS k ks xs = some x ∧ VR K T W v x) ∧ (lookS k ks vs = none → lookS k ks xs = none)
  | [], _, _, _ => ⟨fun v h => by simp [lookS] at h, fun _ => by simp [lookS]⟩
  | _ :: _, _, _, .nil => ⟨fun v h => by simp [lookS] at h, fun _ => by simp [lookS]⟩
  | k' :: ks, _, _, .cons a r => by
    have ih := lookS_vr (k := k) (ks := ks) r
    by_cases e : k' = k
    · simp only [lookS, if_pos e]
      exact ⟨fun v h => by cases h; exact ⟨_, rfl, a⟩, fun h => by cases h⟩
    · simp only [lookS, if_neg e]
      exact ih
theorem putK_S {κ : Type} [DecidableEq κ] {k : κ} {y : V} : ∀ {ks : List κ} {xs : List V}, ks.length = xs.length → putK (ks.zip xs) k y = (putS k y ks xs).1.zip (putS k y ks xs).2 ∧ (putS k y ks xs).1.length = (putS k y ks xs).2.length
  | [], [], _ => by simp [putK, putS]
  | [], _ :: _, h => by simp at h
  | _ :: _, [], h => by simp at h
  | k' :: ks, x :: xs, h => by
    have hl : ks.length = xs.length := by simpa using h
    obtain ⟨ih, ihl⟩ := putK_S (k := k) (y := y) hl
    by_cases e : k' = k
    · subst e
      simp only [putS, if_pos]
      constructor
      · unfold putK
        have : (((k', x) :: ks.zip xs).any fun kv => decide (kv.1 = k')) = true := by simp
        rw [List.zip_cons_cons, if_pos this, List.map_cons, List.zip_cons_cons]
        simp only [if_pos]
        congr 1
        clear ih ihl this h
        induction ks generalizing xs with
        | nil => simp
        | cons z zs ih2 =>
          cases xs with
          | nil => simp
          | cons w ws =>
            simp only [List.zip_cons_cons, List.map_cons]
            rw [ih2 ws (by simpa using hl)]
            by_cases q : z = k'
            · simp [q]
            · simp [q]
      · simp [hl]
    · simp only [putS, if_neg e]
      constructor
      · unfold putK at ih ⊢
        rw [List.zip_cons_cons, List.zip_cons_cons, ← ih]
        have : (((k', x) :: ks.zip xs).any fun kv => decide (kv.1 = k)) = ((ks.zip xs).any fun kv => decide (kv.1 = k)) := by simp [e]
        rw [this]
        by_cases q : ((ks.zip xs).any fun kv => decide (kv.1 = k)) = true
        · rw [if_pos q, if_pos q, List.map_cons, if_neg e]
        · rw [if_neg q, if_neg q]; rfl
      · simp [ihl]
theorem putT_vr {K : PySem.W.Frag} {T : Tbl} {W : Wd} {κ : Type} [DecidableEq κ] {k : κ} {u : Val} {y : V} (ru : VR K T W u y) : ∀ {ks : List κ} {vs : List Val} {xs : List V}, VRs K T W vs xs →
    VRs K T W ((ks.zip vs).map fun p => if p.1 = k then u else p.2) ((ks.zip xs).map fun p => if p.1 = k then y else p.2)
  | [], _, _, _ => by simp; exact .nil
  | _ :: _, _, _, .nil => by simp; exact .nil
  | z :: zs, _, _, .cons a r => by
    simp only [List.zip_cons_cons, List.map_cons]
    refine .cons ?_ (putT_vr ru r)
    by_cases q : z = k
    · simp only [if_pos q]; exact ru
    · simp only [if_neg q]; exact a
theorem putS_vr {K : PySem.W.Frag} {T : Tbl} {W : Wd} {κ : Type} [DecidableEq κ] {k : κ} {u : Val} {y : V} (ru : VR K T W u y) : ∀ {ks : List κ} {vs : List Val} {xs : List V}, VRs K T W vs xs → (putS k u ks vs).1 = (putS k y ks xs).1 ∧ VRs K T W (putS k u ks vs).2 (putS k y ks xs).2
  | [], _, _, .nil => ⟨rfl, .cons ru .nil⟩
  | [], _, _, .cons _ _ => ⟨rfl, .cons ru .nil⟩
  | _ :: _, _, _, .nil => ⟨rfl, .cons ru .nil⟩
  | k' :: ks, _, _, .cons a r => by
    obtain ⟨i1, i2⟩ := putS_vr (k := k) ru (ks := ks) r
    by_cases e : k' = k
    · simp only [putS, if_pos e]
      exact ⟨trivial, .cons ru (putT_vr ru r)⟩
    · simp only [putS, if_neg e]
      exact ⟨by rw [i1], .cons a i2⟩
def keyOf : Val → Option Key
  | .int i => some (.inl i)
  | .str s => some (.inr s)
  | _ => none
theorem keyOf_ok {K : PySem.W.Frag} {T : Tbl} {W : Wd} {v : Val} {x : V} {k : Key} (r : VR K T W v x) (h : keyOf v = some k) : x = kV k := by
  cases r <;> cases h <;> rfl

/-! ### dict comprehensions, keys ints and texts -/
open Classical in
noncomputable def dcGo (src : Sto → Prop) (tg : Tgt) (tst : BM) (ek ev : EM) (n0 : Nat) (ρ0 : Ev) : List Val → Sto → Res Unit
  | [], S => if src S then .ok () S else .st
  | v :: vs, S => if src S then (match tg.set v ρ0 with
      | some ρ1 => (noEx (tst ρ1 S)).bind fun k S1 => if k then (noEx (ek ρ1 S1)).bind fun a S2 => (noEx (ev ρ1 S2)).bind fun u S3 => (match S3.objs n0, keyOf a with
          | some (.dk false ks us), some q => if ks.length < sizeLine then dcGo src tg tst ek ev n0 ρ0 vs (S3.put n0 (.dk false (putS q u ks us).1 (putS q u ks us).2)) else .st
          | _, _ => .st) else dcGo src tg tst ek ev n0 ρ0 vs S1
      | none => .st) else .st
noncomputable def eDc (it : IM) (tg : Tgt) (tst : BM) (ek ev : EM) (ws : List Nat) : EM := fun ρ S => (it ρ S).bind fun iv S1 =>
  (dcGo iv.src tg tst ek ev S1.next (wipeE ρ ws) iv.items (S1.alloc (.dk false [] []))).bind fun _ S2 => .ok (.loc S1.next) S2
section
variable {T : Tbl} {X : Cx} {Ew : XW} {kx vx tgE iter c : Expr} {ifs : List Expr} {scope : Scope} {own : List (Str × Nat)} {pos : Pos} {it : IM} {tg : Tgt} {tst : BM} {fk fe : EM}
theorem rd_dc (hsl : ∀ i ∈ tg.slots, i ∈ own.map (·.2)) {σ : L2.St} {H : Hp} {Q : VK} (h : rdE X.K T Ew (eDc it tg tst fk fe (own.map (·.2))) σ H Q) :
    tDc (rdI X.K T Ew it) (tg.g X.K) (rdT X.K T XW0 tst) (rdE X.K T XW0 fk) (rdE X.K T XW0 fe) (own.map (·.2)) σ H Q := by
  obtain ⟨W, ρ, S, sr, er, h⟩ := h
  refine ⟨W, ρ, S, sr, er, RP.bind h fun W1 S1 H1 iv l1 s1 h1 J hJ D hD => ?_⟩
  have sB : SR X.K T (W1.box D) (S1.alloc (.dk false [] [])) (upd H1 D (.dK [])) := s1.box (b := .dk false [] []) hD ⟨[], rfl, by rw [if_neg Bool.false_ne_true, upd_same]; rfl, .nil⟩
  have eD : (W1.box D).m S1.next = D := by rw [← s1.nx]; exact Wd.box_at
  have lD : S1.next < (W1.box D).n := by rw [← s1.nx]; exact Nat.lt_succ_self _
  refine ⟨fun i m H => ∃ W S rest, iv.items.drop i = rest ∧ m = rest.length ∧ WLe (W1.box D) W ∧ SR X.K T W S H ∧
      RP X.K T W ((dcGo iv.src tg tst fk fe S1.next (wipeE ρ (own.map (·.2))) rest S).bind fun _ S2 => .ok (.loc S1.next) S2) (VP X.K T Q) (fun H' c o => Ew c o σ H'),
    ⟨_, W1.box D, _, iv.items, rfl, rfl, .refl _, sB, h1.wle .box⟩, fun i m H hW => ?_⟩
  obtain ⟨W, S, rest, hd, rfl, lw, sr, h⟩ := hW
  have wD : W.m S1.next = D := (lw.eq _ lD).trans eD
  cases rest with
  | nil =>
    unfold dcGo at h
    by_cases hsrc : iv.src S
    · rw [if_pos hsrc] at h
      have hn : iv.items[i]? = none := List.getElem?_eq_none (by simpa using hd)
      refine .inl ⟨(hJ W S H (.trans .box lw) sr hsrc i).2 hn, ?_⟩
      have h' : RP X.K T W (.ok (.loc S1.next) S) (VP X.K T Q) (fun H' c o => Ew c o σ H') := h
      have z : VR X.K T W (.loc S1.next) (.ref (W.m S1.next)) := .loc (Nat.lt_of_lt_of_le lD lw.le)
      rw [wD] at z
      exact h'.now sr _ z
    · rw [if_neg hsrc] at h; exact False.elim h
  | cons v vs =>
    unfold dcGo at h
    by_cases hsrc : iv.src S
    · rw [if_pos hsrc] at h
      have hv : iv.items[i]? = some v := by
        have := congrArg (·[0]?) hd
        simpa using this
      have hd' : iv.items.drop (i + 1) = vs := by
        have := congrArg List.tail hd
        simpa using this
      obtain ⟨go, yl⟩ := (hJ W S H (.trans .box lw) sr hsrc i).1 v hv
      refine .inr ⟨go, _, fun H' z => ⟨vs.length, Nat.lt_succ_self _, z⟩, fun x H' y => ?_⟩
      obtain ⟨W2, l2, s2, vx⟩ := yl x H' y
      cases q : tg.set v (wipeE ρ (own.map (·.2))) with
      | none => rw [q] at h; exact False.elim h
      | some ρ1 =>
        rw [q] at h
        have er2 : ER X.K T W2 (wipeE ρ (own.map (·.2))) (L2.wipe σ (own.map (·.2))) := ((er.mono l1).mono (.trans .box (lw.trans l2))).wipe _
        refine Tgt.ok (ws := own.map (·.2)) s2.sub tg vx er2 q fun σ' e' w' => ⟨?_, ?_⟩
        · rw [w' hsl]
          apply List.ext_getElem?
          intro j
          rw [wipe_get, wipe_get]
          rw [wipe_length]
          by_cases hj : j ∈ own.map (·.2) ∧ j < σ.length
          · rw [if_pos hj, if_pos hj]
          · rw [if_neg hj, if_neg hj]
        have hh := h.wle l2
        have bindE : ∀ {α β γ : Type} (r : Res α) (g : α → Sto → Res β) (g2 : β → Sto → Res γ), (r.bind g).bind g2 = r.bind fun a S => (g a S).bind g2 := fun r g g2 => by cases r <;> rfl
        dsimp only at hh
        rw [bindE] at hh
        refine ⟨W2, ρ1, S, s2, e', (RP.bind hh fun W3 S3 H3 k l3 s3 h3 => ?_ : RP X.K T W2 (noEx (tst ρ1 S)) _ (fun H' c o => Ew c o σ H')).noEx⟩
        have lw3 : WLe (W1.box D) W3 := lw.trans (l2.trans l3)
        cases k with
        | false =>
          dsimp only at h3 ⊢
          rw [if_neg Bool.false_ne_true] at h3 ⊢
          exact ⟨W3, S3, vs, hd', rfl, lw3, s3, h3⟩
        | true =>
          dsimp only at h3 ⊢
          rw [if_pos rfl] at h3 ⊢
          rw [bindE] at h3
          refine ⟨W3, ρ1, S3, s3, e'.mono l3, (RP.bind h3 fun W4 S4 H4 a l4 s4 h4 ya va => ?_ : RP X.K T W3 (noEx (fk ρ1 S3)) _ (fun H' c o => Ew c o σ H')).noEx⟩
          dsimp only at h4 ⊢
          rw [bindE] at h4
          refine ⟨W4, ρ1, S4, s4, (e'.mono l3).mono l4, (RP.bind h4 fun W5 S5 H5 u l5 s5 h5 yv vu => ?_ : RP X.K T W4 (noEx (fe ρ1 S4)) _ (fun H' c o => Ew c o σ H')).noEx⟩
          have lw5 : WLe (W1.box D) W5 := lw3.trans (l4.trans l5)
          have wD5 : W5.m S1.next = D := (lw5.eq _ lD).trans eD
          cases q5 : S5.objs S1.next with
          | none => simp only [q5] at h5; exact False.elim h5
          | some b =>
            cases b with
            | dk lk ks us =>
              cases lk with
              | true => simp only [q5] at h5; exact False.elim h5
              | false =>
                cases q6 : keyOf a with
                | none => simp only [q5, q6] at h5; exact False.elim h5
                | some ky =>
                  simp only [q5, q6] at h5
                  by_cases hz : ks.length < sizeLine
                  · rw [if_pos hz] at h5
                    obtain ⟨xs, hl, hx, r⟩ := s5.at_ _ _ q5
                    rw [if_neg Bool.false_ne_true, wD5] at hx
                    obtain ⟨pk, pl⟩ := putK_S (k := ky) (y := yv) hl
                    obtain ⟨e1, r2⟩ := putS_vr (k := ky) (ks := ks) vu r
                    refine ⟨ks.zip xs, ky, keyOf_ok va q6, hx, by rw [List.length_zip]; omega, W5, _, vs, hd', rfl, lw5, ?_, h5⟩
                    have sp := s5.put (o := .dK (putK (ks.zip xs) ky yv)) (b' := .dk false (putS ky u ks us).1 (putS ky u ks us).2) q5 ⟨(putS ky yv ks xs).2, by rw [e1]; exact pl, by rw [if_neg Bool.false_ne_true, upd_same, pk, e1], r2⟩
                    rw [wD5] at sp
                    exact sp
                  · rw [if_neg hz] at h5; exact False.elim h5
            | _ => simp only [q5] at h5; exact False.elim h5
    · rw [if_neg hsrc] at h; exact False.elim h
theorem m_dc (hc : X.calm = true) (hN : X.N.Nodup) (hi : PIm T X Ew tgE iter it) (ok : BlkOk X.N X.env.scope scope own) (hsl : ∀ i ∈ tg.slots, i ∈ own.map (·.2))
    (hg : ∀ (s : Shared) (H : Hp) (C : Addr) (cl : List (Str × Addr)) (fp : List Addr), PG (X.blk s H scope (compEnvC scope cl C X.env) fp) tgE (tg.g X.K)) (ht : ∀ (s : Shared) (H : Hp) (C : Addr) (cl : List (Str × Addr)) (fp : List Addr), PTs (X.blk s H scope (compEnvC scope cl C X.env) fp) ifs (rdT X.K T XW0 tst))
    (hk : ∀ (s : Shared) (H : Hp) (C : Addr) (cl : List (Str × Addr)) (fp : List Addr), PEm T (X.blk s H scope (compEnvC scope cl C X.env) fp) XW0 kx fk)
    (he : ∀ (s : Shared) (H : Hp) (C : Addr) (cl : List (Str × Addr)) (fp : List Addr), PEm T (X.blk s H scope (compEnvC scope cl C X.env) fp) XW0 vx fe) (hs : ∀ x, foldedSetIterable iter X.env x = pure x := by intro _; rfl) :
    PEm T X Ew (.DictComp kx vx [⟨tgE, iter, ifs, 0⟩] scope pos) (eDc it tg tst fk fe (own.map (·.2))) :=
  PE.to (pe_dc hc hN hi ok hg ht hk he hs) fun _ _ _ h => rd_dc hsl h
end
/-- len of a dict -/
def vLenD (vs : List Val) (S : Sto) : Res Val := match vs with
  | [.loc k] => match S.objs k with
    | some (.dk false ks _) => .ok (.int (ks.length : Nat)) S
    | _ => .st
  | [.dk ks _] => .ok (.int (ks.length : Nat)) S
  | _ => .st
theorem l_lenD {K : PySem.W.Frag} {T : Tbl} : OpL K T (fun xs H Q => ∃ a kvs, xs = [V.ref a] ∧ H a = some (.dK kvs) ∧ Q (.int kvs.length) H) vLenD := by
  intro W S H vs xs Q PX s r q
  unfold vLenD at q
  split at q
  · rename_i k
    cases r with
    | cons r1 r2 =>
      cases r2
      cases r1 with
      | loc hk =>
        cases e : S.objs k with
        | none => simp only [e] at q; exact False.elim q
        | some b =>
          cases b with
          | dk lk ks us =>
            cases lk with
            | true => simp only [e] at q; exact False.elim q
            | false =>
              simp only [e] at q
              obtain ⟨ys, hl, hy, _⟩ := s.at_ _ _ e
              rw [if_neg Bool.false_ne_true] at hy
              have el : ((ks.zip ys).length : Int) = (ks.length : Nat) := by rw [List.length_zip, ← hl, Nat.min_self]
              exact ⟨_, _, rfl, hy, by rw [el]; exact q.now s _ (.int _)⟩
          | _ => simp only [e] at q; exact False.elim q
  · cases r with
    | cons r1 r2 =>
      cases r2
      cases r1 with
      | @dk a ks us ys hl hy r =>
        refine ⟨_, _, rfl, s.sub _ _ hy, ?_⟩
        rw [List.length_zip, ← hl, Nat.min_self]
        exact q.now s _ (.int _)
  · exact False.elim q
end PM

/-! PM, part i: small rest -/
namespace PM
open PySem PySem.Spec L2
theorem b_len : bootBuiltins "len" = some (.builtin "len") := by decide +kernel
theorem b_isinstance : bootBuiltins "isinstance" = some (.builtin "isinstance") := by decide +kernel
theorem b_abs : bootBuiltins "abs" = some (.builtin "abs") := by decide +kernel
theorem b_all : bootBuiltins "all" = some (.builtin "all") := by decide +kernel
theorem b_any : bootBuiltins "any" = some (.builtin "any") := by decide +kernel
theorem b_min : bootBuiltins "min" = some (.builtin "min") := by decide +kernel
theorem b_max : bootBuiltins "max" = some (.builtin "max") := by decide +kernel
theorem b_sum : bootBuiltins "sum" = some (.builtin "sum") := by decide +kernel
theorem b_sorted : bootBuiltins "sorted" = some (.builtin "sorted") := by decide +kernel
theorem b_divmod : bootBuiltins "divmod" = some (.builtin "divmod") := by decide +kernel
theorem b_int : bootBuiltins "int" = some (.type "int") := by decide +kernel
theorem b_bool : bootBuiltins "bool" = some (.type "bool") := by decide +kernel
theorem b_str : bootBuiltins "str" = some (.type "str") := by decide +kernel
theorem b_list : bootBuiltins "list" = some (.type "list") := by decide +kernel
theorem b_tuple : bootBuiltins "tuple" = some (.type "tuple") := by decide +kernel
theorem b_dict : bootBuiltins "dict" = some (.type "dict") := by decide +kernel
theorem b_range : bootBuiltins "range" = some (.type "range") := by decide +kernel
theorem b_ValueError : bootBuiltins "ValueError" = some (.type "ValueError") := by decide +kernel

theorem m_ix {T : Tbl} {X : Cx} {Ew : XW} {a b : Expr} {fa fb : EM} {pos : Pos} (ha : PEm T X Ew a fa) (hb : PEm T X Ew b fb) (hs : PlainIx b := by exact fun _ _ => rfl) : PEm T X Ew (.Subscript a b pos) (eBin vIx fa fb) :=
  PE.to (pe_ix (IxR.or ix_list ix_tup) ha hb hs) fun _ _ _ h => rd_bin o_ix h
def vAddI (v w : Val) (S : Sto) : Res Val := match v, w with
  | .int i, .int j => .ok (.int (i + j)) S
  | _, _ => .st
theorem o_ipadd {K : PySem.W.Frag} {T : Tbl} : Op2 K T (ipI fun i j => i + j) vAddI := by
  intro W S H v w x y Q PX s vx vy q
  cases vx <;> first | (cases vy <;> exact False.elim q) | skip
  cases vy with
  | int j => exact ⟨_, j, rfl, rfl, q.now s _ (.int _)⟩
  | _ => exact False.elim q
theorem o_ipsub {K : PySem.W.Frag} {T : Tbl} : Op2 K T (ipI fun i j => i - j) vSub := by
  intro W S H v w x y Q PX s vx vy q
  cases vx <;> first | (cases vy <;> exact False.elim q) | skip
  cases vy with
  | int j => exact ⟨_, j, rfl, rfl, q.now s _ (.int _)⟩
  | _ => exact False.elim q
end PM

/-! PM, part j: try .. except -/
namespace PM
open PySem PySem.Spec L2

def Tbl.wx (T : Tbl) (e : Addr × Option Addr × Addr) : Tbl := { T with ex := some e }
mutual
def noErr : Val → Bool
  | .tup xs => noErrs xs
  | .lst xs => noErrs xs
  | .fz xs => noErrs xs
  | .dk _ vs => noErrs vs
  | .dt _ vs => noErrs vs
  | .ins _ vs => noErrs vs
  | .err _ _ => false
  | _ => true
def noErrs : List Val → Bool
  | [] => true
  | v :: vs => noErr v && noErrs vs
end
section
variable {K : PySem.W.Frag} {T : Tbl} {e : Addr × Option Addr × Addr} {W : Wd}
mutual
theorem VR.wx (h0 : T.ex = none) : ∀ {v : Val} {x : V}, VR K T W v x → VR K (T.wx e) W v x
  | _, _, .non => .non
  | _, _, .bl b => .bl b
  | _, _, .int b => .int b
  | _, _, .str b => .str b
  | _, _, .ty b => .ty b
  | _, _, .tup h r => .tup h (VRs.wx h0 r)
  | _, _, .lst h r => .lst h (VRs.wx h0 r)
  | _, _, .fz h r => .fz h (VRs.wx h0 r)
  | _, _, .dk z h r => .dk z h (VRs.wx h0 r)
  | _, _, .dt z h r => .dt z h (VRs.wx h0 r)
  | _, _, .ins c z h r => .ins (T := T.wx e) c z h (VRs.wx h0 r)
  | _, _, .loc h => .loc h
  | _, _, .cls h => .cls (T := T.wx e) h
  | _, _, .err0 a b c => by rw [h0] at a; cases a
  | _, _, .errd a b c d r => by rw [h0] at a; cases a
theorem VRs.wx (h0 : T.ex = none) : ∀ {vs : List Val} {xs : List V}, VRs K T W vs xs → VRs K (T.wx e) W vs xs
  | _, _, .nil => .nil
  | _, _, .cons a r => .cons (VR.wx h0 a) (VRs.wx h0 r)
end
mutual
theorem VR.unwx : ∀ {v : Val} {x : V}, VR K (T.wx e) W v x → noErr v = true → VR K T W v x
  | _, _, .non, _ => .non
  | _, _, .bl b, _ => .bl b
  | _, _, .int b, _ => .int b
  | _, _, .str b, _ => .str b
  | _, _, .ty b, _ => .ty b
  | _, _, .tup h r, q => .tup h (VRs.unwx r (by unfold noErr at q; exact q))
  | _, _, .lst h r, q => .lst h (VRs.unwx r (by unfold noErr at q; exact q))
  | _, _, .fz h r, q => .fz h (VRs.unwx r (by unfold noErr at q; exact q))
  | _, _, .dk z h r, q => .dk z h (VRs.unwx r (by unfold noErr at q; exact q))
  | _, _, .dt z h r, q => .dt z h (VRs.unwx r (by unfold noErr at q; exact q))
  | _, _, .ins c z h r, q => .ins (T := T) c z h (VRs.unwx r (by unfold noErr at q; exact q))
  | _, _, .loc h, _ => .loc h
  | _, _, .cls h, _ => .cls (T := T) h
  | _, _, .err0 a b c, q => by unfold noErr at q; cases q
  | _, _, .errd a b c d r, q => by unfold noErr at q; cases q
theorem VRs.unwx : ∀ {vs : List Val} {xs : List V}, VRs K (T.wx e) W vs xs → noErrs vs = true → VRs K T W vs xs
  | _, _, .nil, _ => .nil
  | _, _, .cons a r, q => by
    unfold noErrs at q
    rw [Bool.and_eq_true] at q
    exact .cons (VR.unwx a q.1) (VRs.unwx r q.2)
end
mutual
theorem VR.noErr (h0 : T.ex = none) : ∀ {v : Val} {x : V}, VR K T W v x → PM.noErr v = true
  | _, _, .non => rfl
  | _, _, .bl b => rfl
  | _, _, .int b => rfl
  | _, _, .str b => rfl
  | _, _, .ty b => rfl
  | _, _, .tup h r => by unfold PM.noErr; exact VRs.noErr h0 r
  | _, _, .lst h r => by unfold PM.noErr; exact VRs.noErr h0 r
  | _, _, .fz h r => by unfold PM.noErr; exact VRs.noErr h0 r
  | _, _, .dk z h r => by unfold PM.noErr; exact VRs.noErr h0 r
  | _, _, .dt z h r => by unfold PM.noErr; exact VRs.noErr h0 r
  | _, _, .ins c z h r => by unfold PM.noErr; exact VRs.noErr h0 r
  | _, _, .loc h => rfl
  | _, _, .cls h => rfl
  | _, _, .err0 a b c => by rw [h0] at a; cases a
  | _, _, .errd a b c d r => by rw [h0] at a; cases a
theorem VRs.noErr (h0 : T.ex = none) : ∀ {vs : List Val} {xs : List V}, VRs K T W vs xs → noErrs vs = true
  | _, _, .nil => rfl
  | _, _, .cons a r => by unfold noErrs; rw [VR.noErr h0 a, VRs.noErr h0 r]; rfl
end
def obErr : Ob → Bool
  | .lst xs => noErrs xs
  | .dk _ _ vs => noErrs vs
  | .dt _ _ vs => noErrs vs
  | .ins _ vs => noErrs vs
theorem OR.wx (h0 : T.ex = none) {H : Hp} {a : Addr} : ∀ {o : Ob}, OR K T W H a o → OR K (T.wx e) W H a o
  | .lst _, ⟨xs, h, r⟩ => ⟨xs, h, r.wx h0⟩
  | .dk _ _ _, ⟨xs, z, h, r⟩ => ⟨xs, z, h, r.wx h0⟩
  | .dt _ _ _, ⟨xs, z, h, r⟩ => ⟨xs, z, h, r.wx h0⟩
  | .ins _ _, ⟨C, dx, xs, c, z, h, r⟩ => ⟨C, dx, xs, c, z, h, r.wx h0⟩
theorem OR.unwx {H : Hp} {a : Addr} : ∀ {o : Ob}, OR K (T.wx e) W H a o → obErr o = true → OR K T W H a o
  | .lst _, ⟨xs, h, r⟩, q => ⟨xs, h, r.unwx q⟩
  | .dk _ _ _, ⟨xs, z, h, r⟩, q => ⟨xs, z, h, r.unwx q⟩
  | .dt _ _ _, ⟨xs, z, h, r⟩, q => ⟨xs, z, h, r.unwx q⟩
  | .ins _ _, ⟨C, dx, xs, c, z, h, r⟩, q => ⟨C, dx, xs, c, z, h, r.unwx q⟩
theorem OR.noErr (h0 : T.ex = none) {H : Hp} {a : Addr} : ∀ {o : Ob}, OR K T W H a o → obErr o = true
  | .lst _, ⟨xs, h, r⟩ => r.noErr h0
  | .dk _ _ _, ⟨xs, z, h, r⟩ => r.noErr h0
  | .dt _ _ _, ⟨xs, z, h, r⟩ => r.noErr h0
  | .ins _ _, ⟨C, dx, xs, c, z, h, r⟩ => r.noErr h0
theorem SR.wx (h0 : T.ex = none) {S : Sto} {H : Hp} (s : SR K T W S H) : SR K (T.wx e) W S H := ⟨s.nx, s.sub, s.lt, s.out, fun k o q => (s.at_ k o q).wx h0, s.inj⟩
theorem SR.unwx (h0 : T.ex = none) {W0 : Wd} {S0 S : Sto} {H0 H : Hp} (s0 : SR K T W0 S0 H0) (eq : S.objs = S0.objs) (s : SR K (T.wx e) W S H) : SR K T W S H :=
  ⟨s.nx, s.sub, s.lt, s.out, fun k o q => (s.at_ k o q).unwx ((s0.at_ k o (by rw [← eq]; exact q)).noErr h0), s.inj⟩
theorem ER.wx (h0 : T.ex = none) {ρ : Ev} {σ : L2.St} (r : ER K T W ρ σ) : ER K (T.wx e) W ρ σ := ⟨r.len, fun i v h => let ⟨x, a, b⟩ := r.get i v h; ⟨x, a, b.wx h0⟩⟩
theorem ER.unwx {ρ : Ev} {σ : L2.St} (r : ER K (T.wx e) W ρ σ) (q : ∀ (i : Nat) (v : Val), ρ[i]? = some (some v) → noErr v = true) : ER K T W ρ σ := ⟨r.len, fun i v h => let ⟨x, a, b⟩ := r.get i v h; ⟨x, a, b.unwx (q i v h)⟩⟩
end

open Classical in
/-- behind a suite: the error's name is gone, the store's objects as they were, no error handed out -/
noncomputable def suiteEnd (i : Nat) (S0 : Sto) : SRes → SRes
  | .rt v S => if noErr v = true ∧ S.objs = S0.objs then .rt v S else .st
  | .nx ρ S => if (∀ (j : Nat) (v : Val), (ρ.set i none)[j]? = some (some v) → noErr v = true) ∧ S.objs = S0.objs then .nx (ρ.set i none) S else .st
  | _ => .st
noncomputable def sTry (bd : SM) (i : Nat) (off : List Nat) (hs : List (Nat × SM)) : SM := fun ρ S => match bd ρ S with
  | .ex c vs ρ' S' => match hs.lookup c with
    | some s => suiteEnd i S' (s (ρ'.set i (some (.err c vs))) S')
    | none => if off.contains c then .ex c vs ρ' S' else .st
  | r => r
theorem lookup_mem {α : Type} {c : Nat} {s : α} : ∀ {l : List (Nat × α)}, l.lookup c = some s → (c, s) ∈ l
  | [], h => by simp at h
  | (k, x) :: l, h => by
    simp only [List.lookup] at h
    split at h
    · rename_i hb
      have e : c = k := by simpa using hb
      cases h
      rw [e]; exact List.mem_cons_self
    · exact List.mem_cons_of_mem _ (lookup_mem h)
section
variable {T : Tbl} {X : Cx} {Ew : XW} {x n : Str} {cv : Value} {i : Nat} {body suite : List Stmt} {b₀ : Stmt} {np pos pos' : Pos} {bd : SM} {off : List Nat} {hs : List (Nat × SM)}
theorem ms_try (h0 : T.ex = none) (hst : X.stack = X.env :: X.outer) (hf : X.env.frame = some X.env.locals) (hN : X.N.Nodup) (hi : X.N[i]? = some n) (hln : X.env.kindOf n = some .local) (hc : Names X x cv) (tk : Takes X Ew)
    (hon : ∀ p ∈ hs, ∀ C, T.cl p.1 = some C → PySem.W.exmOne X.K (.ref C) cv = some true) (hoff : ∀ c ∈ off, ∀ C, T.cl c = some C → PySem.W.exmOne X.K (.ref C) cv = some false)
    (hb : ∀ (W : XW) (pn : List (Addr × Obj)) (xe : Value → Shared → Prop), Takes (X.tr pn xe) W → PassesOwn (model X.prog X.w) X.A X.env xe → PBm T (X.tr pn xe) W body bd)
    (hsu : ∀ p ∈ hs, ∀ (C a : Addr) (oe : Obj) (d : Option Addr) (pn : List (Addr × Obj)), T.cl p.1 = some C → Zc (.ref C) d oe → (∃ vs, oe.data = .fields vs) → (T.fl p.1 = [] → d = none) → PBm (T.wx (a, d, C)) (X.suite a ((a, oe) :: pn)) XW0 (b₀ :: suite) p.2) :
    PSm T X Ew (.Try body [.ExceptHandler (some (.Name x np)) (some n) (b₀ :: suite) pos'] [] [] pos) (sTry bd i off hs) := by
  refine PS.to (ps_try_as (i := i) (tb := fun W => rdS X.K T W bd) (Wout := Ew) (ts := fun a cls d D σ H => ∃ p ∈ hs, ∃ C, T.cl p.1 = some C ∧ cls = .ref C ∧ (T.fl p.1 = [] → d = none) ∧ rdS X.K (T.wx (a, d, C)) XW0 p.2 D σ H)
    hst hf hN hi hln hc tk hb (fun a oe cls d pn hz hfd => ?_)) fun D σ H ⟨W, ρ, S, sr, er, h⟩ => ⟨W, ρ, S, sr, er, ?_⟩
  · refine ⟨fun pins s σ H D I ⟨p, hp, C, hC, ec, hd, h⟩ => ?_⟩
    subst ec
    exact (hsu p hp C a oe d pn hC hz hfd hd).run pins s σ H D I h
  · unfold sTry at h
    cases q : bd ρ S with
    | nx ρ' S' => simp only [q] at h; exact h
    | rt v S' => simp only [q] at h; exact h
    | bk ρ' S' => simp only [q] at h; exact h
    | ct ρ' S' => simp only [q] at h; exact h
    | st => simp only [q] at h; exact h
    | ex c vs ρ' S' =>
      simp only [q] at h
      intro W1 H1 σ1 cls od l1 s1 e1 xr
      obtain ⟨C, hC, rfl, hx⟩ := xr
      cases q2 : hs.lookup c with
      | none =>
        simp only [q2] at h
        by_cases ho : off.contains c = true
        · rw [if_pos ho] at h
          refine ⟨false, hoff c (by simpa using ho) C hC, (fun z => nomatch z), fun _ => ?_⟩
          exact h W1 H1 σ1 (.ref C) od l1 s1 e1 ⟨C, hC, rfl, hx⟩
        · rw [if_neg ho] at h; exact False.elim h
      | some s =>
        simp only [q2] at h
        have hm := lookup_mem q2
        refine ⟨true, hon _ hm C hC, fun _ a ha => ?_, fun z => nomatch z⟩
        refine ⟨(c, s), hm, C, hC, rfl, fun z => ?_, W1, ρ'.set i (some (.err c vs)), S', s1.wx h0, (e1.wx h0).set ?_, ?_⟩
        · rcases hx with ⟨_, _, z'⟩ | ⟨z', _⟩
          · exact z'
          · exact absurd z z'
        · rcases hx with ⟨z1, z2, z3⟩ | ⟨z1, d, xs, z2, z3, z4, z5⟩
          · subst z2 z3
            exact .err0 (T := T.wx (a, none, C)) rfl hC z1
          · subst z2
            exact .errd (T := T.wx (a, some d, C)) rfl hC z3 z4 (z5.wx h0)
        · have h' := SPo.wle l1 h
          dsimp only
          cases q3 : s (ρ'.set i (some (.err c vs))) S' with
          | rt v S2 =>
            rw [q3] at h'
            unfold suiteEnd at h'
            by_cases hcnd : noErr v = true ∧ S2.objs = S'.objs
            · simp only [if_pos hcnd] at h'
              exact fun W2 H2 y l2 s2 vy => h' W2 H2 y l2 (s1.unwx h0 hcnd.2 s2) (vy.unwx hcnd.1)
            · simp only [if_neg hcnd] at h'; exact False.elim h'
          | nx ρ2 S2 =>
            rw [q3] at h'
            unfold suiteEnd at h'
            by_cases hcnd : (∀ (j : Nat) (v : Val), (ρ2.set i none)[j]? = some (some v) → noErr v = true) ∧ S2.objs = S'.objs
            · simp only [if_pos hcnd] at h'
              exact fun W2 H2 σ2 l2 s2 e2 => h' W2 H2 (σ2.set i none) l2 (s1.unwx h0 hcnd.2 s2) (ER.unwx e2.forget hcnd.1)
            · simp only [if_neg hcnd] at h'; exact False.elim h'
          | bk ρ2 S2 => rw [q3] at h'; exact False.elim h'
          | ct ρ2 S2 => rw [q3] at h'; exact False.elim h'
          | ex c2 vs2 ρ2 S2 => rw [q3] at h'; exact False.elim h'
          | st => rw [q3] at h'; exact False.elim h'
end

/-! ### isinstance of the error, its class known -/
def eIsErr (i : Nat) (ft : EM) (b : Bool) : EM := fun ρ S => match ρ[i]? with
  | some (some (.err _ [])) => (ft ρ S).bind fun _ S1 => .ok (.bl b) S1
  | _ => .st
section
variable {T : Tbl} {X : Cx} {Ew : XW} {C a : Addr} {oe : Obj} {pn : List (Addr × Obj)} {n : Str} {p p2 p3 pos : Pos} {t : Expr} {ft : EM} {i : Nat} {b : Bool} {cv : Value} {z : V} {zv : Val}
theorem m_cls {x : Str} {c : Nat} {pos : Pos} (hg : Gl X x) (hm : X.mg x = some (.ref C)) (hc : T.cl c = some C) (hd : (x == ("__debug__" : Str)) = false := by decide) : PEm T X Ew (.Name x pos) (eC (.cls c)) :=
  m_glob (z := .ref C) hg hm rfl (fun _ => .cls hc) hd
theorem m_isErr (E : ExcC X.K C) (hz : Zc (.ref C) none oe) (hf : ∃ vs, oe.data = .fields vs) (hmi : X.mg "isinstance" = none) (hgi : Gl (X.suite a ((a, oe) :: pn)) "isinstance")
    (he : PE (X.suite a ((a, oe) :: pn)) (.Name n p) (tVar i)) (ht : PE (X.suite a ((a, oe) :: pn)) t (tC z)) (hz2 : ∀ u, RelV z u → u = cv) (hk : PySem.W.kitOne X.K (.ref C) cv = some b)
    (hs1 : starEach [.Name n p, t] (X.suite a ((a, oe) :: pn)).env = (false, eval (.Name n p) (X.suite a ((a, oe) :: pn)).env) :: starEach [t] (X.suite a ((a, oe) :: pn)).env := by rfl)
    (hs2 : starEach [t] (X.suite a ((a, oe) :: pn)).env = (false, eval t (X.suite a ((a, oe) :: pn)).env) :: starEach [] (X.suite a ((a, oe) :: pn)).env := by rfl)
    (hpl : (backTo pos (starEach [t] (X.suite a ((a, oe) :: pn)).env)).any (·.1) = false := by rfl) :
    PEm (T.wx (a, none, C)) (X.suite a ((a, oe) :: pn)) Ew (.Call (.Name "isinstance" p2) [.Name n p, t] [] pos) (eIsErr i (eC zv) b) := by
  refine PE.to (pe_callB (call_isE E hz hf) hgi hmi b_isinstance (pa_cons he (pa_cons ht pa_nil hs2) hs1) (by decide) (by decide) hs1 hpl) fun σ H Q h => ?_
  obtain ⟨W, ρ, S, s, er, h⟩ := h
  unfold eIsErr at h
  split at h
  · rename_i c hρ
    obtain ⟨y, hy, vy⟩ := er.get i _ hρ
    cases vy with
    | err0 h1 h2 h3 =>
      cases h1
      have h' : RP X.K (T.wx (a, none, C)) W (.ok (Val.bl b) S) (VP X.K (T.wx (a, none, C)) Q) (fun H' c o => Ew c o σ H') := h
      exact ⟨_, hy, z, cv, b, rfl, hz2, hk, h'.now s _ (.bl b)⟩
    | errd h1 _ _ _ _ => cases h1
  · exact False.elim h
end
theorem all_n {α : Type} {p : α → Prop} : ∀ x ∈ ([] : List α), p x := fun _ h => nomatch h
theorem all_c {α : Type} {p : α → Prop} {a : α} {l : List α} (h : p a) (t : ∀ x ∈ l, p x) : ∀ x ∈ a :: l, p x := fun x hx => by
  rcases List.mem_cons.mp hx with e | q
  · rw [e]; exact h
  · exact t x q
theorem Bd.tr {X : Cx} {Ew : XW} {k : Nat} (h : Bd X Ew k) {W : XW} (pn : List (Addr × Obj)) (xe : Value → Shared → Prop) (tk : Takes (X.tr pn xe) W) (hp : PassesOwn (model X.prog X.w) X.A X.env xe) : Bd (X.tr pn xe) W k := ⟨hp, h.calm, h.room, tk, h.nd⟩
end PM

/-! PM, part k: the end -/
namespace PM
open PySem PySem.Spec L2
def S0 : Sto := ⟨0, fun _ => none⟩
def spLaw (K : PySem.W.Frag) : Sp := fun vs H Q _ => ∃ (a : Addr) (ns : List Int), vs = [.ref a] ∧ SqL K H a (ns.map V.int) ∧ ns.length ≤ 63 ∧ ∀ H', Q (.bl true) H'
theorem law_end {P : Program} {w : World} {K : PySem.W.Frag} {mg : Str → Option Value} {base : Heap} {CX : CXT} {k : Nat} {f : Addr} {fd : FuncData} {ps : List Str} {T : Tbl} {F : FM} (L : FnOk P w K mg base CX k f fd ps (spD K T 1 F))
    (hF : ∀ ns : List Int, ns.length ≤ 63 → ∃ S', F [.fz (ns.map Val.int)] S0 = .ok (.bl true) S') : FnOk P w K mg base CX k f fd ps (spLaw K) := by
  refine L.imp fun vs H Q E h => ?_
  obtain ⟨a, ns, rfl, hS, hl, q⟩ := h
  obtain ⟨S', e⟩ := hF ns hl
  refine ⟨⟨H, fun _ => 0, 0⟩, [.fz (ns.map Val.int)], S0, rfl, ⟨rfl, fun _ _ h => h, fun _ _ h => (by cases h), fun _ _ h => (by cases h), fun _ _ h => (by cases h), fun _ _ _ _ h => (by cases h)⟩, .cons (.fz hS (VRs.ofInts ns)) .nil, ?_⟩
  rw [e]
  intro W' H' l s x vx
  cases vx
  exact q H'
theorem cx_false {P : Program} {w : World} {H : Hp} {s : Shared} {e : Value} {s' : Shared} (h : L2.CX P w [] H s (fun _ _ _ => False) e s') : False := by
  obtain ⟨_, _, _, _, _, _, _, _, _, _, _, _, z⟩ := h
  exact z
end PM

/-! PM, part l: bit operations, tuple * int, max and min of whole numbers -/
namespace PM
open PySem PySem.Spec L2 PyProof.Rows

/-! ### bits -/
def vAnd (v w : Val) (S : Sto) : Res Val := match v, w with
  | .int i, .int j => .ok (.int (Builtin.bitAnd i j)) S
  | _, _ => .st
def vShr (v w : Val) (S : Sto) : Res Val := match v, w with
  | .int i, .int j => if 0 ≤ j then .ok (.int (i / 2 ^ j.toNat)) S else .st
  | _, _ => .st
def vShl (v w : Val) (S : Sto) : Res Val := match v, w with
  | .int i, .int j => if 0 ≤ j ∧ j ≤ 1000 ∧ i.natAbs < 2 ^ 64 then .ok (.int (i * 2 ^ j.toNat)) S else .st
  | _, _ => .st
section
variable {K : PySem.W.Frag} {T : Tbl}
theorem o_and : Op2 K T (rI0 fun i j => .int (Builtin.bitAnd i j)) vAnd := o_int (f := fun i j => .int (Builtin.bitAnd i j)) (fun _ _ _ => .int _) fun v w S => by
  cases v <;> cases w <;> first | exact .inl ⟨_, _, rfl, rfl, rfl⟩ | exact .inr rfl
theorem o_shr : Op2 K T (rI (fun _ j => 0 ≤ j) fun i j => .int (i / 2 ^ j.toNat)) vShr := o_intC (f := fun i j => .int (i / 2 ^ j.toNat)) (fun _ _ _ => .int _) fun v w S => by
  cases v <;> cases w <;> first | exact .inr rfl | skip
  rename_i i j
  by_cases c : 0 ≤ j
  · exact .inl ⟨_, _, rfl, rfl, c, if_pos c⟩
  · exact .inr (if_neg c)
theorem o_shl : Op2 K T (rI CShl fun i j => .int (i * 2 ^ j.toNat)) vShl := o_intC (f := fun i j => .int (i * 2 ^ j.toNat)) (fun _ _ _ => .int _) fun v w S => by
  cases v <;> cases w <;> first | exact .inr rfl | skip
  rename_i i j
  by_cases c : 0 ≤ j ∧ j ≤ 1000 ∧ i.natAbs < 2 ^ 64
  · refine .inl ⟨_, _, rfl, rfl, ?_, if_pos c⟩
    obtain ⟨c1, c2, c3⟩ := c
    have := shl_ok (i := i) (j := j.toNat) (n := 64) c3 (by omega)
    rw [Int.toNat_of_nonneg c1] at this
    exact this
  · exact .inr (if_neg c)
end

/-! ### tuple * int, any count -/
section
variable {X : Cx}
theorem mul_one_tup (l : Addr) (items : Array Value) (n : Nat) (dd : Option Addr) (sl : Array (Option Value)) (x : Int) (u : Tok) (c0 : (decide (x < -(2 ^ 63)) || decide (x ≥ 2 ^ 63)) = false) (c1 : (items.isEmpty || x == 1) = true) :
    Meets (Builtin.«tuple.__mul__» ⟨[.ref l, .int x u], []⟩) (fun _ R s => s.heap.get? l = some { cls := .type "tuple", dict := dd, data := .seq items n, slots := sl } ∧ R (.ok (.ret (Value.ref l))) s) :=
  .of_wp fun prog w A R s h => by
    obtain ⟨hp, g, d, tk, os⟩ := s
    obtain ⟨hl, h⟩ := h
    have f1 := AutoSeq1.idx_int
    wp_walk using wpAny_loadPart' hl
    refine wpAny_ite_false (decide_eq_false (show ¬ ((decide (x < -(2 ^ 63)) || decide (x ≥ 2 ^ 63)) = true) by rw [c0]; exact Bool.false_ne_true)) ?_
    wp_walk using wpAny_loadPart' hl
    exact ⟨_, rfl, h⟩
theorem mul_no_tup (l : Addr) (items : Array Value) (n : Nat) (dd : Option Addr) (sl : Array (Option Value)) (x : Int) (u : Tok) (c0 : (decide (x < -(2 ^ 63)) || decide (x ≥ 2 ^ 63)) = false) (c1 : (items.isEmpty || x == 1) = false) (c2 : (decide (x ≤ 0) || items.isEmpty) = true) :
    Meets (Builtin.«tuple.__mul__» ⟨[.ref l, .int x u], []⟩) (fun _ R s => s.heap.get? l = some { cls := .type "tuple", dict := dd, data := .seq items n, slots := sl } ∧
      R (.ok (.ret (Value.ref s.heap.objs.size))) { s with heap := s.heap.push { cls := Value.type "tuple", data := Data.seq #[] }, toks := s.toks }) :=
  .of_wp fun prog w A R s h => by
    obtain ⟨hp, g, d, tk, os⟩ := s
    obtain ⟨hl, h⟩ := h
    have f1 := AutoSeq1.idx_int
    wp_walk using wpAny_loadPart' hl
    refine wpAny_ite_false (decide_eq_false (show ¬ ((decide (x < -(2 ^ 63)) || decide (x ≥ 2 ^ 63)) = true) by rw [c0]; exact Bool.false_ne_true)) ?_
    wp_walk using wpAny_loadPart' hl
    exact ⟨_, rfl, h⟩
/-- t * k, k any small number -/
def rRepA (K : PySem.W.Frag) : R2 := fun x y H Q => ∃ l k xs, x = .ref l ∧ y = .int k ∧ SqT K H l xs ∧ -1000 ≤ k ∧ k ≤ 1000 ∧ xs.length ≤ 1000 ∧
  (if xs = [] ∨ k = 1 then Q (.ref l) H else ∀ p, H p = none → Q (.ref p) (upd H p (.tup (List.replicate k.toNat xs).flatten)))
theorem op_repA : OpR X (binaryOp .Mult) (rRepA X.K) := by
  intro pins s σ H x y v u Q I rx ry h
  obtain ⟨l, k, xs, rfl, rfl, hT, h0, h2, hz, q⟩ := h
  by_cases big : xs ≠ [] ∧ 2 ≤ k
  · rw [if_neg (by intro z; rcases z with z | z; exact big.1 z; omega)] at q
    exact op_repT pins s σ H _ _ v u Q I rx ry ⟨l, k, xs, rfl, rfl, hT, big.1, big.2, h2, hz, q⟩
  cases rx
  obtain ⟨t, rfl⟩ := ry
  obtain ⟨its, r, ⟨⟨cls, dd, data, sl⟩, ho, hc, n, hd⟩, hs⟩ := I.tuple hT
  simp only at hc hd
  subst hc hd
  have c0 : (decide (k < -(2 ^ 63)) || decide (k ≥ 2 ^ 63)) = false := by rw [decide_eq_false (by omega), decide_eq_false (by omega)] <;> rfl
  have he : its = [] ↔ xs = [] := by
    have := r.length
    constructor
    · intro e; rw [e] at this; exact List.eq_nil_of_length_eq_zero this
    · intro e; rw [e] at this; exact List.eq_nil_of_length_eq_zero this.symm
  by_cases same : xs = [] ∨ k = 1
  · rw [if_pos same] at q
    have c1 : (its.toArray.isEmpty || k == 1) = true := by
      rcases same with z | z
      · rw [he.mpr z]; rfl
      · rw [z]; simp
    exact wpAny_binaryOp_repeat_ref (T := "tuple") (U := "int") (by decide) ⟨_, ho, rfl⟩ (fun s' => typeIs_int s' k t) noFill_tuple_mul F.fills_int_mul F.slot_int_rmul repeat_tuple F.slot_int_index.lookup
      (call_meets F.slot_int_rmul (typeIs_int s k t) F.entry_int_rmul (F.args_int_rmul_2 _ _) (int_rmul_tuple k t l its.toArray n dd sl)
        ⟨ho, rfl, ⟨_, ho, rfl⟩, call_meets F.slot_tuple_mul ⟨_, ho, rfl⟩ F.entry_tuple_mul (F.args_tuple_mul_2 _ _) (mul_one_tup l its.toArray n dd sl k t c0 c1) ⟨ho, ⟨.ref l, H, I, rfl, q⟩⟩⟩)
  · rw [if_neg same] at q
    have hn : its ≠ [] := fun e => same (.inl (he.mp e))
    have hk : k ≤ 0 := by
      have h1 : xs ≠ [] := fun e => same (.inl e)
      have h3 : ¬ 2 ≤ k := fun z => big ⟨h1, z⟩
      have h4 : k ≠ 1 := fun z => same (.inr z)
      omega
    have hi : its.toArray.isEmpty = false := by cases its with | nil => exact absurd rfl hn | cons a b => rfl
    have c1 : (its.toArray.isEmpty || k == 1) = false := by rw [hi, Bool.false_or]; exact beq_eq_false_iff_ne.mpr (by omega)
    have c2 : (decide (k ≤ 0) || its.toArray.isEmpty) = true := by rw [decide_eq_true hk]; rfl
    have e0 : k.toNat = 0 := by omega
    rw [e0] at q
    refine wpAny_binaryOp_repeat_ref (T := "tuple") (U := "int") (by decide) ⟨_, ho, rfl⟩ (fun s' => typeIs_int s' k t) noFill_tuple_mul F.fills_int_mul F.slot_int_rmul repeat_tuple F.slot_int_index.lookup
      (call_meets F.slot_int_rmul (typeIs_int s k t) F.entry_int_rmul (F.args_int_rmul_2 _ _) (int_rmul_tuple k t l its.toArray n dd sl)
        ⟨ho, rfl, ⟨_, ho, rfl⟩, call_meets F.slot_tuple_mul ⟨_, ho, rfl⟩ F.entry_tuple_mul (F.args_tuple_mul_2 _ _) (mul_no_tup l its.toArray n dd sl k t c0 c1 c2) ⟨ho, ?_⟩⟩)
    exact ⟨.ref s.heap.objs.size, _, I.laid (t' := s.toks) (o := .tup []) (fun b ob q => Heap.get?_push_of_some _ q) (Nat.le_refl _) ⟨Nat.zero_le _, [], .nil, IsTup.new _ _⟩, rfl, q _ (I.hok.fresh (Nat.le_refl _))⟩
def vRepT (v w : Val) (S : Sto) : Res Val := match v, w with
  | .tup xs, .int k => if -1000 ≤ k ∧ k ≤ 1000 ∧ xs.length ≤ 1000 then .ok (.tup (List.replicate k.toNat xs).flatten) S else .st
  | _, _ => .st
theorem VRs.rep {K : PySem.W.Frag} {T : Tbl} {W : Wd} {vs : List Val} {xs : List V} (r : VRs K T W vs xs) : ∀ n, VRs K T W (List.replicate n vs).flatten (List.replicate n xs).flatten
  | 0 => .nil
  | n + 1 => by
    rw [List.replicate_succ, List.replicate_succ, List.flatten_cons, List.flatten_cons]
    exact r.append (VRs.rep r n)
theorem o_repT {K : PySem.W.Frag} {T : Tbl} : Op2 K T (rRepA K) vRepT := by
  intro W S H v w x y Q PX s vx vy q
  cases v with
  | tup vs =>
    cases w with
    | int k =>
      unfold vRepT at q
      simp only at q
      by_cases c : -1000 ≤ k ∧ k ≤ 1000 ∧ vs.length ≤ 1000
      · rw [if_pos c] at q
        have vx' := vx
        obtain ⟨a, xs, rfl, hT, r⟩ := tup_ok s vx
        cases vy
        refine ⟨a, k, xs, rfl, rfl, hT, c.1, c.2.1, by rw [← r.length]; exact c.2.2, ?_⟩
        by_cases same : xs = [] ∨ k = 1
        · rw [if_pos same]
          have e : (List.replicate k.toNat vs).flatten = vs := by
            rcases same with z | z
            · have hv : vs = [] := List.eq_nil_of_length_eq_zero (by rw [r.length, z]; rfl)
              rw [hv]; simp
            · rw [z]; simp
          rw [e] at q
          exact q.now s _ vx'
        · rw [if_neg same]
          intro p hp
          have l : WLe W (W.add p (.tup (List.replicate k.toNat xs).flatten)) := .add (s.free hp)
          exact q _ _ l (s.add hp) _ (.tup (.inl upd_same) ((VRs.rep r k.toNat).mono l))
      · rw [if_neg c] at q; exact False.elim q
    | _ => exact False.elim q
  | _ => exact False.elim q

/-! ### max, min of whole numbers -/
def rBest (K : PySem.W.Frag) (f : Int → Int → Int) : List V → Hp → VK → Prop := fun vs H Q => ∃ (a : Addr) (n : Int) (ns : List Int), vs = [V.ref a] ∧ (SqL K H a ((n :: ns).map V.int) ∨ SqT K H a ((n :: ns).map V.int)) ∧ Q (.int (ns.foldl f n)) H
theorem reads_ints {h : Heap} {vs : List Value} {ns : List Int} (e : IntsAre vs ns) : ReadsAll h vs (ns.map .int) [] := by
  induction e with
  | nil => exact .nil
  | cons n t _ ih => exact .cons (.int n t) ih
theorem alike_all_ints (ns : List Int) : PySem.W.AlikeAll (ns.map .int) := by
  refine ⟨fun x hx y hy => ?_, fun x hx => ?_⟩
  · obtain ⟨i, _, rfl⟩ := List.mem_map.mp hx
    obtain ⟨j, _, rfl⟩ := List.mem_map.mp hy
    unfold PySem.W.alike; rfl
  · obtain ⟨i, _, rfl⟩ := List.mem_map.mp hx
    exact fun z => nomatch z
theorem dep_ints : ∀ ns : List Int, PyData.depthAll (ns.map .int) = 0
  | [] => by unfold PyData.depthAll; rfl
  | n :: ns => by
    rw [List.map_cons]
    unfold PyData.depthAll PyData.depth
    rw [dep_ints ns]; rfl
theorem tup_isTuple {h : Heap} {a : Addr} {its : Array Value} (t : IsTup h a its) : h.IsTuple a its := by
  obtain ⟨o, h1, h2, n, h3⟩ := t
  exact ⟨o, h1, h2, n, h3⟩
variable (hc : X.calm = true) (hu : X.A.units + 64 < cLine)
include hc hu
theorem cr_max : CallR X (.builtin "max") (rBest X.K max) := by
  intro pins s σ H vs us Q I r h
  obtain ⟨a, n, ns, rfl, hs, q⟩ := h
  rw [Vals.ref1 r]
  have dep : X.A.units + 1 + PyData.depthAll (.int n :: ns.map .int) < cLine := by
    have := dep_ints (n :: ns)
    rw [List.map_cons] at this
    rw [this]; omega
  have fin : ∀ (v : Value) (h' : Heap) (tk : Nat) (bs : List Addr), Reads h' v (PySem.W.maxD (.int n) (ns.map .int)) bs → (∀ b o, s.heap.get? b = some o → h'.get? b = some o) → ∃ y H', Inv X pins σ H' { s with heap := h', toks := tk } ∧ RelV y v ∧ Q y H' := fun v h' tk bs rd k => by
    rw [PySem.W.maxD_ints] at rd
    cases rd with
    | int i t => exact ⟨.int _, H, I.kept k, ⟨t, rfl⟩, q⟩
  rcases hs with hs | hs
  · obtain ⟨its, rv, hl, _⟩ := I.list hs
    exact PySem.W.max_list_data (I.ok.hd hc) hl.isList (reads_ints rv.ints) (alike_all_ints (n :: ns)) dep fun i v h' tk bs _ rd k => fin v h' tk bs rd k
  · obtain ⟨its, rv, hl, _⟩ := I.tuple hs
    exact PySem.W.max_tuple_data (I.ok.hd hc) (tup_isTuple hl) (reads_ints rv.ints) (alike_all_ints (n :: ns)) dep fun i v h' tk bs _ rd k => fin v h' tk bs rd k
theorem cr_min : CallR X (.builtin "min") (rBest X.K min) := by
  intro pins s σ H vs us Q I r h
  obtain ⟨a, n, ns, rfl, hs, q⟩ := h
  rw [Vals.ref1 r]
  have dep : X.A.units + 1 + PyData.depthAll (.int n :: ns.map .int) < cLine := by
    have := dep_ints (n :: ns)
    rw [List.map_cons] at this
    rw [this]; omega
  have fin : ∀ (v : Value) (h' : Heap) (tk : Nat) (bs : List Addr), Reads h' v (PySem.W.minD (.int n) (ns.map .int)) bs → (∀ b o, s.heap.get? b = some o → h'.get? b = some o) → ∃ y H', Inv X pins σ H' { s with heap := h', toks := tk } ∧ RelV y v ∧ Q y H' := fun v h' tk bs rd k => by
    rw [PySem.W.minD_ints] at rd
    cases rd with
    | int i t => exact ⟨.int _, H, I.kept k, ⟨t, rfl⟩, q⟩
  rcases hs with hs | hs
  · obtain ⟨its, rv, hl, _⟩ := I.list hs
    exact PySem.W.min_list_data (I.ok.hd hc) hl.isList (reads_ints rv.ints) (alike_all_ints (n :: ns)) dep fun i v h' tk bs _ rd k => fin v h' tk bs rd k
  · obtain ⟨its, rv, hl, _⟩ := I.tuple hs
    exact PySem.W.min_tuple_data (I.ok.hd hc) (tup_isTuple hl) (reads_ints rv.ints) (alike_all_ints (n :: ns)) dep fun i v h' tk bs _ rd k => fin v h' tk bs rd k
end
/-- max, min of a list or a tuple of whole numbers -/
def vBest (f : Int → Int → Int) (vs : List Val) (S : Sto) : Res Val := match vs with
  | [.tup xs] => match intsOf xs with
    | some (n :: ns) => .ok (.int (ns.foldl f n)) S
    | _ => .st
  | [v] => match (lstOf S v).bind intsOf with
    | some (n :: ns) => .ok (.int (ns.foldl f n)) S
    | _ => .st
  | _ => .st
theorem l_best {K : PySem.W.Frag} {T : Tbl} (f : Int → Int → Int) : OpL K T (rBest K f) (vBest f) := by
  intro W S H vs xs Q PX s r q
  have lists : ∀ {v : Val} {x : V}, VR K T W v x → RP K T W (match (lstOf S v).bind intsOf with
    | some (n :: ns) => Res.ok (Val.int (ns.foldl f n)) S
    | _ => .st) (VP K T Q) PX → rBest K f [x] H Q := fun {v x} r1 q => by
    cases e : lstOf S v with
    | none => rw [e] at q; exact False.elim q
    | some ys =>
      rw [e] at q
      simp only [Option.bind] at q
      cases e2 : intsOf ys with
      | none => rw [e2] at q; exact False.elim q
      | some ms =>
        rw [e2] at q
        cases ms with
        | nil => exact False.elim q
        | cons n ns =>
          obtain ⟨a, zs, rfl, hz, rz⟩ := lstOf_ok s r1 e
          rw [intsOf_eq e2] at rz
          have ez := rz.ints
          subst ez
          exact ⟨a, n, ns, rfl, .inl hz, q.now s _ (.int _)⟩
  unfold vBest at q
  split at q
  · rename_i ys
    cases r with
    | cons r1 r2 =>
      cases r2
      cases e2 : intsOf ys with
      | none => rw [e2] at q; exact False.elim q
      | some ms =>
        rw [e2] at q
        cases ms with
        | nil => exact False.elim q
        | cons n ns =>
          obtain ⟨a, zs, rfl, hz, rz⟩ := tup_ok s r1
          rw [intsOf_eq e2] at rz
          have ez := rz.ints
          subst ez
          exact ⟨a, n, ns, rfl, .inr hz, q.now s _ (.int _)⟩
  · cases r with
    | cons r1 r2 => cases r2; exact lists r1 q
  · exact False.elim q

/-! ### any of a tuple of whole numbers -/
theorem truth_nums {prog : Program} {w : World} {A : Around} {ns : List Int} {its : List Value} (e : IntsAre its ns) : TruthOf prog w A (fun i v => its.toArray[i]? = some v) (fun i => ns.getD i 0 != 0) := fun i v s Q E hv hq => by
  have hv' : its[i]? = some v := by simpa using hv
  have : ∀ {its : List Value} {ns : List Int}, IntsAre its ns → ∀ (i : Nat) (v : Value), its[i]? = some v → ∃ t, v = .int (ns.getD i 0) t := fun {its ns} e => by
    induction e with
    | nil => intro i v h; cases h
    | cons n t _ ih =>
      intro i v h
      cases i with
      | zero => cases h; exact ⟨t, rfl⟩
      | succ i => exact ih i v h
  obtain ⟨t, rfl⟩ := this e i v hv'
  exact PyProof.Rows.truthy_int hq
theorem any_nums : ∀ ns : List Int, (List.range ns.length).any (fun i => ns.getD i 0 != 0) = ns.any (· != 0)
  | [] => rfl
  | n :: ns => by
    have e := any_nums ns
    rw [List.length_cons, List.range_succ_eq_map, List.any_cons, List.any_map, List.any_cons, ← e]; rfl
def rAnyI (K : PySem.W.Frag) : List V → Hp → VK → Prop := fun vs H Q => ∃ (a : Addr) (ns : List Int), vs = [V.ref a] ∧ SqT K H a (ns.map V.int) ∧ Q (.bl (ns.any (· != 0))) H
theorem cr_anyI {X : Cx} (hc : X.calm = true) : CallR X (.builtin "any") (rAnyI X.K) := by
  intro pins s σ H vs us Q I r h
  obtain ⟨a, ns, rfl, hs, q⟩ := h
  obtain ⟨its, rv, hl, _⟩ := I.tuple hs
  rw [Vals.ref1 r]
  have hb := rv.ints
  have ht := tup_isTuple hl
  have hne : a ≠ s.heap.objs.size := by obtain ⟨_, e, _⟩ := ht; exact Nat.ne_of_lt (Heap.lt_size e)
  have hlen : ns.length = its.toArray.size := by rw [List.size_toArray, ← rv.length, List.length_map]
  refine call_any_walk (wpAny_pyIter_tuple ht ?_)
  refine ⟨_, _, _, _, _, _, _, rfl, Walks.tuple (A := X.A.in1) (I.ok.hd hc) _ a hne its.toArray, ⟨⟨_, Heap.get?_push_size _ rfl, rfl, rfl⟩, ?_⟩, truth_nums hb, fun h' tk hk => ?_⟩
  · obtain ⟨o, h1, h2, n, h3⟩ := ht
    exact ⟨o, Heap.get?_push_of_some _ h1, h2, n, h3⟩
  · rw [← hlen, any_nums]
    refine ⟨.bl _, H, I.kept fun b o eo => hk b o (fun hmem => ?_) (Heap.get?_push_of_some _ eo), rfl, q⟩
    rcases List.mem_cons.mp hmem with e1 | hmem
    · exact absurd (e1 ▸ Heap.lt_size eo) (Nat.lt_irrefl _)
    · cases hmem
def vAnyI (vs : List Val) (S : Sto) : Res Val := match vs with
  | [.tup xs] => match intsOf xs with
    | some ns => .ok (.bl (ns.any (· != 0))) S
    | none => .st
  | _ => .st
theorem l_anyI {K : PySem.W.Frag} {T : Tbl} : OpL K T (rAnyI K) vAnyI := by
  intro W S H vs xs Q PX s r q
  unfold vAnyI at q
  split at q
  · rename_i ys
    cases r with
    | cons r1 r2 =>
      cases r2
      cases e2 : intsOf ys with
      | none => rw [e2] at q; exact False.elim q
      | some ms =>
        rw [e2] at q
        obtain ⟨a, zs, rfl, hz, rz⟩ := tup_ok s r1
        rw [intsOf_eq e2] at rz
        have ez := rz.ints
        subst ez
        exact ⟨a, ms, rfl, hz, q.now s _ (.bl _)⟩
  · exact False.elim q
end PM

/-! PM, part m: texts -/
namespace PM
open PySem PySem.Spec L2
def strsOf : List Val → Option (List Str)
  | [] => some []
  | .str i :: vs => (strsOf vs).map (i :: ·)
  | _ :: _ => none
theorem strsOf_eq : ∀ {vs : List Val} {ns : List Str}, strsOf vs = some ns → vs = ns.map Val.str
  | [], _, h => by cases h; rfl
  | v :: vs, ns, h => by
    cases v with
    | str i =>
      unfold strsOf at h
      cases e : strsOf vs with
      | none => rw [e] at h; cases h
      | some ms => rw [e] at h; cases h; rw [strsOf_eq e]; rfl
    | _ => cases h
theorem VRs.strs {K : PySem.W.Frag} {T : Tbl} {W : Wd} : ∀ {ns : List Str} {xs : List V}, VRs K T W (ns.map Val.str) xs → xs = ns.map V.str
  | [], _, r => by cases r; rfl
  | n :: ns, _, r => by
    cases r with
    | cons r1 r2 => cases r1; rw [VRs.strs r2]; rfl
def isStr (v : Val) (S : Sto) : Bool := match v with
  | .str _ => true
  | _ => false
theorem isStr_ok {K : PySem.W.Frag} {T : Tbl} (W : Wd) (S : Sto) (H : Hp) (v : Val) (y : V) (s : SR K T W S H) (r : VR K T W v y) (h : isStr v S = true) : tyV K "str" y H := by
  cases r <;> first | rfl | (cases h; done)
def vJoin (v : Val) (vs : List Val) (S : Sto) : Res Val := match v, vs with
  | .str a, [.tup ys] => match strsOf ys with
    | some zs => if (zs.map (·.length)).sum + zs.length * a.length ≤ 16777216 then .ok (.str (Txt.join a zs)) S else .st
    | none => .st
  | .str a, [w] => match (lstOf S w).bind strsOf with
    | some zs => if (zs.map (·.length)).sum + zs.length * a.length ≤ 16777216 then .ok (.str (Txt.join a zs)) S else .st
    | none => .st
  | _, _ => .st
def rJoin (K : PySem.W.Frag) : V → List V → Hp → VK → Prop := fun x xs H Q => ∃ a p, ∃ ys : List Str, x = .str a ∧ xs = [.ref p] ∧ (SqL K H p (ys.map V.str) ∨ SqT K H p (ys.map V.str)) ∧ (ys.map (·.length)).sum + ys.length * a.length ≤ 16777216 ∧ Q (.str (Txt.join a ys)) H
theorem w_join {K : PySem.W.Frag} {T : Tbl} : OpM K T (rJoin K) vJoin := by
  intro W S H v y vs xs Q PX s rv r q
  unfold vJoin at q
  split at q
  · rename_i a ys
    cases rv
    cases r with
    | cons r1 r2 =>
      cases r2
      cases e2 : strsOf ys with
      | none => rw [e2] at q; exact False.elim q
      | some ms =>
        rw [e2] at q
        dsimp only at q
        by_cases hz : (ms.map (·.length)).sum + ms.length * a.length ≤ 16777216
        · rw [if_pos hz] at q
          obtain ⟨p, zs, rfl, hp, rz⟩ := tup_ok s r1
          rw [strsOf_eq e2] at rz
          have ez := rz.strs
          subst ez
          exact ⟨a, p, ms, rfl, rfl, .inr hp, hz, q.now s _ (.str _)⟩
        · rw [if_neg hz] at q; exact False.elim q
  · rename_i a w _
    cases rv
    cases r with
    | cons r1 r2 =>
      cases r2
      cases e : lstOf S w with
      | none => rw [e] at q; exact False.elim q
      | some ys =>
        rw [e] at q
        simp only [Option.bind] at q
        cases e2 : strsOf ys with
        | none => rw [e2] at q; exact False.elim q
        | some ms =>
          rw [e2] at q
          dsimp only at q
          by_cases hz : (ms.map (·.length)).sum + ms.length * a.length ≤ 16777216
          · rw [if_pos hz] at q
            obtain ⟨p, zs, rfl, hp, rz⟩ := lstOf_ok s r1 e
            rw [strsOf_eq e2] at rz
            have ez := rz.strs
            subst ez
            exact ⟨a, p, ms, rfl, rfl, .inl hp, hz, q.now s _ (.str _)⟩
          · rw [if_neg hz] at q; exact False.elim q
  · exact False.elim q
/-! ### scopes of comprehensions that hold others -/
def bodyAt (s : Stmt) (i : Nat) : Stmt := (defBody s).getD i (.Pass ⟨0, 0, 0, 0⟩)
def lcScope : Expr → Scope
  | .ListComp _ _ sc _ => sc
  | _ => defScope (.Pass ⟨0, 0, 0, 0⟩)
def retScope : Stmt → Scope
  | .Return (some e) _ => lcScope e
  | .Assign _ e _ => lcScope e
  | _ => defScope (.Pass ⟨0, 0, 0, 0⟩)
theorem look_kinds {f : Str × NameKind → Str × NameKind} (hk : ∀ p, (f p).1 = p.1) (hc : ∀ p, p.2 = .cell → (f p).2 = .cell) (hf : ∀ p, p.2 = .free → (f p).2 = .cell ∨ (f p).2 = .free) : ∀ {l : List (Str × NameKind)} {x : Str},
    (l.lookup x = some .cell ∨ l.lookup x = some .free) → ((l.map f).lookup x = some .cell ∨ (l.map f).lookup x = some .free)
  | [], x, h => by rcases h with h | h <;> cases h
  | p :: l, x, h => by
    obtain ⟨n, k⟩ := p
    rw [List.map_cons]
    have e := hk (n, k)
    rw [show f (n, k) = ((f (n, k)).1, (f (n, k)).2) from rfl, e]
    simp only [List.lookup] at h ⊢
    cases q : x == n with
    | true =>
      rw [q] at h
      rcases h with h | h
      · exact .inl (congrArg some (hc (n, k) (Option.some.inj h)))
      · rcases hf (n, k) (Option.some.inj h) with z | z
        · exact .inl (congrArg some z)
        · exact .inr (congrArg some z)
    | false => rw [q] at h; exact look_kinds hk hc hf h
theorem blkOk_nest {N : List Str} {sc scope : Scope} {own : List (Str × Nat)} {cl : List (Str × Addr)} {C : Addr} {env : Env} (h : BlkOk N sc scope own) : BlkOk N (compEnvC sc cl C env).scope scope own := by
  refine ⟨h.kind, h.uniq, h.ix, fun y hy hfr => ?_, h.own⟩
  have := h.free y hy hfr
  unfold compEnvC relabel
  refine look_kinds (fun p => ?_) (fun p hp => ?_) (fun p hp => ?_) this
  · obtain ⟨n, k⟩ := p; dsimp only; split <;> rfl
  · obtain ⟨n, k⟩ := p; cases hp; dsimp only; split <;> rfl
  · obtain ⟨n, k⟩ := p; cases hp; dsimp only; split <;> first | exact .inl rfl | exact .inr rfl
end PM

/-! PM, part n: sorted of a tuple of whole numbers -/
namespace PM
open PySem PySem.Spec L2 PyProof.Rows
section
variable {prog : Program} {w : World} {A : Around} {E : Value → Shared → Prop} {s : Shared}
theorem gather_tup {t : Addr} {vs : List Value} {Q : List Value → Shared → Prop} (ht : s.heap.IsTuple t vs.toArray) (hz : vs.length ≤ sizeLine)
    (h : Q vs { s with heap := (s.heap.push (seqObj "list" #[] 0)).update s.heap.objs.size (Obj.mapSeq (· ++ vs.toArray)) }) : wpAny (model prog w) A (collect (.ref t)) Q E s := by
  obtain ⟨o, eo, ec, n, ed⟩ := ht
  have eo2 : (s.heap.push (seqObj "list" #[] 0)).get? t = some o := Heap.get?_push_of_some _ eo
  unfold collect; refine wpAny_bind (wpAny_runValue (codeAny_builtin entry_proto_collect' ?_))
  show wpAny _ _ (do again (.builtin "list.__iadd__" ⟨[← newList [], .ref t], []⟩)) _ _ s
  refine wpAny_bind (wpAny_newList (wpAny_pure ⟨Code.quiet_builtin _ (by decide +kernel), codeAny_builtin entry_list_iadd' (?_ : wpAny _ _ (Builtin.List.listExtendWith (.ref s.heap.objs.size) (.ref t) (.ref s.heap.objs.size)) _ _ { s with heap := s.heap.push (seqObj "list" #[] 0) })⟩))
  unfold Builtin.List.listExtendWith; refine wpAny_bind (wpAny_typeOf (T := "tuple") ⟨o, eo2, ec⟩ ?_)
  have tt : (Value.type "tuple" == Value.type "tuple") = true := rfl
  rw [if_pos (by simp [tt])]
  refine wpAny_bind (listItems_at eo2 ed (wpAny_bind (listItems_at (xs := #[]) (n := 0) (Heap.get?_push_size _ rfl) rfl ?_)))
  rw [if_neg (by simp)]
  refine wpAny_bind (listUpdate_at (xs := #[]) (n := 0) (Heap.get?_push_size _ rfl) rfl (wpAny_pure ?_) (Nat.zero_le _) (by simp; omega))
  show wpAny (model prog w) A (do
    let ob ← load s.heap.objs.size
    match ob.data with
    | .seq xs _ => pure xs.toList
    | _ => unsupported "internal:collect") Q E { s with heap := (s.heap.push (seqObj "list" #[] 0)).update s.heap.objs.size (Obj.mapSeq (· ++ vs.toArray)) }
  refine wpAny_bind (wpAny_load (get?_update_seq (Heap.get?_push_size _ rfl) _) (?_ : wpAny _ _ (pure ((#[] : Array Value) ++ vs.toArray).toList) Q E _))
  rw [show ((#[] : Array Value) ++ vs.toArray).toList = vs by simp]; exact wpAny_pure h
theorem sorted_tup {t : Addr} {vs : List Value} {ltv : Value → Value → Bool} {Q : Value → Shared → Prop} (O : SrtO.Swo ltv) (ht : s.heap.IsTuple t vs.toArray) (hz : vs.length ≤ sizeLine)
    (hS : 2 ≤ vs.length → ∀ (h₁ : Heap) (a : Addr), h₁.get? a = some (seqObj "list" vs.toArray 0) → (∀ b o, s.heap.get? b = some o → b ≠ a ∧ h₁.get? b = some o) → SrtO.SortableO prog w A.in1.in1 { s with heap := h₁ } a vs ltv)
    (h : ∀ out : List Value, SrtO.Srtd ltv out → SrtO.Stb ltv out vs → Q (.ref (s.heap.objs.size + 1)) { s with heap := sortedAll s.heap vs out.toArray }) : wpAny (model prog w) A (call (.builtin "sorted") [.ref t]) Q E s := by
  have sz : ((s.heap.push (seqObj "list" #[] 0)).update s.heap.objs.size (Obj.mapSeq (· ++ vs.toArray))).objs.size = s.heap.objs.size + 1 := by rw [Heap.size_update, size_push']
  generalize hg : ((s.heap.push (seqObj "list" #[] 0)).update s.heap.objs.size (Obj.mapSeq (· ++ vs.toArray))) = g at sz
  have old : ∀ b o, s.heap.get? b = some o → g.get? b = some o := fun b o e => by
    have lt := Heap.lt_size e
    rw [← hg, Heap.get?_update_ne _ _ _ _ (Nat.ne_of_lt lt)]; exact Heap.get?_push_of_some _ e
  have new : (g.push (seqObj "list" vs.toArray 0)).get? (s.heap.objs.size + 1) = some (seqObj "list" vs.toArray 0) := by rw [← sz]; exact Heap.get?_push_size _ rfl
  refine Calls.call_function_entry kind_sorted plain_sorted entry_sorted (args_sorted1 _) ?_
  unfold Builtin.«sorted»; refine wpAny_bind (m := checkCount "sorted" 1 1 _) (wpAny_pure (wpAny_bind (gather_tup ht hz (wpAny_bind (wpAny_newList ?_ hz)))))
  show wpAny _ _ _ _ _ { s with heap := ((s.heap.push (seqObj "list" #[] 0)).update s.heap.objs.size (Obj.mapSeq (· ++ vs.toArray))).push (seqObj "list" vs.toArray 0) }
  rw [hg, sz]
  refine wpAny_bind (wpAny_holding (wpAny_call_entry slot_list_sort ⟨_, new, rfl⟩ entry_list_sort (SrtO.list_sort_ord O new hz (fun h2 => hS h2 _ _ new fun b o e => ⟨Nat.ne_of_lt (Nat.lt_succ_of_lt (Heap.lt_size e)), Heap.get?_push_of_some _ (old b o e)⟩) fun out hs hb => ⟨_, rfl, ?_⟩) (args_list_sort _)))
  refine wpAny_pure ⟨_, rfl, ?_⟩
  have := h out hs hb
  unfold sortedAll at this; rw [hg] at this; exact this
end
/-- sorted(a list or a tuple of whole numbers) -/
def rSortB (K : PySem.W.Frag) : List V → Hp → VK → Prop := fun vs H Q => ∃ (a : Addr) (ns : List Int), vs = [V.ref a] ∧ (SqL K H a (ns.map V.int) ∨ SqT K H a (ns.map V.int)) ∧
  ∀ (ns' : List Int) (p : Addr), ns'.Perm ns → ns'.Pairwise (· ≤ ·) → H p = none → Q (.ref p) (upd H p (.lst (ns'.map V.int)))
theorem cr_sortB {X : Cx} : CallR X (.builtin "sorted") (rSortB X.K) := by
  intro pins s σ H vs us Q I r h
  obtain ⟨a, ns, rfl, hs | hs, q⟩ := h
  · exact cr_sortedI pins s σ H _ us Q I r ⟨a, ns, rfl, hs, q⟩
  · obtain ⟨its, rv, hl, hz⟩ := I.tuple hs
    rw [Vals.ref1 r]
    have hi := rv.ints
    refine sorted_tup SrtO.swo_int (tup_isTuple hl) (by rw [← rv.length]; exact hz) (fun h2 h₁ a' _ _ => SrtO.ints_sortable hi h2) fun out h1 h2 => ?_
    obtain ⟨k1, k2, k3⟩ := SrtO.ints_out hi h1 h2
    obtain ⟨ep, he'⟩ := sortedAll_at s.heap its out.toArray
    have hlen : ((out.map SrtO.iv).map V.int).length ≤ sizeLine := by rw [List.length_map, k2.length_eq]; rw [List.length_map] at hz; exact hz
    exact ⟨.ref _, upd H (s.heap.objs.size + 1) (.lst ((out.map SrtO.iv).map V.int)), I.laid (o := .lst ((out.map SrtO.iv).map V.int)) (t' := s.toks) (fun _ _ => sortedAll_old) (Nat.le_succ _) ⟨hlen, out, ep, vals_of_ints k1, he'⟩, rfl, q _ _ k2 k3 (I.hok.fresh (Nat.le_succ _))⟩
def vSortB (bx : Bool) (vs : List Val) (S : Sto) : Res Val := match vs with
  | [.tup ys] => match intsOf ys with
    | some ns => mkL bx ((sortI ns).map Val.int) S
    | none => .st
  | vs => vSortI bx vs S
theorem l_sortB {K : PySem.W.Frag} {T : Tbl} (bx : Bool) : OpL K T (rSortB K) (vSortB bx) := by
  intro W S H vs xs Q PX s r q
  unfold vSortB at q
  split at q
  · rename_i ys
    cases r with
    | cons r1 r2 =>
      cases r2
      cases e2 : intsOf ys with
      | none => rw [e2] at q; exact False.elim q
      | some ns =>
        rw [e2] at q
        obtain ⟨a, zs, rfl, hz, rz⟩ := tup_ok s r1
        rw [intsOf_eq e2] at rz
        have ez := rz.ints
        subst ez
        refine ⟨a, ns, rfl, .inr hz, fun ns' p hp hs hf => ?_⟩
        have en : ns' = sortI ns := sorted_unique (hp.trans (sortI_perm ns).symm) hs (sortI_sorted ns)
        subst en
        exact mkL_ok s (VRs.ofInts _) hf q
  · obtain ⟨a, ns, e, hs, k⟩ := l_sortI bx W S H _ xs Q PX s r q
    exact ⟨a, ns, e, .inl hs, k⟩
end PM

/-! PM, part o: a constructor whose error goes on -/
namespace PM
open PySem PySem.Spec L2
section
variable {X : Cx} {CX : CXT} {k : Nat} {f C : Addr} {fd : FuncData} {ps : List Str} {sp : Sp} {E : St → XK} {x : Str} {p pos : Pos} {e : Expr} {es : List Expr} {t : TA}
theorem made_at {pins : List (Addr × Obj)} {σ : St} {H : Hp} {s : Shared} {Q : VK} {us : List Value} {vs : List V} (M : Mk X.K C f) (F : FnOk X.prog X.w X.K X.mg X.base CX k f fd ps sp) (hr : Room (k + 1) X.A) (hb : Binds X.K fd ps []) (hx : PassesAt CX X σ (E σ))
    (I : Inv X pins σ H s) (r : Vals vs us) (h : ∀ q dx, H q = none → H dx = none → dx ≠ q → sp (.ref q :: vs) (upd (upd H dx (.own q)) q (.ins C dx [])) (fun v H2 => v = .non ∧ Q (.ref q) H2) (E σ)) :
    wpAny (model X.prog X.w) X.A (call (.ref C) us) (EP X pins σ Q) X.xe s := by
  have hq := h (s.heap.objs.size + 1) s.heap.objs.size (I.hok.fresh (Nat.le_succ _)) (I.hok.fresh (Nat.le_refl _)) (Nat.ne_of_lt (Nat.lt_succ_self _))
  have J := Inv.made (C := C) I; have r2 : Vals (V.ref (s.heap.objs.size + 1) :: vs) (Value.ref (s.heap.objs.size + 1) :: us) := .cons rfl r
  have hl : (Value.ref (s.heap.objs.size + 1) :: us).length = ps.length := by rw [← r2.length]; exact F.len _ _ _ _ hq
  have b := hb _ (Value.ref (s.heap.objs.size + 1) :: us) J.kIn (by rw [List.append_nil]; exact hl)
  rw [List.append_nil] at b
  refine wpAny_call (make_map (f := f) I.kIn M.makes M.init (beq_iff_eq.mp M.fn) (codeAny_mono (F.run _ X.stack _ _ ⟨Value.ref (s.heap.objs.size + 1) :: us, []⟩ (Value.ref (s.heap.objs.size + 1) :: us) _ _ (E σ) (hr.make C us []) (J.env0.make C us []) b r2 hq) fun r s' hq' => ?_))
  cases r with
  | error e => exact hx pins _ _ e s' J hq'
  | ok fl =>
    cases fl with
    | ret u => obtain ⟨v, H', I3, rv, ev, q3⟩ := J.after hq'; subst ev; exact ⟨rv, ⟨V.ref (s.heap.objs.size + 1), H', I3, rfl, q3⟩⟩
    | next => exact hq'.elim
    | brk => exact hq'.elim
    | cont => exact hq'.elim
def tMakeS (C : Addr) (sp : Sp) (E : St → XK) (t : TA) : TE := fun σ H Q => t σ H fun vs H1 => ∀ q dx, H1 q = none → H1 dx = none → dx ≠ q → sp (.ref q :: vs) (upd (upd H1 dx (.own q)) q (.ins C dx [])) (fun v H2 => v = .non ∧ Q (.ref q) H2) (E σ)
theorem pe_makeS (M : Mk X.K C f) (F : FnOk X.prog X.w X.K X.mg X.base CX k f fd ps sp) (hr : Room (k + 1) X.A) (hg : Gl X x) (hm : X.mg x = some (.ref C)) (hb : Binds X.K fd ps []) (hx : ∀ σ, PassesAt CX X σ (E σ))
    (ha : PA X (e :: es) t) (hdb : (x == ("__debug__" : Str)) = false := by decide) (he : starEach (e :: es) X.env = (false, eval e X.env) :: starEach es X.env := by rfl) (hpl : (backTo pos (starEach es X.env)).any (·.1) = false := by rfl) :
    PE X (.Call (.Name x p) (e :: es) [] pos) (tMakeS C sp E t) := by
  refine ⟨fun pins s σ H Q I h => wpAny_Call_Name_kw (ld_glob I hg hm ?_ hdb)⟩
  exact PySem.W.callWith_K (h₀ := X.base) I.ok.mod.kin M.kp (thn (ha.run pos pins s σ H _ I h) fun us s1 ⟨vs, H1, I1, r, q⟩ => ⟨I1.kIn, made_at M F hr hb (hx σ) I1 r q⟩) he hpl
end
section
variable {T : Tbl} {X : Cx} {Ew : XW} {k : Nat} {f C : Addr} {fd : FuncData} {ps : List Str} {n c : Nat} {F : FM} {x : Str} {p pos : Pos} {e : Expr} {es : List Expr} {fs : AM}
def eMakeXN (n c : Nat) (F : FM) (a : AM) : EM := fun ρ S => (a ρ S).bind fun vs S1 => if (Val.loc S1.next :: vs).length = n then (F (.loc S1.next :: vs) (S1.alloc (.ins c []))).bind fun r S2 => (match r with
    | .non => .ok (.loc S1.next) S2
    | _ => .st) else .st
theorem m_makeX (tk : Takes X Ew) (O : CO X.K T c C) (M : Mk X.K C f) (G : FnOk X.prog X.w X.K X.mg X.base (L2.CX X.prog X.w) k f fd ps (spD X.K T n F)) (hr : Room (k + 1) X.A) (hg : Gl X x) (hm : X.mg x = some (.ref C)) (hb : Binds X.K fd ps [])
    (ha : PAm T X Ew (e :: es) fs) (hdb : (x == ("__debug__" : Str)) = false := by decide) (he : starEach (e :: es) X.env = (false, eval e X.env) :: starEach es X.env := by rfl) (hpl : (backTo pos (starEach es X.env)).any (·.1) = false := by rfl) :
    PEm T X Ew (.Call (.Name x p) (e :: es) [] pos) (eMakeXN n c F fs) := by
  refine PE.to (pe_makeS (E := WE Ew) M G hr hg hm hb (fun σ => passAt tk σ) ha hdb he hpl) fun σ H Q h => ?_
  obtain ⟨W, ρ, S, s, er, h⟩ := h
  refine ⟨W, ρ, S, s, er, RP.bind h fun W1 S1 H1 vs l1 s1 h1 xs vx => fun q dx hq hdx hne => ?_⟩
  by_cases hl : (Val.loc S1.next :: vs).length = n
  · rw [if_pos hl] at h1
    have s2 := s1.beside (o := .own q) hdx
    have hq' : (upd H1 dx (.own q)) q = none := by rw [upd_ne hne.symm]; exact hq
    have s3 : SR X.K T (W1.box q) (S1.alloc (.ins c [])) (upd (upd H1 dx (.own q)) q (.ins C dx [])) :=
      s2.box (b := .ins c []) hq' ⟨C, dx, [], O.at_, Nat.zero_le _, by rw [upd_same]; simp, .nil⟩
    have vl : VR X.K T (W1.box q) (.loc S1.next) (.ref q) := by
      have z : VR X.K T (W1.box q) (.loc W1.n) (.ref ((W1.box q).m W1.n)) := .loc (Nat.lt_succ_self _)
      rw [Wd.box_at] at z
      rw [← s1.nx]; exact z
    refine spD_of (PX := fun H' c o => Ew c o σ H') s3 (.cons vl (vx.mono .box)) hl ?_ fun _ _ _ q => q
    refine RP.bind (h1.wle .box) fun W2 S2 H2 r l2 s4 h2 y vy => ?_
    cases vy with
    | non => exact ⟨rfl, h2.now s4 _ (vl.mono l2)⟩
    | _ => exact False.elim h2
  · rw [if_neg hl] at h1; exact False.elim h1
end
end PM

/-! PM, part p: plain reasoning about the combinators -/
namespace PM
open PySem PySem.Spec L2

theorem nr {α : Sort u} {a : α} : a = a := Eq.trans rfl rfl
abbrev XP := Nat → List Val → Sto → Prop
def X0 : XP := fun _ _ _ => False
/-- keeps a rewriter out of what comes later -/
structure Kp {α : Type} (a : α) : Type where
def Rn {α : Type} (r : Res α) (P : α → Sto → Prop) (X : XP) (t : Kp (P, X) := ⟨⟩) : Prop := match r with
  | .ok a S => P a S
  | .ex c vs S => X c vs S
  | .st => False
structure En where
  nx : Ev → Sto → Prop
  rt : Val → Sto → Prop
  bk : Ev → Sto → Prop
  ct : Ev → Sto → Prop
  ex : Nat → List Val → Ev → Sto → Prop
def Sn (r : SRes) (D : En) (t : Kp D := ⟨⟩) : Prop := match r with
  | .nx ρ S => D.nx ρ S
  | .rt v S => D.rt v S
  | .bk ρ S => D.bk ρ S
  | .ct ρ S => D.ct ρ S
  | .ex c vs ρ S => D.ex c vs ρ S
  | .st => False
theorem Rn_ext {α : Type} {r : Res α} {P P' : α → Sto → Prop} {X : XP} (h : ∀ a S, P a S = P' a S) : Rn r P X = Rn r P' X := by
  cases r <;> first | exact h _ _ | rfl
section
variable {α β : Type} {P : α → Sto → Prop} {X : XP} {ρ : Ev} {S : Sto} {D : En}
@[simp ↓] theorem rn_ok (a : α) {kk : Kp (P, X)} : Rn (.ok a S) P X kk = P a S := nr
@[simp ↓] theorem rn_ex (c : Nat) (vs : List Val) {kk : Kp (P, X)} : Rn (.ex c vs S : Res α) P X kk = X c vs S := nr
@[simp ↓] theorem rn_st {kk : Kp (P, X)} : Rn (.st : Res α) P X kk = False := nr
@[simp ↓] theorem rn_bind {r : Res α} {g : α → Sto → Res β} {P : β → Sto → Prop} {kk : Kp (P, X)} : Rn (r.bind g) P X kk = Rn r (fun a S => Rn (g a S) P X) X := by cases r <;> rfl
@[simp ↓] theorem rn_noEx {r : Res α} {kk : Kp (P, X)} : Rn (noEx r) P X kk = Rn r P X0 := by cases r <;> rfl
@[simp ↓ high] theorem rn_guard {c : Prop} [Decidable c] {r : Res α} {kk : Kp (P, X)} : Rn (if c then r else .st) P X kk = (c ∧ Rn r P X) := by
  by_cases h : c <;> simp [h, Rn]
@[simp ↓] theorem rn_ite {c : Prop} [Decidable c] {r q : Res α} {kk : Kp (P, X)} : Rn (if c then r else q) P X kk = ((c → Rn r P X) ∧ (¬c → Rn q P X)) := by
  by_cases h : c <;> simp [h]
@[simp ↓] theorem sn_ite {c : Prop} [Decidable c] {r q : SRes} {kk : Kp D} : Sn (if c then r else q) D kk = ((c → Sn r D) ∧ (¬c → Sn q D)) := by
  by_cases h : c <;> simp [h]
@[simp ↓] theorem sn_nx {kk : Kp D} : Sn (.nx ρ S) D kk = D.nx ρ S := nr
@[simp ↓] theorem sn_rt {v : Val} {kk : Kp D} : Sn (.rt v S) D kk = D.rt v S := nr
@[simp ↓] theorem sn_bk {kk : Kp D} : Sn (.bk ρ S) D kk = D.bk ρ S := nr
@[simp ↓] theorem sn_ct {kk : Kp D} : Sn (.ct ρ S) D kk = D.ct ρ S := nr
@[simp ↓] theorem sn_ex {c : Nat} {vs : List Val} {kk : Kp D} : Sn (.ex c vs ρ S) D kk = D.ex c vs ρ S := nr
@[simp ↓] theorem sn_st {kk : Kp D} : Sn .st D kk = False := nr
@[simp ↓] theorem sn_toS {r : Res α} {g : α → Sto → SRes} {kk : Kp D} : Sn (r.toS ρ g) D kk = Rn r (fun a S => Sn (g a S) D) (fun c vs S => D.ex c vs ρ S) := by cases r <;> rfl
@[simp ↓] theorem sn_seq {s t : SM} {N : Ev → Sto → Prop} {R : Val → Sto → Prop} {B C : Ev → Sto → Prop} {E : Nat → List Val → Ev → Sto → Prop} {kk : Kp (⟨N, R, B, C, E⟩ : En)} : Sn (sSeq s t ρ S) ⟨N, R, B, C, E⟩ kk = Sn (s ρ S) ⟨fun ρ S => Sn (t ρ S) ⟨N, R, B, C, E⟩, R, B, C, E⟩ := by
  unfold sSeq; cases s ρ S <;> rfl
theorem rn_runB {n : Nat} {b : SM} {vs : List Val} {P : Val → Sto → Prop} {kk : Kp (P, X)} : Rn (runB n b vs S) P X kk = Sn (b (vs.map Option.some ++ List.replicate (n - vs.length) none) S) ⟨fun _ S => P .non S, P, fun _ _ => False, fun _ _ => False, fun c vs _ S => X c vs S⟩ := by
  unfold runB; cases b (vs.map Option.some ++ List.replicate (n - vs.length) none) S <;> rfl
theorem Rn.imp {r : Res α} {P' : α → Sto → Prop} {X' : XP} (h : Rn r P X) (i : ∀ a S, P a S → P' a S) (j : ∀ c vs S, X c vs S → X' c vs S) : Rn r P' X' := by
  cases r with
  | ok a S => exact i a S h
  | ex c vs S => exact j c vs S h
  | st => exact h
theorem Rn.of {r : Res α} {P' : α → Sto → Prop} {X' : XP} (h : Rn r P X0) (i : ∀ a S, P a S → P' a S) : Rn r P' X' := h.imp i fun _ _ _ z => False.elim z
theorem Sn.imp {r : SRes} {D D' : En} (h : Sn r D) (a : ∀ ρ S, D.nx ρ S → D'.nx ρ S) (b : ∀ v S, D.rt v S → D'.rt v S) (c : ∀ ρ S, D.bk ρ S → D'.bk ρ S) (d : ∀ ρ S, D.ct ρ S → D'.ct ρ S) (e : ∀ c vs ρ S, D.ex c vs ρ S → D'.ex c vs ρ S) : Sn r D' := by
  cases r with
  | nx ρ S => exact a _ _ h
  | rt v S => exact b _ _ h
  | bk ρ S => exact c _ _ h
  | ct ρ S => exact d _ _ h
  | ex _ _ _ _ => exact e _ _ _ _ h
  | st => exact h
/-- exact answers -/
theorem Rn.get {r : Res α} (h : Rn r P X0) : ∃ a S', r = .ok a S' ∧ P a S' := by
  cases r with
  | ok a S => exact ⟨a, S, rfl, h⟩
  | ex c vs S => exact False.elim h
  | st => exact False.elim h

theorem p64 : (2 : Int) ^ 64 = 18446744073709551616 := by decide +kernel
theorem p62 : (2 : Int) ^ 62 = 4611686018427387904 := by decide +kernel
/-! ### expressions -/
def lk : Ev → Nat → Option Val
  | [], _ => none
  | a :: _, 0 => a
  | _ :: l, i + 1 => lk l i
@[simp ↓] theorem lk_0 {a : Option Val} {l : Ev} : lk (a :: l) 0 = a := nr
@[simp ↓] theorem lk_s {a : Option Val} {l : Ev} {i : Nat} : lk (a :: l) (i + 1) = lk l i := nr
def vr (o : Option Val) (S : Sto) : Res Val := match o with
  | some v => .ok v S
  | none => .st
@[simp ↓] theorem vr_some {v : Val} : vr (some v) S = .ok v S := nr
theorem lk_get : ∀ {ρ : Ev} {i : Nat}, lk ρ i = (ρ[i]?).join
  | [], _ => rfl
  | a :: _, 0 => by cases a <;> rfl
  | _ :: l, i + 1 => by unfold lk; rw [lk_get, List.getElem?_cons_succ]
@[simp ↓] theorem e_var (i : Nat) {P : Val → Sto → Prop} {kk : Kp (P, X)} : Rn (eVar i ρ S) P X kk = Rn (vr (lk ρ i) S) P X := by
  unfold eVar
  rw [lk_get]
  cases ρ[i]? with
  | none => rfl
  | some o => cases o <;> rfl
@[simp ↓] theorem e_c {v : Val} {P : Val → Sto → Prop} {kk : Kp (P, X)} : Rn (eC v ρ S) P X kk = Rn (.ok v S) P X := nr
@[simp ↓] theorem e_bin {op : Val → Val → Sto → Res Val} {a b : EM} {P : Val → Sto → Prop} {kk : Kp (P, X)} : Rn (eBin op a b ρ S) P X kk = Rn ((a ρ S).bind fun v S1 => (b ρ S1).bind fun w S2 => op v w S2) P X := nr
@[simp ↓] theorem e_un {op : Val → Sto → Res Val} {a : EM} {P : Val → Sto → Prop} {kk : Kp (P, X)} : Rn (eUn op a ρ S) P X kk = Rn ((a ρ S).bind fun v S1 => op v S1) P X := nr
@[simp ↓] theorem e_anil {P : List Val → Sto → Prop} {kk : Kp (P, X)} : Rn (aNil ρ S) P X kk = Rn (.ok [] S) P X := nr
@[simp ↓] theorem e_acons {a : EM} {r : AM} {P : List Val → Sto → Prop} {kk : Kp (P, X)} : Rn (aCons a r ρ S) P X kk = Rn ((a ρ S).bind fun v S1 => (r ρ S1).bind fun vs S2 => .ok (v :: vs) S2) P X := nr
@[simp ↓] theorem e_bi {op : List Val → Sto → Res Val} {a : AM} {P : Val → Sto → Prop} {kk : Kp (P, X)} : Rn (eBI op a ρ S) P X kk = Rn ((a ρ S).bind fun vs S1 => op vs S1) P X := nr
@[simp ↓] theorem e_tup {a : AM} {P : Val → Sto → Prop} {kk : Kp (P, X)} : Rn (eTup a ρ S) P X kk = Rn ((a ρ S).bind fun vs S1 => if vs.length ≤ sizeLine then .ok (.tup vs) S1 else .st) P X := nr
@[simp ↓] theorem e_lst {bx : Bool} {a : AM} {P : Val → Sto → Prop} {kk : Kp (P, X)} : Rn (eLst bx a ρ S) P X kk = Rn ((a ρ S).bind fun vs S1 => if vs.length ≤ sizeLine then mkL bx vs S1 else .st) P X := nr
@[simp ↓] theorem e_mkt {vs : List Val} {P : Val → Sto → Prop} {kk : Kp (P, X)} : Rn (mkL true vs S) P X kk = Rn (.ok (.loc S.next) (S.alloc (.lst vs))) P X := nr
@[simp ↓] theorem e_mkf {vs : List Val} {P : Val → Sto → Prop} {kk : Kp (P, X)} : Rn (mkL false vs S) P X kk = Rn (.ok (.lst vs) S) P X := nr
@[simp ↓] theorem e_if {t : BM} {a b : EM} {P : Val → Sto → Prop} {kk : Kp (P, X)} : Rn (eIf t a b ρ S) P X kk = Rn ((t ρ S).bind fun c S1 => if c then a ρ S1 else b ρ S1) P X := nr
@[simp ↓] theorem e_and {a b : EM} {P : Val → Sto → Prop} {kk : Kp (P, X)} : Rn (eAnd a b ρ S) P X kk = Rn (a ρ S) (fun v S1 => match v with | .bl true => Rn (b ρ S1) P X | .bl false => P (.bl false) S1 | _ => False) X := by
  unfold eAnd; rw [rn_bind]; refine Rn_ext fun v S1 => ?_; cases v <;> first | rfl | (rename_i b; cases b <;> rfl)
@[simp ↓] theorem e_or {a b : EM} {P : Val → Sto → Prop} {kk : Kp (P, X)} : Rn (eOr a b ρ S) P X kk = Rn (a ρ S) (fun v S1 => match v with | .bl true => P (.bl true) S1 | .bl false => Rn (b ρ S1) P X | _ => False) X := by
  unfold eOr; rw [rn_bind]; refine Rn_ext fun v S1 => ?_; cases v <;> first | rfl | (rename_i b; cases b <;> rfl)
@[simp ↓] theorem e_not {a : EM} {P : Val → Sto → Prop} {kk : Kp (P, X)} : Rn (eNot a ρ S) P X kk = Rn (a ρ S) (fun v S1 => match v with | .bl b => P (.bl !b) S1 | _ => False) X := by
  unfold eNot; rw [rn_bind]; refine Rn_ext fun v S1 => ?_; cases v <;> rfl
@[simp ↓] theorem e_tB {a : EM} {P : Bool → Sto → Prop} {kk : Kp (P, X)} : Rn (tB a ρ S) P X kk = Rn (a ρ S) (fun v S1 => match v with | .bl b => P b S1 | _ => False) X := by
  unfold tB; rw [rn_bind]; refine Rn_ext fun v S1 => ?_; cases v <;> rfl
@[simp ↓] theorem e_tand {a b : BM} {P : Bool → Sto → Prop} {kk : Kp (P, X)} : Rn (tAndM a b ρ S) P X kk = Rn ((a ρ S).bind fun c S1 => if c then b ρ S1 else .ok false S1) P X := nr
@[simp ↓] theorem e_tor {a b : BM} {P : Bool → Sto → Prop} {kk : Kp (P, X)} : Rn (tOrM a b ρ S) P X kk = Rn ((a ρ S).bind fun c S1 => if c then .ok true S1 else b ρ S1) P X := nr
@[simp ↓] theorem e_tnot {a : BM} {P : Bool → Sto → Prop} {kk : Kp (P, X)} : Rn (tNotM a ρ S) P X kk = Rn ((a ρ S).bind fun c S1 => .ok (!c) S1) P X := nr
@[simp ↓] theorem e_ttru {f : EM} {P : Bool → Sto → Prop} {kk : Kp (P, X)} : Rn (tTru f ρ S) P X kk = Rn ((f ρ S).bind fun v S1 => match truOf S1 v with | some c => .ok c S1 | none => .st) P X := nr
@[simp ↓] theorem e_callN {n : Nat} {F : FM} {a : AM} {P : Val → Sto → Prop} {kk : Kp (P, X)} : Rn (eCallN n F a ρ S) P X kk = Rn ((a ρ S).bind fun vs S1 => if vs.length = n then noEx (F vs S1) else .st) P X := nr
@[simp ↓] theorem e_callXN {n : Nat} {F : FM} {a : AM} {P : Val → Sto → Prop} {kk : Kp (P, X)} : Rn (eCallXN n F a ρ S) P X kk = Rn ((a ρ S).bind fun vs S1 => if vs.length = n then F vs S1 else .st) P X := nr
@[simp ↓] theorem e_methN {n c : Nat} {F : FM} {o : EM} {a : AM} {P : Val → Sto → Prop} {kk : Kp (P, X)} : Rn (eMethN n c F o a ρ S) P X kk = Rn ((o ρ S).bind fun v S1 => if isInst c S1 v then (a ρ S1).bind fun vs S2 => if (v :: vs).length = n then noEx (F (v :: vs) S2) else .st else .st) P X := nr
@[simp ↓] theorem e_methXN {n c : Nat} {F : FM} {o : EM} {a : AM} {P : Val → Sto → Prop} {kk : Kp (P, X)} : Rn (eMethXN n c F o a ρ S) P X kk = Rn ((o ρ S).bind fun v S1 => if isInst c S1 v then (a ρ S1).bind fun vs S2 => if (v :: vs).length = n then F (v :: vs) S2 else .st else .st) P X := nr
@[simp ↓] theorem e_makeN {n c : Nat} {F : FM} {a : AM} {P : Val → Sto → Prop} {kk : Kp (P, X)} : Rn (eMakeN n c F a ρ S) P X kk = Rn (a ρ S) (fun vs S1 => (Val.loc S1.next :: vs).length = n ∧ Rn (F (.loc S1.next :: vs) (S1.alloc (.ins c []))) (fun r S2 => r = .non ∧ P (.loc S1.next) S2) X0) X := by
  unfold eMakeN; rw [rn_bind]; refine Rn_ext fun vs S1 => ?_; rw [rn_guard, rn_bind, rn_noEx]
  refine congrArg (And _) ?_
  cases F (.loc S1.next :: vs) (S1.alloc (.ins c [])) with
  | ok r S2 => cases r <;> simp [Rn]
  | ex c vs S => rfl
  | st => rfl
@[simp ↓] theorem e_frz {f : EM} {P : Val → Sto → Prop} {kk : Kp (P, X)} : Rn (eFrz f ρ S) P X kk = Rn ((f ρ S).bind giveUp) P X := nr
@[simp ↓] theorem e_attr {c i : Nat} {o : EM} {P : Val → Sto → Prop} {kk : Kp (P, X)} : Rn (eAttr c i o ρ S) P X kk = Rn ((o ρ S).bind fun v S1 => match insOf S1 v with
  | some (c', vs) => if c' = c then (match vs[i]? with
    | some u => .ok u S1
    | none => .st) else .st
  | none => .st) P X := nr
@[simp ↓] theorem e_bm {chk : Val → Sto → Bool} {op : Val → List Val → Sto → Res Val} {o : EM} {a : AM} {P : Val → Sto → Prop} {kk : Kp (P, X)} : Rn (eBM chk op o a ρ S) P X kk = Rn ((o ρ S).bind fun v S1 => if chk v S1 then (a ρ S1).bind fun vs S2 => op v vs S2 else .st) P X := nr
@[simp ↓] theorem e_chain {o o' : Val → Val → Sto → Res Val} {a b c : EM} {P : Val → Sto → Prop} {kk : Kp (P, X)} : Rn (eChain o o' a b c ρ S) P X kk = Rn (a ρ S) (fun v S1 => Rn (b ρ S1) (fun w S2 => Rn (o v w S2) (fun k S3 => match k with
  | .bl true => Rn (c ρ S3) (fun z S4 => Rn (o' w z S4) P X) X | .bl false => P (.bl false) S3 | _ => False) X) X) X := by
  unfold eChain
  rw [rn_bind]; refine Rn_ext fun v S1 => ?_; rw [rn_bind]; refine Rn_ext fun w S2 => ?_; rw [rn_bind]; refine Rn_ext fun k S3 => ?_
  cases k <;> first | rfl | skip
  rename_i b
  cases b
  · rfl
  · show Rn (Res.bind _ _) P X = _
    rw [rn_bind]
@[simp ↓] theorem e_onone {P : Option Int → Sto → Prop} {kk : Kp (P, X)} : Rn (oNone ρ S) P X kk = Rn (.ok none S) P X := nr
@[simp ↓] theorem e_osome {f : EM} {P : Option Int → Sto → Prop} {kk : Kp (P, X)} : Rn (oSome f ρ S) P X kk = Rn ((f ρ S).bind fun v S1 => match v with | .int i => .ok (some i) S1 | _ => .st) P X := nr
@[simp ↓] theorem e_cut {bx : Bool} {f : EM} {lo hi : OM} {P : Val → Sto → Prop} {kk : Kp (P, X)} : Rn (eCut bx f lo hi ρ S) P X kk = Rn ((f ρ S).bind fun v S1 => (lo ρ S1).bind fun l S2 => (hi ρ S2).bind fun u S3 => vCut bx v l u S3) P X := nr
@[simp ↓] theorem e_listR {bx : Bool} {a b : EM} {P : Val → Sto → Prop} {kk : Kp (P, X)} : Rn (eListR bx a b ρ S) P X kk = Rn ((a ρ S).bind fun v S1 => (b ρ S1).bind fun w S2 => match v, w with
  | .int i, .int j => if -4611686018427387904 ≤ i ∧ i < 4611686018427387904 ∧ -4611686018427387904 ≤ j ∧ j < 4611686018427387904 ∧ (j - i).toNat ≤ 2 ^ 24 then mkL bx (rangeL i (j - i).toNat) S2 else .st
  | _, _ => .st) P X := by unfold eListR; simp only [p62] <;> rfl
@[simp ↓] theorem e_iseq {f : EM} {P : ItV → Sto → Prop} {kk : Kp (P, X)} : Rn (iSeq f ρ S) P X kk = Rn ((f ρ S).bind seqIt) P X := nr
@[simp ↓] theorem e_irange1 {a : EM} {P : ItV → Sto → Prop} {kk : Kp (P, X)} : Rn (iRange1 a ρ S) P X kk = Rn ((a ρ S).bind fun v S1 => match v with
  | .int j => if -4611686018427387904 ≤ j ∧ j < 4611686018427387904 then .ok ⟨rangeL 0 j.toNat, fun _ => True⟩ S1 else .st
  | _ => .st) P X := by unfold iRange1; simp only [p62] <;> rfl
@[simp ↓] theorem e_irange2 {a b : EM} {P : ItV → Sto → Prop} {kk : Kp (P, X)} : Rn (iRange2 a b ρ S) P X kk = Rn ((a ρ S).bind fun v S1 => (b ρ S1).bind fun w S2 => match v, w with
  | .int i, .int j => if -4611686018427387904 ≤ i ∧ i < 4611686018427387904 ∧ -4611686018427387904 ≤ j ∧ j < 4611686018427387904 then .ok ⟨rangeL i (j - i).toNat, fun _ => True⟩ S2 else .st
  | _, _ => .st) P X := by unfold iRange2; simp only [p62] <;> rfl
@[simp ↓] theorem e_irev {f : EM} {P : ItV → Sto → Prop} {kk : Kp (P, X)} : Rn (iRev f ρ S) P X kk = Rn ((f ρ S).bind fun v S1 => match v with
  | .lst xs => .ok ⟨xs.reverse, fun _ => True⟩ S1
  | .fz xs => .ok ⟨xs.reverse, fun _ => True⟩ S1
  | .loc k => (match S1.objs k with
    | some (.lst xs) => .ok ⟨xs.reverse, fun S' => S'.objs k = some (.lst xs)⟩ S1
    | _ => .st)
  | _ => .st) P X := nr

/-! ### statements -/
@[simp ↓] theorem s_next {D : En} {kk : Kp D} : Sn (sNext ρ S) D kk = Sn (.nx ρ S) D := nr
@[simp ↓] theorem s_never {D : En} {kk : Kp D} : Sn (sNever ρ S) D kk = Sn (.st) D := nr
@[simp ↓] theorem s_set {i : Nat} {e : EM} {D : En} {kk : Kp D} : Sn (sSet i e ρ S) D kk = Sn ((e ρ S).toS ρ fun v S1 => .nx (ρ.set i (some v)) S1) D := nr
@[simp ↓] theorem s_par {i j : Nat} {a : AM} {D : En} {kk : Kp D} : Sn (sPar i j a ρ S) D kk = Sn ((a ρ S).toS ρ fun vs S1 => match vs with
  | [v, w] => .nx ((ρ.set i (some v)).set j (some w)) S1
  | _ => .st) D := nr
@[simp ↓] theorem s_drop {e : EM} {D : En} {kk : Kp D} : Sn (sDrop e ρ S) D kk = Sn ((e ρ S).toS ρ fun _ S1 => .nx ρ S1) D := nr
@[simp ↓] theorem s_ret {e : EM} {D : En} {kk : Kp D} : Sn (sRet e ρ S) D kk = Sn ((e ρ S).toS ρ fun v S1 => .rt v S1) D := nr
@[simp ↓] theorem s_retn {D : En} {kk : Kp D} : Sn (sRetN ρ S) D kk = Sn (.rt .non S) D := nr
@[simp ↓] theorem s_break {D : En} {kk : Kp D} : Sn (sBreak ρ S) D kk = Sn (.bk ρ S) D := nr
@[simp ↓] theorem s_cont {D : En} {kk : Kp D} : Sn (sCont ρ S) D kk = Sn (.ct ρ S) D := nr
@[simp ↓] theorem s_raise {c : Nat} {D : En} {kk : Kp D} : Sn (sRaise c ρ S) D kk = Sn (.ex c [] ρ S) D := nr
@[simp ↓] theorem s_if {t : BM} {a b : SM} {D : En} {kk : Kp D} : Sn (sIf t a b ρ S) D kk = Sn ((t ρ S).toS ρ fun c S1 => if c then a ρ S1 else b ρ S1) D := nr
@[simp ↓] theorem s_asg {t : Tgt} {e : EM} {D : En} {kk : Kp D} : Sn (sAsg t e ρ S) D kk = Sn ((e ρ S).toS ρ fun v S1 => match t.set v ρ with
  | some ρ' => .nx ρ' S1
  | none => .st) D := nr
@[simp ↓] theorem s_aug {i : Nat} {op : Val → Val → Sto → Res Val} {e : EM} {D : En} {kk : Kp D} : Sn (sAug i op e ρ S) D kk = Rn (vr (lk ρ i) S) (fun v _ => Sn ((e ρ S).toS ρ fun w S1 => (op v w S1).toS ρ fun z S2 => .nx (ρ.set i (some z)) S2) D) X0 := by
  unfold sAug; rw [lk_get]
  cases ρ[i]? with
  | none => rfl
  | some o => cases o <;> rfl
@[simp ↓] theorem s_setIx {o i e : EM} {D : En} {kk : Kp D} : Sn (sSetIx o i e ρ S) D kk = Sn ((e ρ S).toS ρ fun u S1 => (o ρ S1).toS ρ fun v S2 => (i ρ S2).toS ρ fun j S3 => match setIx v j u S3 with
  | some S4 => .nx ρ S4
  | none => .st) D := nr
@[simp ↓] theorem s_setIx2 {o i o2 i2 e : EM} {D : En} {kk : Kp D} : Sn (sSetIx2 o i o2 i2 e ρ S) D kk = Rn (e ρ S) (fun t S1 => match t with
  | .tup [u, u2] => Rn (o ρ S1) (fun v S2 => Rn (i ρ S2) (fun j S3 => match setIx v j u S3 with
    | some S4 => Rn (o2 ρ S4) (fun v S5 => Rn (i2 ρ S5) (fun j S6 => match setIx v j u2 S6 with
      | some S7 => D.nx ρ S7
      | none => False) (fun c vs S => D.ex c vs ρ S)) (fun c vs S => D.ex c vs ρ S)
    | none => False) (fun c vs S => D.ex c vs ρ S)) (fun c vs S => D.ex c vs ρ S)
  | _ => False) (fun c vs S => D.ex c vs ρ S) := by
  unfold sSetIx2
  rw [sn_toS]
  refine Rn_ext fun t S1 => ?_
  split
  · rw [sn_toS]; refine Rn_ext fun v S2 => ?_
    rw [sn_toS]; refine Rn_ext fun j S3 => ?_
    cases setIx v j _ S3 with
    | none => rfl
    | some S4 =>
      dsimp only
      rw [sn_toS]; refine Rn_ext fun v S5 => ?_
      rw [sn_toS]; refine Rn_ext fun j S6 => ?_
      cases setIx v j _ S6 <;> rfl
  · rename_i hn
    first
      | rfl
      | (split
         · exact absurd rfl (hn _ _)
         · rfl)
@[simp ↓] theorem s_attr {c i : Nat} {o e : EM} {D : En} {kk : Kp D} : Sn (sAttr c i o e ρ S) D kk = Sn ((e ρ S).toS ρ fun u S1 => (o ρ S1).toS ρ fun v S2 => match v with
  | .loc k => (match S2.objs k with
    | some (.ins c' vs) => if c' = c then (if i < vs.length then .nx ρ (S2.put k (.ins c (vs.set i u))) else if i = vs.length then .nx ρ (S2.put k (.ins c (vs ++ [u]))) else .st) else .st
    | _ => .st)
  | _ => .st) D := nr
@[simp ↓] theorem s_for {it : IM} {tg : Tgt} {b : SM} {D : En} {kk : Kp D} : Sn (sFor it tg b ρ S) D kk = Sn ((it ρ S).toS ρ fun iv S1 => forGo iv.src tg b iv.items ρ S1) D := nr
@[simp] theorem tgt_name {i : Nat} {v : Val} : Tgt.set (.name i) v ρ = some (ρ.set i (some v)) := by unfold Tgt.set; rfl
end

/-! ### the store -/
section
variable {S S' S2 : Sto} {j k : Nat} {o o' : Ob}
@[simp] theorem put_at : (S.put k o).objs k = some o := if_pos rfl
theorem put_ne (h : j ≠ k) : (S.put k o).objs j = S.objs j := if_neg h
@[simp] theorem put_next : (S.put k o).next = S.next := nr
@[simp] theorem drop_next : (S.drop k).next = S.next := nr
@[simp] theorem alloc_at : (S.alloc o).objs S.next = some o := if_pos rfl
theorem alloc_ne (h : j ≠ S.next) : (S.alloc o).objs j = S.objs j := if_neg h
@[simp] theorem alloc_next : (S.alloc o).next = S.next + 1 := nr
theorem drop_ne (h : j ≠ k) : (S.drop k).objs j = S.objs j := if_neg h
@[simp] theorem put_put : (S.put k o).put k o' = S.put k o' := by
  unfold Sto.put; congr 1; funext i; dsimp only; split <;> simp_all
@[simp] theorem alloc_put : (S.alloc o).put S.next o' = S.alloc o' := by
  unfold Sto.put Sto.alloc; congr 1; funext i; dsimp only; split <;> simp_all
/-- the old objects are as they were -/
structure Ext (S S' : Sto) : Prop where
  le : S.next ≤ S'.next
  eq : ∀ k, k < S.next → S'.objs k = S.objs k
theorem Ext.refl (S : Sto) : Ext S S := ⟨Nat.le_refl _, fun _ _ => rfl⟩
theorem Ext.trans (a : Ext S S') (b : Ext S' S2) : Ext S S2 := ⟨Nat.le_trans a.le b.le, fun k h => (b.eq k (Nat.lt_of_lt_of_le h a.le)).trans (a.eq k h)⟩
theorem Ext.alloc (a : Ext S S') : Ext S (S'.alloc o) := ⟨Nat.le_succ_of_le a.le, fun k h => by rw [alloc_ne (by have := a.le; omega)]; exact a.eq k h⟩
theorem Ext.put (a : Ext S S') (h : S.next ≤ k) : Ext S (S'.put k o) := ⟨a.le, fun j hj => by rw [put_ne (by omega)]; exact a.eq j hj⟩
theorem Ext.drop (a : Ext S S') (h : S.next ≤ k) : Ext S (S'.drop k) := ⟨a.le, fun j hj => by rw [drop_ne (by omega)]; exact a.eq j hj⟩
theorem Ext.at_ (a : Ext S S') (h : k < S.next) (q : S.objs k = some o) : S'.objs k = some o := (a.eq k h).trans q
/-- the objects but one are as they were -/
structure ExtB (k : Nat) (S S' : Sto) : Prop where
  le : S.next ≤ S'.next
  eq : ∀ j, j < S.next → j ≠ k → S'.objs j = S.objs j
theorem Ext.b (a : Ext S S') : ExtB k S S' := ⟨a.le, fun j h _ => a.eq j h⟩
theorem ExtB.refl : ExtB k S S := (Ext.refl S).b
theorem ExtB.trans (a : ExtB k S S') (b : ExtB k S' S2) : ExtB k S S2 := ⟨Nat.le_trans a.le b.le, fun j h n => (b.eq j (Nat.lt_of_lt_of_le h a.le) n).trans (a.eq j h n)⟩
theorem ExtB.put (a : ExtB k S S') : ExtB k S (S'.put k o) := ⟨a.le, fun j hj n => by rw [put_ne n]; exact a.eq j hj n⟩
/-- a box of this piece only -/
theorem ExtB.in {S0 : Sto} (x : Ext S0 S) (h : S0.next ≤ k) (a : ExtB k S S') : Ext S0 S' := ⟨Nat.le_trans x.le a.le, fun j hj => (a.eq j (Nat.lt_of_lt_of_le hj x.le) (by omega)).trans (x.eq j hj)⟩
end

/-! ### loops -/
section
variable {src : Sto → Prop} {tg : Tgt} {b : SM} {N : Ev → Sto → Prop} {R : Val → Sto → Prop} {B C : Ev → Sto → Prop} {E : Nat → List Val → Ev → Sto → Prop}
theorem sn_forGo (I : List Val → Ev → Sto → Prop) (hsrc : ∀ r ρ S, I r ρ S → src S)
    (step : ∀ v r ρ S, I (v :: r) ρ S → ∃ ρ1, tg.set v ρ = some ρ1 ∧ Sn (b ρ1 S) ⟨I r, R, N, I r, E⟩) (fin : ∀ ρ S, I [] ρ S → N ρ S) :
    ∀ {vs : List Val} {ρ : Ev} {S : Sto}, I vs ρ S → Sn (forGo src tg b vs ρ S) ⟨N, R, B, C, E⟩
  | [], ρ, S, h => by
    unfold forGo
    rw [if_pos (hsrc _ _ _ h)]
    exact fin ρ S h
  | v :: vs, ρ, S, h => by
    unfold forGo
    rw [if_pos (hsrc _ _ _ h)]
    obtain ⟨ρ1, e, q⟩ := step v vs ρ S h
    rw [e]
    dsimp only
    cases eb : b ρ1 S with
    | nx ρ' S' => rw [eb] at q; exact sn_forGo I hsrc step fin q
    | rt v S' => rw [eb] at q; exact q
    | bk ρ' S' => rw [eb] at q; exact q
    | ct ρ' S' => rw [eb] at q; exact sn_forGo I hsrc step fin q
    | ex c vs ρ' S' => rw [eb] at q; exact q
    | st => rw [eb] at q; exact q
/-- a loop over numbers from 0 -/
theorem rangeL_drop (lo : Int) (n i : Nat) (h : i < n) : (rangeL lo n).drop i = .int (lo + (i : Int)) :: (rangeL lo n).drop (i + 1) := by
  have hl : (rangeL lo n).length = n := by simp [rangeL]
  rw [List.drop_eq_getElem_cons (by omega)]
  congr 1
  have := rangeL_get lo n i
  rw [if_pos h] at this
  exact (List.getElem?_eq_some_iff.mp this).2
theorem sn_forR {lo : Int} {n : Nat} {ρ : Ev} {S : Sto} (I : Nat → Ev → Sto → Prop) (init : I 0 ρ S) (hsrc : ∀ i ρ S, I i ρ S → src S)
    (step : ∀ i ρ S, i < n → I i ρ S → ∃ ρ1, tg.set (.int (lo + (i : Int))) ρ = some ρ1 ∧ Sn (b ρ1 S) ⟨I (i + 1), R, N, I (i + 1), E⟩) (fin : ∀ ρ S, I n ρ S → N ρ S) :
    Sn (forGo src tg b (rangeL lo n) ρ S) ⟨N, R, B, C, E⟩ := by
  have hl : (rangeL lo n).length = n := by simp [rangeL]
  refine sn_forGo (N := N) (R := R) (B := B) (C := C) (E := E) (fun r ρ S => ∃ i, i ≤ n ∧ r = (rangeL lo n).drop i ∧ I i ρ S) (fun r ρ S ⟨i, _, _, h⟩ => hsrc i ρ S h) (fun v r ρ S ⟨i, hi, e, h⟩ => ?_) (fun ρ S ⟨i, hi, e, h⟩ => ?_) ⟨0, Nat.zero_le _, rfl, init⟩
  · have hi' : i < n := by
      rcases Nat.lt_or_ge i n with q | q
      · exact q
      · rw [List.drop_eq_nil_of_le (by omega)] at e; cases e
    rw [rangeL_drop lo n i hi'] at e
    obtain ⟨rfl, rfl⟩ := List.cons.inj e
    obtain ⟨ρ1, q1, q2⟩ := step i ρ S hi' h
    refine ⟨ρ1, q1, q2.imp ?_ ?_ ?_ ?_ ?_⟩
    · exact fun ρ S z => ⟨i + 1, hi', rfl, z⟩
    · exact fun _ _ z => z
    · exact fun _ _ z => z
    · exact fun ρ S z => ⟨i + 1, hi', rfl, z⟩
    · exact fun _ _ _ _ z => z
  · have : n ≤ i := by
      have := congrArg List.length e
      simp only [List.length_nil, List.length_drop, hl] at this
      omega
    obtain rfl : i = n := by omega
    exact fin ρ S h
theorem sn_forM {α : Type} {f : α → Val} {xs : List α} {ρ : Ev} {S : Sto} (I : List α → Ev → Sto → Prop) (init : I xs ρ S) (hsrc : ∀ r ρ S, I r ρ S → src S)
    (step : ∀ v r ρ S, v ∈ xs → I (v :: r) ρ S → ∃ ρ1, tg.set (f v) ρ = some ρ1 ∧ Sn (b ρ1 S) ⟨I r, R, N, I r, E⟩) (fin : ∀ ρ S, I [] ρ S → N ρ S) : Sn (forGo src tg b (xs.map f) ρ S) ⟨N, R, B, C, E⟩ := by
  refine sn_forGo (N := N) (R := R) (B := B) (C := C) (E := E) (fun r ρ S => ∃ ys, (∀ y ∈ ys, y ∈ xs) ∧ r = ys.map f ∧ I ys ρ S) (fun r ρ S ⟨i, _, _, h⟩ => hsrc i ρ S h) (fun v r ρ S ⟨ys, hy, e, h⟩ => ?_) (fun ρ S ⟨ys, hy, e, h⟩ => ?_) ⟨xs, fun _ h => h, rfl, init⟩
  · cases ys with
    | nil => cases e
    | cons y ys =>
      obtain ⟨rfl, rfl⟩ := List.cons.inj e
      obtain ⟨ρ1, q1, q2⟩ := step y ys ρ S (hy y List.mem_cons_self) h
      refine ⟨ρ1, q1, q2.imp ?_ ?_ ?_ ?_ ?_⟩
      · exact fun ρ S z => ⟨ys, fun z hz => hy z (List.mem_cons_of_mem _ hz), rfl, z⟩
      · exact fun _ _ z => z
      · exact fun _ _ z => z
      · exact fun ρ S z => ⟨ys, fun z hz => hy z (List.mem_cons_of_mem _ hz), rfl, z⟩
      · exact fun _ _ _ _ z => z
  · cases ys with
    | nil => exact fin ρ S h
    | cons y ys => cases e
end

/-! ### list comprehensions: each item one value, no test -/
section
variable {src : Sto → Prop} {tg : Tgt} {elt : EM} {S0 S : Sto} {ρ0 : Ev} {n0 : Nat}
theorem lcGo_map {α : Type} {f g : α → Val} (hn : S0.next ≤ n0) : ∀ {xs : List α} {acc : List Val} {S : Sto}, Ext S0 S → n0 < S.next → S.objs n0 = some (.lst acc) → acc.length + xs.length ≤ sizeLine →
    (∀ S', Ext S0 S' → src S') → (∀ x ∈ xs, ∀ S', Ext S0 S' → ∃ ρ1, tg.set (f x) ρ0 = some ρ1 ∧ Rn (elt ρ1 S') (fun u S2 => u = g x ∧ Ext S' S2) X0) →
    Rn (lcGo src tg tYesM elt n0 ρ0 (xs.map f) S) (fun _ S2 => Ext S0 S2 ∧ n0 < S2.next ∧ S2.objs n0 = some (.lst (acc ++ xs.map g))) X0
  | [], acc, S, x, l, h, _, hs, _ => by
    rw [List.map_nil]
    unfold lcGo
    rw [if_pos (hs S x)]
    exact ⟨x, l, by rw [List.map_nil, List.append_nil]; exact h⟩
  | a :: xs, acc, S, x, l, h, hl, hs, he => by
    rw [List.map_cons]
    unfold lcGo
    rw [if_pos (hs S x)]
    obtain ⟨ρ1, e, q⟩ := he a List.mem_cons_self S x
    rw [e]
    dsimp only
    unfold tYesM
    rw [rn_bind, rn_noEx, rn_ok, if_pos rfl, rn_bind, rn_noEx]
    refine q.of fun u S2 ⟨hu, x2⟩ => ?_
    have h2 := x2.at_ l h
    rw [h2]
    dsimp only
    simp only [List.length_cons] at hl
    rw [if_pos (by omega)]
    subst hu
    have := lcGo_map (f := f) (g := g) hn (xs := xs) (acc := acc ++ [g a]) (S := S2.put n0 (.lst (acc ++ [g a]))) ((x.trans x2).put hn) (Nat.lt_of_lt_of_le l x2.le) put_at (by rw [List.length_append]; simp only [List.length_cons, List.length_nil]; omega) hs (fun z hz => he z (List.mem_cons_of_mem _ hz))
    refine this.of fun _ S3 ⟨a1, a2, a3⟩ => ⟨a1, a2, ?_⟩
    rw [a3, List.append_assoc]; rfl
/-- the comprehension as a value -/
theorem eLc_map {α : Type} {f g : α → Val} {it : IM} {ρ : Ev} {ws : List Nat} {X : XP} {P : Val → Sto → Prop} {xs : List α} {S1 : Sto} (hit : it ρ S = .ok ⟨xs.map f, src⟩ S1) (hx : Ext S S1) (hl : xs.length ≤ sizeLine)
    (hs : ∀ S', Ext S1 S' → src S') (he : ∀ x ∈ xs, ∀ S', Ext S1 S' → ∃ ρ1, tg.set (f x) (wipeE ρ ws) = some ρ1 ∧ Rn (elt ρ1 S') (fun u S2 => u = g x ∧ Ext S' S2) X0)
    (h : ∀ S2, Ext S1 S2 → P (.lst (xs.map g)) S2) : Rn (eLc false it tg tYesM elt ws ρ S) P X := by
  unfold eLc
  rw [rn_bind, hit, rn_ok, rn_bind]
  refine (lcGo_map (f := f) (g := g) (src := src) (S0 := S1) (n0 := S1.next) (Nat.le_refl _) (acc := []) ((Ext.refl S1).alloc) (Nat.lt_succ_self _) alloc_at (by simpa using hl) hs he).of fun _ S2 ⟨x, l, q⟩ => ?_
  unfold lcEnd
  rw [q]
  exact h _ (x.drop (Nat.le_refl _))
end

/-! ### data -/
/-- a value that compares -/
def Dv (S : Sto) (v : Val) (d : PyData) : Prop := datS S v = some d ∧ SeqAt.shaped d = true
theorem eqv_self {d : PyData} (h : SeqAt.shaped d = true) : PyData.eqv d d = true := SeqAt.eqv_refl d (SeqAt.canLay_of_shaped h)
theorem vEq_same {S : Sto} {v w : Val} {d : PyData} (h1 : Dv S v d) (h2 : datS S w = some d) : vEq v w S = .ok (.bl true) S := by
  unfold vEq
  rw [h1.1, h2]
  dsimp only
  rw [if_pos ⟨h1.2, h1.2⟩, eqv_self h1.2]
theorem vNe_same {S : Sto} {v w : Val} {d : PyData} (h1 : Dv S v d) (h2 : datS S w = some d) : vNe v w S = .ok (.bl false) S := by
  unfold vNe
  rw [h1.1, h2]
  dsimp only
  rw [if_pos ⟨h1.2, h1.2⟩, eqv_self h1.2]; rfl
theorem dats_map {α : Type} {f : α → Val} {g : α → PyData} : ∀ {xs : List α}, (∀ x ∈ xs, (f x).dat = some (g x)) → Val.dats (xs.map f) = some (xs.map g)
  | [], _ => by unfold Val.dats; rfl
  | x :: xs, h => by
    rw [List.map_cons]
    unfold Val.dats
    rw [h x List.mem_cons_self, dats_map fun y hy => h y (List.mem_cons_of_mem _ hy)]; rfl
theorem dat_ints (xs : List Int) : Val.dats (xs.map .int) = some (xs.map .int) := dats_map fun x _ => by unfold Val.dat; rfl
/-- canLay0 and depth of rows -/
def lay (k : Nat) (d : PyData) : Bool := d.canLay0 && decide (d.depth ≤ k)
theorem lay_all {k : Nat} : ∀ {ds : List PyData}, (∀ d ∈ ds, lay k d = true) → PyData.canLayAll0 ds = true ∧ PyData.depthAll ds ≤ k
  | [], _ => ⟨by unfold PyData.canLayAll0; rfl, by unfold PyData.depthAll; exact Nat.zero_le _⟩
  | d :: ds, h => by
    have h1 := h d List.mem_cons_self
    have h2 := lay_all fun z hz => h z (List.mem_cons_of_mem _ hz)
    unfold lay at h1
    simp only [Bool.and_eq_true, decide_eq_true_eq] at h1
    unfold PyData.canLayAll0 PyData.depthAll
    exact ⟨by rw [h1.1, h2.1]; rfl, Nat.max_le.mpr ⟨h1.2, h2.2⟩⟩
theorem lay_list {k : Nat} {ds : List PyData} (h : ∀ d ∈ ds, lay k d = true) : lay (k + 1) (.list ds) = true := by
  have := lay_all h
  unfold lay PyData.canLay0 PyData.depth
  rw [this.1, Bool.true_and, decide_eq_true_eq]; omega
theorem lay_tuple {k : Nat} {ds : List PyData} (h : ∀ d ∈ ds, lay k d = true) : lay (k + 1) (.tuple ds) = true := by
  have := lay_all h
  unfold lay PyData.canLay0 PyData.depth
  rw [this.1, Bool.true_and, decide_eq_true_eq]; omega
theorem lay_int {k : Nat} (i : Int) : lay k (.int i) = true := by unfold lay PyData.canLay0 PyData.depth; simp
theorem lay_bool {k : Nat} (b : Bool) : lay k (.bool b) = true := by unfold lay PyData.canLay0 PyData.depth; simp
theorem lay_none {k : Nat} : lay k .none = true := by unfold lay PyData.canLay0 PyData.depth; simp
theorem lay_str {k : Nat} {x : Str} (h : PyData.strOk x = true) : lay k (.str x) = true := by unfold lay PyData.canLay0 PyData.depth; simp [h]
theorem shaped_of {k : Nat} {d : PyData} (h : lay k d = true) (hk : k ≤ 64) : SeqAt.shaped d = true := by
  unfold lay at h
  simp only [Bool.and_eq_true, decide_eq_true_eq] at h
  unfold SeqAt.shaped
  rw [h.1, Bool.true_and, decide_eq_true_eq]; omega

/-! ### operations at known values -/
section
variable {S : Sto} {i j : Int} {xs ys : List Val}
@[simp ↓] theorem v_add {bx : Bool} : vAdd bx (.int i) (.int j) S = .ok (.int (i + j)) S := nr
@[simp ↓] theorem v_addT {bx : Bool} : vAdd bx (.tup xs) (.tup ys) S = if xs.length + ys.length ≤ sizeLine then .ok (.tup (xs ++ ys)) S else .st := nr
@[simp ↓] theorem v_sub : vSub (.int i) (.int j) S = .ok (.int (i - j)) S := nr
@[simp ↓] theorem v_mul : vMul (.int i) (.int j) S = if (-18446744073709551616 < i ∧ i < 18446744073709551616) ∨ (-18446744073709551616 < j ∧ j < 18446744073709551616) then .ok (.int (i * j)) S else .st := by
  unfold vMul; simp only [p64]
@[simp ↓] theorem v_pow18 : vPow (.int 10) (.int 18) S = .ok (.int 1000000000000000000) S := by
  unfold vPow; dsimp only; rw [if_pos (by decide +kernel)]; congr 1
@[simp ↓] theorem v_fdiv : vFdiv (.int i) (.int j) S = if 0 < j ∧ j < 1073741824 then .ok (.int (i / j)) S else .st := nr
@[simp ↓] theorem v_mod : vMod (.int i) (.int j) S = if 0 < j then .ok (.int (i % j)) S else .st := nr
@[simp ↓] theorem v_neg : vNeg (.int i) S = .ok (.int (-i)) S := nr
@[simp ↓] theorem v_lt : vLt (.int i) (.int j) S = .ok (.bl (decide (i < j))) S := nr
@[simp ↓] theorem v_le : vLe (.int i) (.int j) S = .ok (.bl (decide (i ≤ j))) S := nr
@[simp ↓] theorem v_gt : vGt (.int i) (.int j) S = .ok (.bl (decide (j < i))) S := nr
@[simp ↓] theorem v_ge : vGe (.int i) (.int j) S = .ok (.bl (decide (j ≤ i))) S := nr
@[simp ↓] theorem v_eqI : vEq (.int i) (.int j) S = .ok (.bl (decide (i = j))) S := by
  unfold vEq datS Val.dat
  dsimp only
  rw [if_pos ⟨shaped_of (lay_int (k := 0) i) (by decide), shaped_of (lay_int (k := 0) j) (by decide)⟩]
  unfold PyData.eqv; rfl
@[simp ↓] theorem v_neI : vNe (.int i) (.int j) S = .ok (.bl (!decide (i = j))) S := by
  unfold vNe datS Val.dat
  dsimp only
  rw [if_pos ⟨shaped_of (lay_int (k := 0) i) (by decide), shaped_of (lay_int (k := 0) j) (by decide)⟩]
  unfold PyData.eqv; rfl
theorem v_eqS {x y : Str} (hx : PyData.strOk x = true) (hy : PyData.strOk y = true) : vEq (.str x) (.str y) S = .ok (.bl (x == y)) S := by
  unfold vEq datS Val.dat
  dsimp only
  rw [if_pos ⟨shaped_of (lay_str (k := 0) hx) (by decide), shaped_of (lay_str (k := 0) hy) (by decide)⟩]
  unfold PyData.eqv; rfl
@[simp ↓] theorem v_ixT : vIx (.tup xs) (.int i) S = vr (atI xs i) S := by show (match atI xs i with | some u => Res.ok u S | none => .st) = _; cases atI xs i <;> rfl
@[simp ↓] theorem v_ixL : vIx (.lst xs) (.int i) S = vr (atI xs i) S := by show (match atI xs i with | some u => Res.ok u S | none => .st) = _; cases atI xs i <;> rfl
@[simp ↓] theorem v_ixF : vIx (.fz xs) (.int i) S = vr (atI xs i) S := by show (match atI xs i with | some u => Res.ok u S | none => .st) = _; cases atI xs i <;> rfl
theorem lstOf_loc {k : Nat} (h : S.objs k = some (.lst xs)) : lstOf S (.loc k) = some xs := by unfold lstOf; dsimp only; rw [h]
@[simp] theorem lstOf_lst : lstOf S (.lst xs) = some xs := nr
@[simp] theorem lstOf_fz : lstOf S (.fz xs) = some xs := nr
theorem mlstOf_loc {k : Nat} (h : S.objs k = some (.lst xs)) : mlstOf S (.loc k) = some xs := by unfold mlstOf; dsimp only; rw [h]
theorem isLst_loc {k : Nat} (h : S.objs k = some (.lst xs)) : isLst (.loc k) S = true := by unfold isLst; rw [lstOf_loc h]; rfl
theorem vAppend_at {k : Nat} {u : Val} (h : S.objs k = some (.lst xs)) (hl : xs.length < sizeLine) : vAppend (.loc k) [u] S = .ok .non (S.put k (.lst (xs ++ [u]))) := by
  unfold vAppend; dsimp only; rw [h]; dsimp only; rw [if_pos hl]
theorem atI_n {α : Type} {l : List α} {n : Nat} : atI l (n : Int) = l[n]? := by
  unfold atI ixN
  by_cases h : n < l.length
  · rw [if_pos (by omega), if_pos (by omega)]; simp
  · rw [if_pos (by omega), if_neg (by omega), List.getElem?_eq_none (by omega)]; rfl
@[simp] theorem atI_map {α β : Type} {l : List α} {f : α → β} {i : Int} : atI (l.map f) i = (atI l i).map f := by
  unfold atI
  rw [List.length_map]
  cases ixN l.length i with
  | none => rfl
  | some j => simp
end

section
variable {S : Sto} {i j : Int} {xs ys : List Val} {k : Nat} {b : Bool} {x : Str}
@[simp] theorem isA_eq {t n : Tg} : isA t n = (decide (t = n) || (decide (t = .bl) && decide (n = .int))) := nr
@[simp ↓] theorem v_isiN {n : Tg} : vIsi [.non, .ty n] S = .ok (.bl (isA .non n)) S := nr
@[simp ↓] theorem v_isiI {n : Tg} : vIsi [.int i, .ty n] S = .ok (.bl (isA .int n)) S := nr
@[simp ↓] theorem v_isiB {n : Tg} : vIsi [.bl b, .ty n] S = .ok (.bl (isA .bl n)) S := nr
@[simp ↓] theorem v_isiS {n : Tg} : vIsi [.str x, .ty n] S = .ok (.bl (isA .str n)) S := nr
@[simp ↓] theorem v_isiT {n : Tg} : vIsi [.tup xs, .ty n] S = .ok (.bl (isA .tup n)) S := nr
@[simp ↓] theorem v_isiL {n : Tg} : vIsi [.lst xs, .ty n] S = .ok (.bl (isA .lst n)) S := nr
theorem v_isi_loc {n : Tg} (h : S.objs k = some (.lst xs)) : vIsi [.loc k, .ty n] S = .ok (.bl (isA .lst n)) S := by unfold vIsi tagOf; simp only [h]
@[simp ↓] theorem v_lenT : vLen [.tup xs] S = .ok (.int (xs.length : Nat)) S := nr
@[simp ↓] theorem v_lenL : vLen [.lst xs] S = .ok (.int (xs.length : Nat)) S := nr
@[simp ↓] theorem v_lenF : vLen [.fz xs] S = .ok (.int (xs.length : Nat)) S := nr
theorem v_len_loc (h : S.objs k = some (.lst xs)) : vLen [.loc k] S = .ok (.int (xs.length : Nat)) S := by unfold vLen; simp only [lstOf_loc h]
@[simp ↓] theorem v_abs : vAbs [.int i] S = .ok (.int (if i < 0 then -i else i)) S := nr
@[simp ↓] theorem v_min2 : vMin2 [.int i, .int j] S = .ok (.int (if j < i then j else i)) S := nr
@[simp ↓] theorem v_max2 : vMax2 [.int i, .int j] S = .ok (.int (if j > i then j else i)) S := nr
@[simp ↓] theorem v_int : vInt [.int i] S = .ok (.int i) S := nr
@[simp ↓] theorem v_intB : vInt [.bl b] S = .ok (.int (if b then 1 else 0)) S := nr
@[simp ↓] theorem v_listT {bx : Bool} : vList bx [.tup xs] S = mkL bx xs S := nr
@[simp ↓] theorem v_listL {bx : Bool} : vList bx [.lst xs] S = mkL bx xs S := nr
@[simp ↓] theorem v_listF {bx : Bool} : vList bx [.fz xs] S = mkL bx xs S := nr
theorem v_list_loc {bx : Bool} (h : S.objs k = some (.lst xs)) : vList bx [.loc k] S = mkL bx xs S := by unfold vList; simp only [lstOf_loc h]
@[simp ↓] theorem v_tupT : vTuple [.tup xs] S = .ok (.tup xs) S := nr
@[simp ↓] theorem v_tupL : vTuple [.lst xs] S = .ok (.tup xs) S := nr
@[simp ↓] theorem v_tupF : vTuple [.fz xs] S = .ok (.tup xs) S := nr
theorem v_tup_loc (h : S.objs k = some (.lst xs)) : vTuple [.loc k] S = .ok (.tup xs) S := by unfold vTuple; simp only [lstOf_loc h]
@[simp] theorem bls_map {α : Type} {f : α → Bool} : ∀ {l : List α}, blsOf (l.map fun a => Val.bl (f a)) = some (l.map f)
  | [] => rfl
  | a :: l => by
    have := bls_map (f := f) (l := l)
    simp only [List.map_cons, blsOf, this, Option.map]
theorem v_all {α : Type} {f : α → Bool} {l : List α} : vAll [.lst (l.map fun a => Val.bl (f a))] S = .ok (.bl (l.all f)) S := by
  unfold vAll; simp only [lstOf_lst, Option.bind, bls_map]; rw [List.all_map]; rfl
theorem v_any {α : Type} {f : α → Bool} {l : List α} : vAny [.lst (l.map fun a => Val.bl (f a))] S = .ok (.bl (l.any f)) S := by
  unfold vAny; simp only [lstOf_lst, Option.bind, bls_map]; rw [List.any_map]; rfl
@[simp ↓] theorem v_revL {bx : Bool} : vRevL bx (.lst xs) S = mkL bx xs.reverse S := nr
@[simp ↓] theorem v_cutT {bx : Bool} {lo hi : Option Int} : vCut bx (.tup xs) lo hi S = .ok (.tup (cutG xs lo hi)) S := nr
@[simp ↓] theorem v_cutL {bx : Bool} {lo hi : Option Int} : vCut bx (.lst xs) lo hi S = mkL bx (cutG xs lo hi) S := nr
@[simp ↓] theorem v_cutF {bx : Bool} {lo hi : Option Int} : vCut bx (.fz xs) lo hi S = mkL bx (cutG xs lo hi) S := nr
theorem v_cut_loc {bx : Bool} {lo hi : Option Int} (h : S.objs k = some (.lst xs)) : vCut bx (.loc k) lo hi S = mkL bx (cutG xs lo hi) S := by unfold vCut; simp only [lstOf_loc h]
@[simp ↓] theorem seqT : seqIt (.tup xs) S = .ok ⟨xs, fun _ => True⟩ S := nr
@[simp ↓] theorem seqL : seqIt (.lst xs) S = .ok ⟨xs, fun _ => True⟩ S := nr
@[simp ↓] theorem seqF : seqIt (.fz xs) S = .ok ⟨xs, fun _ => True⟩ S := nr
theorem seq_loc (h : S.objs k = some (.lst xs)) : seqIt (.loc k) S = .ok ⟨xs, fun S' => S'.objs k = some (.lst xs)⟩ S := by unfold seqIt; simp only [h]
@[simp] theorem truB : truOf S (.bl b) = some b := nr
@[simp] theorem truI : truOf S (.int i) = some (i != 0) := nr
@[simp] theorem truT : truOf S (.tup xs) = some (!xs.isEmpty) := nr
@[simp] theorem truL : truOf S (.lst xs) = some (!xs.isEmpty) := nr
@[simp] theorem truN : truOf S .non = some false := nr
theorem setIx_at {u : Val} {n : Nat} (h : S.objs k = some (.lst xs)) (hi : ixN xs.length i = some n) : setIx (.loc k) (.int i) u S = some (S.put k (.lst (xs.set n u))) := by unfold setIx; simp only [h, hi, Option.map]
theorem setIx_nat {u : Val} {n : Nat} (h : S.objs k = some (.lst xs)) (hi : n < xs.length) : setIx (.loc k) (.int (n : Int)) u S = some (S.put k (.lst (xs.set n u))) :=
  setIx_at h (by unfold ixN; rw [if_pos (by omega), if_pos (by omega)]; simp)
@[simp] theorem insOf_ins {c : Nat} {vs : List Val} : insOf S (.ins c vs) = some (c, vs) := nr
theorem insOf_loc {c : Nat} {vs : List Val} (h : S.objs k = some (.ins c vs)) : insOf S (.loc k) = some (c, vs) := by unfold insOf; simp only [h]
@[simp] theorem isInst_ins {c d : Nat} {vs : List Val} : isInst c S (.ins d vs) = (d == c) := nr
theorem isInst_loc {c d : Nat} {vs : List Val} (h : S.objs k = some (.ins d vs)) : isInst c S (.loc k) = (d == c) := by unfold isInst; rw [insOf_loc h]
@[simp] theorem dat_int : (Val.int i).dat = some (.int i) := by unfold Val.dat; rfl
@[simp] theorem dat_bl : (Val.bl b).dat = some (.bool b) := by unfold Val.dat; rfl
@[simp] theorem dat_str : (Val.str x).dat = some (.str x) := by unfold Val.dat; rfl
@[simp] theorem dat_non : Val.non.dat = some .none := by unfold Val.dat; rfl
@[simp] theorem dat_tup : (Val.tup xs).dat = (Val.dats xs).map .tuple := by rw [Val.dat]
@[simp] theorem dat_lst : (Val.lst xs).dat = (Val.dats xs).map .list := by rw [Val.dat]
@[simp] theorem dat_fz : (Val.fz xs).dat = (Val.dats xs).map .list := by rw [Val.dat]
@[simp] theorem dats_nil : Val.dats [] = some [] := by unfold Val.dats; rfl
theorem dats_cons {v : Val} {vs : List Val} {d : PyData} {ds : List PyData} (h : v.dat = some d) (h2 : Val.dats vs = some ds) : Val.dats (v :: vs) = some (d :: ds) := by rw [Val.dats, h, h2]
theorem datS_loc (h : S.objs k = some (.lst xs)) : datS S (.loc k) = (Val.dats xs).map .list := by unfold datS; simp only [h]
@[simp] theorem datS_tup : datS S (.tup xs) = (Val.dats xs).map .tuple := by unfold datS; exact dat_tup
@[simp] theorem datS_lst : datS S (.lst xs) = (Val.dats xs).map .list := by unfold datS; exact dat_lst
@[simp] theorem datS_str : datS S (.str x) = some (.str x) := by unfold datS; exact dat_str
@[simp] theorem datS_int : datS S (.int i) = some (.int i) := by unfold datS; exact dat_int
theorem v_ix_loc (h : S.objs k = some (.lst xs)) : vIx (.loc k) (.int i) S = vr (atI xs i) S := by
  unfold vIx; simp only [lstOf_loc h]; cases atI xs i <;> rfl
section
variable {α : Type} {a b c d e f g : α} {l : List α}
@[simp ↓] theorem at0 : atI (a :: l) 0 = some a := atI_n (n := 0)
@[simp ↓] theorem at1 : atI (a :: b :: l) 1 = some b := atI_n (n := 1)
@[simp ↓] theorem at2 : atI (a :: b :: c :: l) 2 = some c := atI_n (n := 2)
@[simp ↓] theorem at3 : atI (a :: b :: c :: d :: l) 3 = some d := atI_n (n := 3)
@[simp ↓] theorem at4 : atI (a :: b :: c :: d :: e :: l) 4 = some e := atI_n (n := 4)
@[simp ↓] theorem at5 : atI (a :: b :: c :: d :: e :: f :: l) 5 = some f := atI_n (n := 5)
@[simp ↓] theorem at6 : atI (a :: b :: c :: d :: e :: f :: g :: l) 6 = some g := atI_n (n := 6)
end
end

/-! ### slices -/
theorem cut_take {α : Type} {xs : List α} {m : Nat} : cutG xs none (some (m : Int)) = xs.take m := by
  unfold cutG
  rw [HT.sIx_none, HT.sIx_nat, List.drop_zero, Nat.sub_zero]
  rcases Nat.le_total m xs.length with h | h
  · rw [Nat.min_eq_left h]
  · rw [Nat.min_eq_right h, List.take_of_length_le h, List.take_of_length_le (Nat.le_refl _)]
theorem cut_drop {α : Type} {xs : List α} {m : Nat} : cutG xs (some (m : Int)) none = xs.drop m := by
  unfold cutG
  rw [HT.sIx_none, HT.sIx_nat]
  rcases Nat.le_total m xs.length with h | h
  · rw [Nat.min_eq_left h, List.take_of_length_le (by simp)]
  · rw [Nat.min_eq_right h, List.drop_eq_nil_of_le h, List.drop_eq_nil_of_le (Nat.le_refl _)]; simp
theorem cut_seg {α : Type} {xs : List α} {m n : Nat} (h : n ≤ xs.length) : cutG xs (some (m : Int)) (some (n : Int)) = (xs.drop m).take (n - m) := by
  unfold cutG
  rw [HT.sIx_nat, HT.sIx_nat, Nat.min_eq_left h]
  rcases Nat.le_total m xs.length with h' | h'
  · rw [Nat.min_eq_left h']
  · rw [Nat.min_eq_right h', List.drop_eq_nil_of_le h', List.drop_eq_nil_of_le (Nat.le_refl _)]; simp
/-- xs[:-1] -/
theorem cut_but {α : Type} {xs : List α} : cutG xs none (some (-1)) = xs.dropLast := by
  unfold cutG
  rw [HT.sIx_none, List.drop_zero, Nat.sub_zero, List.dropLast_eq_take]
  congr 1
  unfold HT.sIx
  dsimp only
  rw [if_pos (by decide)]
  omega
@[simp] theorem cut2 {α : Type} {a b : α} {l : List α} : cutG (a :: b :: l) (some 2) none = l := cut_drop (m := 2)
@[simp] theorem cut1 {α : Type} {a : α} {l : List α} : cutG (a :: l) (some 1) none = l := cut_drop (m := 1)
theorem rn_is {α : Type} {r : Res α} {a : α} {S : Sto} {P : α → Sto → Prop} {X : XP} (h : r = .ok a S) (q : P a S) : Rn r P X := by rw [h]; exact q
@[simp ↓] theorem v_allR {n : Nat} {S : Sto} : vAll [.lst (List.replicate n (.bl true))] S = .ok (.bl true) S := by
  have : (List.replicate n (Val.bl true)) = (List.replicate n ()).map fun _ => Val.bl true := by simp
  rw [this, v_all]; simp
theorem map_const {α β : Type} {b : β} : ∀ {l : List α}, (l.map fun _ => b) = List.replicate l.length b
  | [] => rfl
  | a :: l => by rw [List.map_cons, map_const, List.length_cons, List.replicate_succ]

/-! ### lists by what they hold -/
section
variable {S : Sto} {v : Val} {xs : List Val}
theorem vLen_of (h : lstOf S v = some xs) : vLen [v] S = .ok (.int (xs.length : Nat)) S := by
  cases v <;> first | (cases h; rfl; done) | (cases h; done) | skip
  unfold vLen; simp only [h]
theorem vList_of {bx : Bool} (h : lstOf S v = some xs) : vList bx [v] S = mkL bx xs S := by
  cases v <;> first | (cases h; rfl; done) | (cases h; done) | skip
  unfold vList; simp only [h]
theorem vTuple_of (h : lstOf S v = some xs) : vTuple [v] S = .ok (.tup xs) S := by
  cases v <;> first | (cases h; rfl; done) | (cases h; done) | skip
  unfold vTuple; simp only [h]
theorem seq_of (h : lstOf S v = some xs) : ∃ src, seqIt v S = .ok ⟨xs, src⟩ S ∧ ∀ S', lstOf S' v = some xs → src S' := by
  cases v <;> first | (cases h; exact ⟨_, rfl, fun _ _ => trivial⟩) | (cases h; done) | skip
  rename_i k
  refine ⟨fun S' => S'.objs k = some (.lst xs), ?_, fun S' h' => ?_⟩
  · unfold lstOf at h
    dsimp only at h
    split at h
    · cases h; rename_i e; exact seq_loc e
    · cases h
  · unfold lstOf at h'
    dsimp only at h'
    split at h'
    · cases h'; rename_i e; exact e
    · cases h'
end
theorem lstOf_ext {S S' : Sto} {k : Nat} {xs : List Val} (x : Ext S S') (hk : k < S.next) (h : S.objs k = some (.lst xs)) : lstOf S' (.loc k) = some xs := lstOf_loc (x.at_ hk h)

/-! ### try -/
theorem sn_try {bd : SM} {i : Nat} {off : List Nat} {hs : List (Nat × SM)} {ρ : Ev} {S : Sto} {N : Ev → Sto → Prop} {R : Val → Sto → Prop} {B C : Ev → Sto → Prop} {E : Nat → List Val → Ev → Sto → Prop} {kk : Kp (⟨N, R, B, C, E⟩ : En)} :
    Sn (sTry bd i off hs ρ S) ⟨N, R, B, C, E⟩ kk = Sn (bd ρ S) ⟨N, R, B, C, fun c vs ρ' S' => match hs.lookup c with
      | some s => Sn (suiteEnd i S' (s (ρ'.set i (some (.err c vs))) S')) ⟨N, R, B, C, E⟩
      | none => off.contains c = true ∧ E c vs ρ' S'⟩ := by
  unfold sTry
  cases bd ρ S with
  | ex c vs ρ' S' =>
    rw [sn_ex]
    dsimp only
    cases hs.lookup c with
    | some s => rfl
    | none =>
      dsimp only
      by_cases h : off.contains c = true
      · rw [if_pos h]; simp only [h, true_and]; rfl
      · rw [if_neg h, sn_st]; simp only [h, Bool.false_eq_true, false_and]
  | _ => rfl
@[simp] theorem cut_1 {α : Type} {l : List α} : cutG l (some 1) none = l.drop 1 := cut_drop (m := 1)
theorem atI_mem {α : Type} {l : List α} {i : Int} (h0 : 0 ≤ i) (h1 : i < l.length) : ∃ b, atI l i = some b ∧ b ∈ l := by
  obtain ⟨j, rfl⟩ := Int.eq_ofNat_of_zero_le h0
  have hj : j < l.length := by omega
  exact ⟨l[j], by rw [atI_n, List.getElem?_eq_getElem hj], List.getElem_mem hj⟩
end PM

/-! PM, part q: plain reasoning about parts l to o -/
namespace PM
open PySem PySem.Spec L2
section
variable {X : XP} {ρ : Ev} {S : Sto} {i j : Int} {xs ys : List Val} {P : Val → Sto → Prop}
@[simp ↓] theorem e_makeXN {n c : Nat} {F : FM} {a : AM} {kk : Kp (P, X)} : Rn (eMakeXN n c F a ρ S) P X kk = Rn (a ρ S) (fun vs S1 => (Val.loc S1.next :: vs).length = n ∧ Rn (F (.loc S1.next :: vs) (S1.alloc (.ins c []))) (fun r S2 => r = .non ∧ P (.loc S1.next) S2) X) X := by
  unfold eMakeXN; rw [rn_bind]; refine Rn_ext fun vs S1 => ?_; rw [rn_guard, rn_bind]
  refine congrArg (And _) ?_
  cases F (.loc S1.next :: vs) (S1.alloc (.ins c [])) with
  | ok r S2 => cases r <;> simp [Rn]
  | ex c vs S => rfl
  | st => rfl
@[simp ↓] theorem v_repT : vRepT (.tup xs) (.int i) S = if -1000 ≤ i ∧ i ≤ 1000 ∧ xs.length ≤ 1000 then .ok (.tup (List.replicate i.toNat xs).flatten) S else .st := nr
@[simp ↓] theorem v_and : vAnd (.int i) (.int j) S = .ok (.int (Builtin.bitAnd i j)) S := nr
@[simp ↓] theorem v_shr : vShr (.int i) (.int j) S = if 0 ≤ j then .ok (.int (i / 2 ^ j.toNat)) S else .st := nr
@[simp ↓] theorem v_shl : vShl (.int i) (.int j) S = if 0 ≤ j ∧ j ≤ 1000 ∧ i.natAbs < 2 ^ 64 then .ok (.int (i * 2 ^ j.toNat)) S else .st := nr
theorem ints_of : ∀ {l : List Int}, intsOf (l.map .int) = some l
  | [] => rfl
  | a :: l => by rw [List.map_cons]; unfold intsOf; rw [ints_of]; rfl
theorem v_anyI {l : List Int} : vAnyI [.tup (l.map .int)] S = .ok (.bl (l.any (· != 0))) S := by unfold vAnyI; simp only [ints_of]
theorem v_bestT {f : Int → Int → Int} {n : Int} {l : List Int} : vBest f [.tup ((n :: l).map .int)] S = .ok (.int (l.foldl f n)) S := by unfold vBest; simp only [ints_of]
theorem v_bestL {f : Int → Int → Int} {n : Int} {l : List Int} : vBest f [.lst ((n :: l).map .int)] S = .ok (.int (l.foldl f n)) S := by unfold vBest; simp only [lstOf_lst, Option.bind, ints_of]
theorem v_sortT {bx : Bool} {l : List Int} : vSortB bx [.tup (l.map .int)] S = mkL bx ((sortI l).map .int) S := by unfold vSortB; simp only [ints_of]
end
end PM

/-! PP, part a: programs without a store; the relation to the programs over the store -/
namespace PM
open PySem PySem.Spec L2

/-- slots: the same value; a list, dict or instance of the store or the same value; one that this def owns; one that the caller lends to be changed; a cell -/
inductive Kd where
  | s | f | o | p | c
  deriving DecidableEq
def Kd.own : Kd → Bool
  | .o => true | .p => true | _ => false
abbrev Cs := List (Nat × Nat)
def obV : Ob → Option Val
  | .lst xs => some (.lst xs)
  | .dk false ks vs => some (.dk ks vs)
  | .dt false ks vs => some (.dt ks vs)
  | .ins c vs => some (.ins c vs)
  | _ => none
def isO : Val → Bool
  | .lst _ => true | .dk _ _ => true | .dt _ _ => true | .ins _ _ => true | _ => false
theorem isO_of {o : Ob} {u : Val} (h : obV o = some u) : isO u = true := by
  cases o with
  | lst xs => cases h; rfl
  | dk lk ks vs => cases lk <;> cases h; rfl
  | dt lk ks vs => cases lk <;> cases h; rfl
  | ins c vs => cases h; rfl
def Free (c : Cs) (k : Nat) : Prop := ∀ p ∈ c, p.2 ≠ k
/-- k holds what u tells -/
def VL (c : Cs) (S : Sto) (k : Nat) (u : Val) : Prop := Free c k ∧ ∃ o, S.objs k = some o ∧ obV o = some u
def VQ (c : Cs) (S : Sto) (v v' : Val) : Prop := v = v' ∨ ∃ k, v = .loc k ∧ VL c S k v'
structure St (c : Cs) (Z S : Sto) : Prop where
  cr : ∀ p ∈ c, ∃ o, Z.objs p.1 = some o ∧ S.objs p.2 = some o
  inj : ∀ p ∈ c, ∀ q ∈ c, p.1 = q.1 ↔ p.2 = q.2
  wf : ∀ k o, S.objs k = some o → k < S.next
  wz : ∀ k o, Z.objs k = some o → k < Z.next
/-- an expression's frame -/
structure XF (c : Cs) (S S1 : Sto) : Prop where
  le : S.next ≤ S1.next
  eq : ∀ k, k < S.next → Free c k → S1.objs k = S.objs k
theorem XF.refl {c : Cs} {S : Sto} : XF c S S := ⟨Nat.le_refl _, fun _ _ _ => rfl⟩
theorem XF.trans {c : Cs} {S S1 S2 : Sto} (a : XF c S S1) (b : XF c S1 S2) : XF c S S2 :=
  ⟨Nat.le_trans a.le b.le, fun k h f => (b.eq k (Nat.lt_of_lt_of_le h a.le) f).trans (a.eq k h f)⟩
theorem VL.lt {c : Cs} {Z S : Sto} {k : Nat} {u : Val} (s : St c Z S) (h : VL c S k u) : k < S.next := by
  obtain ⟨_, o, e, _⟩ := h
  exact s.wf _ _ e
theorem VL.mono {c : Cs} {Z S S1 : Sto} {k : Nat} {u : Val} (s : St c Z S) (x : XF c S S1) (h : VL c S k u) : VL c S1 k u := by
  have l := h.lt s
  obtain ⟨f, o, e, q⟩ := h
  exact ⟨f, o, (x.eq k l f).trans e, q⟩
theorem VQ.mono {c : Cs} {Z S S1 : Sto} {v v' : Val} (s : St c Z S) (x : XF c S S1) (h : VQ c S v v') : VQ c S1 v v' := by
  rcases h with h | ⟨k, e, h⟩
  · exact .inl h
  · exact .inr ⟨k, e, h.mono s x⟩
abbrev RelK (α β : Type) := Cs → Nat → Sto → α → β → Prop
def RV {α : Type} : RelK α α := fun _ _ _ v v' => v = v'
def RQ : RelK Val Val := fun c _ S v v' => VQ c S v v'
/-- a new object -/
def RF : RelK Val Val := fun c n S v v' => ∃ k, v = .loc k ∧ n ≤ k ∧ VL c S k v'
def Sim {α β : Type} (c : Cs) (S : Sto) (n : Nat) (R : RelK α β) (r : Res α) (r' : Res β) : Prop := match r' with
  | .ok v' Z1 => ∃ v S1, r = .ok v S1 ∧ XF c S S1 ∧ St c Z1 S1 ∧ R c n S1 v v'
  | .ex i vs Z1 => ∃ S1, r = .ex i vs S1 ∧ XF c S S1 ∧ St c Z1 S1
  | .st => True
section
variable {α β γ δ : Type} {c : Cs} {S Z : Sto} {n : Nat} {R : RelK α β} {R2 : RelK γ δ}
theorem Sim.bind {r : Res α} {r' : Res β} {g : α → Sto → Res γ} {g' : β → Sto → Res δ} (h : Sim c S n R r r')
    (k : ∀ v v' S1 Z1, XF c S S1 → St c Z1 S1 → R c n S1 v v' → Sim c S1 n R2 (g v S1) (g' v' Z1)) : Sim c S n R2 (r.bind g) (r'.bind g') := by
  cases r' with
  | st => trivial
  | ex i vs Z1 =>
    obtain ⟨S1, e, x, s⟩ := h
    rw [e]; exact ⟨S1, rfl, x, s⟩
  | ok v' Z1 =>
    obtain ⟨v, S1, e, x, s, q⟩ := h
    rw [e]
    have := k v v' S1 Z1 x s q
    show Sim c S n R2 (g v S1) (g' v' Z1)
    revert this
    cases g' v' Z1 with
    | st => intro _; trivial
    | ex i vs Z2 => rintro ⟨S2, e2, x2, s2⟩; exact ⟨S2, e2, x.trans x2, s2⟩
    | ok w Z2 => rintro ⟨u, S2, e2, x2, s2, q2⟩; exact ⟨u, S2, e2, x.trans x2, s2, q2⟩
theorem Sim.ok {v : α} {v' : β} (s : St c Z S) (h : R c n S v v') : Sim c S n R (.ok v S) (.ok v' Z) := ⟨v, S, rfl, .refl, s, h⟩
theorem Sim.imp {R' : RelK α β} {r : Res α} {r' : Res β} (h : Sim c S n R r r') (i : ∀ S1 v v', R c n S1 v v' → R' c n S1 v v') : Sim c S n R' r r' := by
  cases r' with
  | st => trivial
  | ex => exact h
  | ok v' Z1 => obtain ⟨v, S1, e, x, s, q⟩ := h; exact ⟨v, S1, e, x, s, i _ _ _ q⟩
theorem Sim.noEx {r : Res α} {r' : Res β} (h : Sim c S n R r r') : Sim c S n R (noEx r) (noEx r') := by
  cases r' with
  | st => trivial
  | ex => trivial
  | ok v' Z1 => obtain ⟨v, S1, e, x, s, q⟩ := h; rw [e]; exact ⟨v, S1, rfl, x, s, q⟩
end
/-! ### slots -/
def nl (a : Option Val) : Prop := a = none ∨ ∃ k, a = some (.loc k)
def SlR (c : Cs) (S : Sto) : Kd → Option Val → Option Val → Prop
  | .s, a, b => a = b
  | .f, a, b => a = b ∨ ∃ k u, a = some (.loc k) ∧ b = some u ∧ VL c S k u
  | .o, a, b => (b = none ∧ nl a) ∨ ∃ k u, a = some (.loc k) ∧ b = some u ∧ VL c S k u
  | .p, a, b => (b = none ∧ nl a) ∨ ∃ k u, a = some (.loc k) ∧ b = some u ∧ VL c S k u
  | .c, a, b => (b = none ∧ nl a) ∨ ∃ j k, a = some (.loc k) ∧ b = some (.loc j) ∧ (j, k) ∈ c
/-- the slot's object -/
def us (a b : Option Val) (k : Nat) : Prop := a = some (.loc k) ∧ ∃ u, b = some u ∧ isO u = true
structure EvR (κ : List Kd) (c : Cs) (S : Sto) (ρ ρ' : Ev) : Prop where
  len : ρ.length = κ.length
  len' : ρ'.length = κ.length
  rel : ∀ i kd, κ[i]? = some kd → SlR c S kd (lk ρ i) (lk ρ' i)
  na : ∀ i j kd k, i ≠ j → κ[i]? = some kd → kd.own = true → us (lk ρ i) (lk ρ' i) k → ¬ us (lk ρ j) (lk ρ' j) k
theorem SlR.mono {c : Cs} {Z S S1 : Sto} (s : St c Z S) (x : ∀ k u, VL c S k u → VL c S1 k u) : ∀ {kd : Kd} {a b : Option Val}, SlR c S kd a b → SlR c S1 kd a b
  | .s, _, _, h => h
  | .f, _, _, h => by
    rcases h with h | ⟨k, u, e1, e2, h⟩
    · exact .inl h
    · exact .inr ⟨k, u, e1, e2, x _ _ h⟩
  | .o, _, _, h => by
    rcases h with h | ⟨k, u, e1, e2, h⟩
    · exact .inl h
    · exact .inr ⟨k, u, e1, e2, x _ _ h⟩
  | .p, _, _, h => by
    rcases h with h | ⟨k, u, e1, e2, h⟩
    · exact .inl h
    · exact .inr ⟨k, u, e1, e2, x _ _ h⟩
  | .c, _, _, h => h
theorem EvR.mono {κ : List Kd} {c : Cs} {Z S S1 : Sto} {ρ ρ' : Ev} (s : St c Z S) (x : XF c S S1) (h : EvR κ c S ρ ρ') : EvR κ c S1 ρ ρ' :=
  ⟨h.len, h.len', fun i kd e => (h.rel i kd e).mono s fun _ _ q => q.mono s x, h.na⟩
/-- lifts of expressions -/
def LE {α β : Type} (R : RelK α β) (κ : List Kd) (e : Ev → Sto → Res α) (p : Ev → Sto → Res β) : Prop := ∀ c Z S ρ ρ' n, EvR κ c S ρ ρ' → St c Z S → n ≤ S.next → Sim c S n R (e ρ S) (p ρ' Z)
/-- an operator asked without a store -/
def Res.onto {α : Type} (r : Res α) (Z : Sto) : Res α := match r with
  | .ok a _ => .ok a Z
  | .ex c vs _ => .ex c vs Z
  | .st => .st
abbrev Z0 : Sto := S0
def eBinP (op : Val → Val → Sto → Res Val) (a b : EM) : EM := fun ρ S => (a ρ S).bind fun v S1 => (b ρ S1).bind fun w S2 => (op v w Z0).onto S2
def eUnP (op : Val → Sto → Res Val) (a : EM) : EM := fun ρ S => (a ρ S).bind fun v S1 => (op v Z0).onto S1
def eBIP (op : List Val → Sto → Res Val) (a : AM) : EM := fun ρ S => (a ρ S).bind fun vs S1 => (op vs Z0).onto S1
/-- an operator that gives the same for a store's object as for its value -/
def Rs2 (op : Val → Val → Sto → Res Val) : Prop := ∀ c S v v' w w' u Z1, VQ c S v v' → VQ c S w w' → op v' w' Z0 = .ok u Z1 → op v w S = .ok u S
def Rs1 (op : Val → Sto → Res Val) : Prop := ∀ c S v v' u Z1, VQ c S v v' → op v' Z0 = .ok u Z1 → op v S = .ok u S
inductive VQs (c : Cs) (S : Sto) : List Val → List Val → Prop
  | nil : VQs c S [] []
  | cons {v v' : Val} {vs vs' : List Val} : VQ c S v v' → VQs c S vs vs' → VQs c S (v :: vs) (v' :: vs')
def RsL (op : List Val → Sto → Res Val) : Prop := ∀ c S vs vs' u Z1, VQs c S vs vs' → op vs' Z0 = .ok u Z1 → op vs S = .ok u S
def RQs : RelK (List Val) (List Val) := fun c _ S vs vs' => VQs c S vs vs'
theorem VQs.mono {c : Cs} {Z S S1 : Sto} (s : St c Z S) (x : XF c S S1) : ∀ {vs vs' : List Val}, VQs c S vs vs' → VQs c S1 vs vs'
  | _, _, .nil => .nil
  | _, _, .cons a b => .cons (a.mono s x) (VQs.mono s x b)
/-- operators that never raise -/
def NX {α : Type} (r : Res α) : Prop := match r with | .ex _ _ _ => False | _ => True
section
variable {κ : List Kd} {a b e : EM} {pa pb pe : EM}
theorem LE.q {e p : EM} (h : LE RV κ e p) : LE RQ κ e p := fun c Z S ρ ρ' n r s hn => (h c Z S ρ ρ' n r s hn).imp fun _ _ _ q => .inl q
theorem LE.fq {e p : EM} (h : LE RF κ e p) : LE RQ κ e p := fun c Z S ρ ρ' n r s hn => (h c Z S ρ ρ' n r s hn).imp fun _ _ _ ⟨k, e, _, q⟩ => .inr ⟨k, e, q⟩
theorem le_c {v : Val} : LE RV κ (eC v) (eC v) := fun c Z S ρ ρ' n r s hn => .ok s rfl
theorem lk_some {ρ : Ev} {i : Nat} {v : Val} : lk ρ i = some v ↔ ρ[i]? = some (some v) := by
  rw [lk_get]
  cases e : ρ[i]? with
  | none => simp
  | some o => cases o <;> simp
theorem eVar_lk (ρ : Ev) (i : Nat) (S : Sto) : eVar i ρ S = vr (lk ρ i) S := by
  unfold eVar
  rw [lk_get]
  cases ρ[i]? with
  | none => rfl
  | some o => cases o <;> rfl
theorem le_var (i : Nat) (h : κ[i]? = some .s) : LE RV κ (eVar i) (eVar i) := fun c Z S ρ ρ' n r s hn => by
  rw [eVar_lk, eVar_lk]
  have := r.rel i _ h
  rw [show lk ρ i = lk ρ' i from this]
  cases lk ρ' i with
  | none => trivial
  | some v => exact .ok s rfl
theorem SlR.q {c : Cs} {S : Sto} {a b : Option Val} {v' : Val} : ∀ {kd : Kd}, kd ≠ .c → SlR c S kd a b → b = some v' → ∃ v, a = some v ∧ VQ c S v v'
  | .s, _, h, e => ⟨v', by rw [show a = b from h, e], .inl rfl⟩
  | .f, _, h, e => by
    rcases h with h | ⟨k, u, e1, e2, h⟩
    · exact ⟨v', by rw [h, e], .inl rfl⟩
    · rw [e2] at e; cases e; exact ⟨_, e1, .inr ⟨k, rfl, h⟩⟩
  | .o, _, h, e => by
    rcases h with ⟨h, _⟩ | ⟨k, u, e1, e2, h⟩
    · rw [h] at e; cases e
    · rw [e2] at e; cases e; exact ⟨_, e1, .inr ⟨k, rfl, h⟩⟩
  | .p, _, h, e => by
    rcases h with ⟨h, _⟩ | ⟨k, u, e1, e2, h⟩
    · rw [h] at e; cases e
    · rw [e2] at e; cases e; exact ⟨_, e1, .inr ⟨k, rfl, h⟩⟩
  | .c, n, _, _ => absurd rfl n
theorem le_varQ (i : Nat) {kd : Kd} (h : κ[i]? = some kd) (hk : kd ≠ .c) : LE RQ κ (eVar i) (eVar i) := fun c Z S ρ ρ' n r s hn => by
  rw [eVar_lk, eVar_lk]
  have := r.rel i _ h
  cases e : lk ρ' i with
  | none => trivial
  | some v' =>
    obtain ⟨v, e1, q⟩ := this.q hk e
    rw [e1]; exact .ok s q
theorem onto_ok {α : Type} {r : Res α} {Z : Sto} {u : α} {Z1 : Sto} (h : r.onto Z = .ok u Z1) : Z1 = Z ∧ ∃ Z2, r = .ok u Z2 := by
  cases r <;> cases h; exact ⟨rfl, _, rfl⟩
theorem sim_op {c : Cs} {S Z : Sto} {n : Nat} {r r' : Res Val} (s : St c Z S) (hx : NX r') (h : ∀ u Z1, r' = .ok u Z1 → r = .ok u S) : Sim c S n RV r (r'.onto Z) := by
  cases r' with
  | st => trivial
  | ex => exact False.elim hx
  | ok u Z1 => exact ⟨u, S, h u Z1 rfl, .refl, s, rfl⟩
theorem le_bin {op : Val → Val → Sto → Res Val} (ok : Rs2 op) (nx : ∀ v w S, NX (op v w S)) (ha : LE RQ κ a pa) (hb : LE RQ κ b pb) : LE RV κ (eBin op a b) (eBinP op pa pb) := fun c Z S ρ ρ' n r s hn =>
  (ha c Z S ρ ρ' n r s hn).bind fun v v' S1 Z1 x1 s1 q1 => (hb c Z1 S1 ρ ρ' n (r.mono s x1) s1 (Nat.le_trans hn x1.le)).bind fun w w' S2 Z2 x2 s2 q2 =>
    sim_op s2 (nx _ _ _) fun u Z3 e => ok c S2 v v' w w' u Z3 (q1.mono s1 x2) q2 e
theorem le_un {op : Val → Sto → Res Val} (ok : Rs1 op) (nx : ∀ v S, NX (op v S)) (ha : LE RQ κ a pa) : LE RV κ (eUn op a) (eUnP op pa) := fun c Z S ρ ρ' n r s hn =>
  (ha c Z S ρ ρ' n r s hn).bind fun v v' S1 Z1 x1 s1 q1 => sim_op s1 (nx _ _) fun u Z3 e => ok c S1 v v' u Z3 q1 e
theorem la_nil : LE RQs κ aNil aNil := fun c Z S ρ ρ' n r s hn => .ok s .nil
theorem la_cons {r r' : AM} (ha : LE RQ κ a pa) (hr : LE RQs κ r r') : LE RQs κ (aCons a r) (aCons pa r') := fun c Z S ρ ρ' n er s hn =>
  (ha c Z S ρ ρ' n er s hn).bind fun v v' S1 Z1 x1 s1 q1 => (hr c Z1 S1 ρ ρ' n (er.mono s x1) s1 (Nat.le_trans hn x1.le)).bind fun w w' S2 Z2 x2 s2 q2 => .ok s2 (.cons (q1.mono s1 x2) q2)
theorem lv_nil : LE RV κ aNil aNil := fun c Z S ρ ρ' n r s hn => .ok s rfl
theorem lv_cons {r r' : AM} (ha : LE RV κ a pa) (hr : LE RV κ r r') : LE RV κ (aCons a r) (aCons pa r') := fun c Z S ρ ρ' n er s hn =>
  (ha c Z S ρ ρ' n er s hn).bind fun v v' S1 Z1 x1 s1 q1 => (hr c Z1 S1 ρ ρ' n (er.mono s x1) s1 (Nat.le_trans hn x1.le)).bind fun w w' S2 Z2 x2 s2 q2 => .ok s2 (by rw [show v = v' from q1, show w = w' from q2]; rfl)
theorem le_bi {op : List Val → Sto → Res Val} {r r' : AM} (ok : RsL op) (nx : ∀ v S, NX (op v S)) (ha : LE RQs κ r r') : LE RV κ (eBI op r) (eBIP op r') := fun c Z S ρ ρ' n er s hn =>
  (ha c Z S ρ ρ' n er s hn).bind fun v v' S1 Z1 x1 s1 q1 => sim_op s1 (nx _ _) fun u Z3 e => ok c S1 v v' u Z3 q1 e
theorem le_tup {r r' : AM} (ha : LE RV κ r r') : LE RV κ (eTup r) (eTup r') := fun c Z S ρ ρ' n er s hn =>
  (ha c Z S ρ ρ' n er s hn).bind fun v v' S1 Z1 x1 s1 q1 => by
    obtain rfl : v = v' := q1
    by_cases h : v.length ≤ sizeLine
    · rw [if_pos h, if_pos h]; exact .ok s1 rfl
    · rw [if_neg h, if_neg h]; trivial
theorem le_lst {r r' : AM} (ha : LE RV κ r r') : LE RV κ (eLst false r) (eLst false r') := fun c Z S ρ ρ' n er s hn =>
  (ha c Z S ρ ρ' n er s hn).bind fun v v' S1 Z1 x1 s1 q1 => by
    obtain rfl : v = v' := q1
    by_cases h : v.length ≤ sizeLine
    · rw [if_pos h, if_pos h]; exact .ok s1 rfl
    · rw [if_neg h, if_neg h]; trivial
/-- a new list, dict .. -/
theorem new_ok {c : Cs} {S Z : Sto} {n : Nat} {o : Ob} {u : Val} (s : St c Z S) (hn : n ≤ S.next) (hu : obV o = some u) : Sim c S n RF (.ok (.loc S.next) (S.alloc o)) (.ok u Z) := by
  have fr : Free c S.next := fun p hp e => by
    obtain ⟨o, _, h⟩ := s.cr p hp
    have := s.wf _ _ h
    omega
  refine ⟨_, _, rfl, ⟨Nat.le_succ _, fun k hk _ => alloc_ne (Nat.ne_of_lt hk)⟩, ⟨fun p hp => ?_, s.inj, fun k o' h => ?_, s.wz⟩, S.next, rfl, hn, fr, o, alloc_at, hu⟩
  · obtain ⟨o', h1, h2⟩ := s.cr p hp
    exact ⟨o', h1, by rw [alloc_ne (Nat.ne_of_lt (s.wf _ _ h2))]; exact h2⟩
  · by_cases hk : k = S.next
    · rw [hk]; exact Nat.lt_succ_self _
    · rw [alloc_ne hk] at h; exact Nat.lt_succ_of_lt (s.wf _ _ h)
theorem mkL_new {c : Cs} {S Z : Sto} {n : Nat} {vs : List Val} (s : St c Z S) (hn : n ≤ S.next) : Sim c S n RF (mkL true vs S) (mkL false vs Z) := new_ok s hn rfl
theorem le_lstN {r r' : AM} (ha : LE RV κ r r') : LE RF κ (eLst true r) (eLst false r') := fun c Z S ρ ρ' n er s hn =>
  (ha c Z S ρ ρ' n er s hn).bind fun v v' S1 Z1 x1 s1 q1 => by
    obtain rfl : v = v' := q1
    by_cases h : v.length ≤ sizeLine
    · rw [if_pos h, if_pos h]; exact mkL_new s1 (Nat.le_trans hn x1.le)
    · rw [if_neg h, if_neg h]; trivial
/-- an operator that makes a new list: with and without the store -/
def RsN1 (op op' : Val → Sto → Res Val) : Prop := ∀ c S v v' u Z1, VQ c S v v' → op' v' Z0 = .ok u Z1 → ∃ o, obV o = some u ∧ op v S = .ok (.loc S.next) (S.alloc o)
def RsN2 (op op' : Val → Val → Sto → Res Val) : Prop := ∀ c S v v' w w' u Z1, VQ c S v v' → VQ c S w w' → op' v' w' Z0 = .ok u Z1 → ∃ o, obV o = some u ∧ op v w S = .ok (.loc S.next) (S.alloc o)
def RsNL (op op' : List Val → Sto → Res Val) : Prop := ∀ c S vs vs' u Z1, VQs c S vs vs' → op' vs' Z0 = .ok u Z1 → ∃ o, obV o = some u ∧ op vs S = .ok (.loc S.next) (S.alloc o)
theorem sim_new {c : Cs} {S Z : Sto} {n : Nat} {r r' : Res Val} (s : St c Z S) (hn : n ≤ S.next) (hx : NX r') (h : ∀ u Z1, r' = .ok u Z1 → ∃ o, obV o = some u ∧ r = .ok (.loc S.next) (S.alloc o)) : Sim c S n RF r (r'.onto Z) := by
  cases r' with
  | st => trivial
  | ex => exact False.elim hx
  | ok u Z1 =>
    obtain ⟨o, h1, h2⟩ := h u Z1 rfl
    rw [h2]; exact new_ok s hn h1
theorem le_binN {op op' : Val → Val → Sto → Res Val} (ok : RsN2 op op') (nx : ∀ v w S, NX (op' v w S)) (ha : LE RQ κ a pa) (hb : LE RQ κ b pb) : LE RF κ (eBin op a b) (eBinP op' pa pb) := fun c Z S ρ ρ' n r s hn =>
  (ha c Z S ρ ρ' n r s hn).bind fun v v' S1 Z1 x1 s1 q1 => (hb c Z1 S1 ρ ρ' n (r.mono s x1) s1 (Nat.le_trans hn x1.le)).bind fun w w' S2 Z2 x2 s2 q2 =>
    sim_new s2 (Nat.le_trans hn (x1.trans x2).le) (nx _ _ _) fun u Z3 e => ok c S2 v v' w w' u Z3 (q1.mono s1 x2) q2 e
theorem le_unN {op op' : Val → Sto → Res Val} (ok : RsN1 op op') (nx : ∀ v S, NX (op' v S)) (ha : LE RQ κ a pa) : LE RF κ (eUn op a) (eUnP op' pa) := fun c Z S ρ ρ' n r s hn =>
  (ha c Z S ρ ρ' n r s hn).bind fun v v' S1 Z1 x1 s1 q1 => sim_new s1 (Nat.le_trans hn x1.le) (nx _ _) fun u Z3 e => ok c S1 v v' u Z3 q1 e
theorem le_biN {op op' : List Val → Sto → Res Val} {r r' : AM} (ok : RsNL op op') (nx : ∀ v S, NX (op' v S)) (ha : LE RQs κ r r') : LE RF κ (eBI op r) (eBIP op' r') := fun c Z S ρ ρ' n er s hn =>
  (ha c Z S ρ ρ' n er s hn).bind fun v v' S1 Z1 x1 s1 q1 => sim_new s1 (Nat.le_trans hn x1.le) (nx _ _) fun u Z3 e => ok c S1 v v' u Z3 q1 e
/-- branches -/
theorem le_if {R : RelK Val Val} {t pt : BM} (ht : LE RV κ t pt) (ha : LE R κ a pa) (hb : LE R κ b pb) : LE R κ (eIf t a b) (eIf pt pa pb) := fun c Z S ρ ρ' n r s hn =>
  (ht c Z S ρ ρ' n r s hn).bind fun v v' S1 Z1 x1 s1 q1 => by
    obtain rfl : v = v' := q1
    cases v with
    | true => exact ha c Z1 S1 ρ ρ' n (r.mono s x1) s1 (Nat.le_trans hn x1.le)
    | false => exact hb c Z1 S1 ρ ρ' n (r.mono s x1) s1 (Nat.le_trans hn x1.le)
theorem le_and (ha : LE RV κ a pa) (hb : LE RV κ b pb) : LE RV κ (eAnd a b) (eAnd pa pb) := fun c Z S ρ ρ' n r s hn =>
  (ha c Z S ρ ρ' n r s hn).bind fun v v' S1 Z1 x1 s1 q1 => by
    obtain rfl : v = v' := q1
    cases v with
    | bl k =>
      cases k with
      | true => exact hb c Z1 S1 ρ ρ' n (r.mono s x1) s1 (Nat.le_trans hn x1.le)
      | false => exact .ok s1 rfl
    | _ => trivial
theorem le_or (ha : LE RV κ a pa) (hb : LE RV κ b pb) : LE RV κ (eOr a b) (eOr pa pb) := fun c Z S ρ ρ' n r s hn =>
  (ha c Z S ρ ρ' n r s hn).bind fun v v' S1 Z1 x1 s1 q1 => by
    obtain rfl : v = v' := q1
    cases v with
    | bl k =>
      cases k with
      | true => exact .ok s1 rfl
      | false => exact hb c Z1 S1 ρ ρ' n (r.mono s x1) s1 (Nat.le_trans hn x1.le)
    | _ => trivial
theorem le_not (ha : LE RV κ a pa) : LE RV κ (eNot a) (eNot pa) := fun c Z S ρ ρ' n r s hn =>
  (ha c Z S ρ ρ' n r s hn).bind fun v v' S1 Z1 x1 s1 q1 => by
    obtain rfl : v = v' := q1
    cases v with
    | bl k => exact .ok s1 rfl
    | _ => trivial
theorem lt_b (ha : LE RV κ a pa) : LE RV κ (tB a) (tB pa) := fun c Z S ρ ρ' n r s hn =>
  (ha c Z S ρ ρ' n r s hn).bind fun v v' S1 Z1 x1 s1 q1 => by
    obtain rfl : v = v' := q1
    cases v with
    | bl k => exact .ok s1 rfl
    | _ => trivial
variable {ta tb pta ptb : BM}
theorem lt_and (ha : LE RV κ ta pta) (hb : LE RV κ tb ptb) : LE RV κ (tAndM ta tb) (tAndM pta ptb) := fun c Z S ρ ρ' n r s hn =>
  (ha c Z S ρ ρ' n r s hn).bind fun v v' S1 Z1 x1 s1 q1 => by
    obtain rfl : v = v' := q1
    cases v with
    | true => exact hb c Z1 S1 ρ ρ' n (r.mono s x1) s1 (Nat.le_trans hn x1.le)
    | false => exact .ok s1 rfl
theorem lt_or (ha : LE RV κ ta pta) (hb : LE RV κ tb ptb) : LE RV κ (tOrM ta tb) (tOrM pta ptb) := fun c Z S ρ ρ' n r s hn =>
  (ha c Z S ρ ρ' n r s hn).bind fun v v' S1 Z1 x1 s1 q1 => by
    obtain rfl : v = v' := q1
    cases v with
    | true => exact .ok s1 rfl
    | false => exact hb c Z1 S1 ρ ρ' n (r.mono s x1) s1 (Nat.le_trans hn x1.le)
theorem lt_not (ha : LE RV κ ta pta) : LE RV κ (tNotM ta) (tNotM pta) := fun c Z S ρ ρ' n r s hn =>
  (ha c Z S ρ ρ' n r s hn).bind fun v v' S1 Z1 x1 s1 q1 => by
    obtain rfl : v = v' := q1
    exact .ok s1 rfl
theorem lt_yes : LE RV κ tYesM tYesM := fun c Z S ρ ρ' n r s hn => .ok s rfl
end
section
variable {κ : List Kd} {a b d : EM} {pa pb pd : EM}
def eChainP (o o' : Val → Val → Sto → Res Val) (a b c : EM) : EM := fun ρ S => (a ρ S).bind fun v S1 => (b ρ S1).bind fun w S2 => ((o v w Z0).onto S2).bind fun k S3 => match k with
  | .bl true => (c ρ S3).bind fun z S4 => (o' w z Z0).onto S4
  | .bl false => .ok (.bl false) S3
  | _ => .st
theorem le_chain {o o' : Val → Val → Sto → Res Val} (ok : Rs2 o) (nx : ∀ v w S, NX (o v w S)) (ok' : Rs2 o') (nx' : ∀ v w S, NX (o' v w S)) (ha : LE RQ κ a pa) (hb : LE RQ κ b pb) (hd : LE RQ κ d pd) : LE RV κ (eChain o o' a b d) (eChainP o o' pa pb pd) := fun c Z S ρ ρ' n r s hn =>
  (ha c Z S ρ ρ' n r s hn).bind fun v v' S1 Z1 x1 s1 q1 => (hb c Z1 S1 ρ ρ' n (r.mono s x1) s1 (Nat.le_trans hn x1.le)).bind fun w w' S2 Z2 x2 s2 q2 =>
    (sim_op s2 (nx _ _ _) fun u Z3 e => ok c S2 v v' w w' u Z3 (q1.mono s1 x2) q2 e).bind fun k k' S3 Z3 x3 s3 q3 => by
      obtain rfl : k = k' := q3
      cases k with
      | bl t =>
        cases t with
        | false => exact .ok s3 rfl
        | true =>
          exact (hd c Z3 S3 ρ ρ' n (r.mono s (x1.trans (x2.trans x3))) s3 (Nat.le_trans hn (x1.trans (x2.trans x3)).le)).bind fun z z' S4 Z4 x4 s4 q4 =>
            sim_op s4 (nx' _ _ _) fun u Z5 e => ok' c S4 w w' z z' u Z5 ((q2.mono s2 x3).mono s3 x4) q4 e
      | _ => trivial
def tTruP (f : EM) : BM := fun ρ S => (f ρ S).bind fun v S1 => match truOf Z0 v with
  | some c => .ok c S1
  | none => .st
theorem tru_q {c : Cs} {S : Sto} {v v' : Val} {b : Bool} (h : VQ c S v v') (e : truOf Z0 v' = some b) : truOf S v = some b := by
  rcases h with rfl | ⟨k, rfl, _, o, h1, h2⟩
  · cases v <;> first | exact e | (simp [truOf, lstOf, Z0, S0] at e)
  · cases o with
    | lst xs => cases h2; simpa [truOf, lstOf, h1] using e
    | dk lk ks vs => cases lk <;> cases h2; simp [truOf, lstOf] at e
    | dt lk ks vs => cases lk <;> cases h2; simp [truOf, lstOf] at e
    | ins c vs => cases h2; simp [truOf, lstOf] at e
theorem lt_tru (ha : LE RQ κ a pa) : LE RV κ (tTru a) (tTruP pa) := fun c Z S ρ ρ' n r s hn =>
  (ha c Z S ρ ρ' n r s hn).bind fun v v' S1 Z1 x1 s1 q1 => by
    cases e : truOf Z0 v' with
    | none => trivial
    | some b => rw [tru_q q1 e]; exact .ok s1 rfl
theorem lo_none : LE RV κ oNone oNone := fun c Z S ρ ρ' n r s hn => .ok s rfl
theorem lo_some (ha : LE RV κ a pa) : LE RV κ (oSome a) (oSome pa) := fun c Z S ρ ρ' n r s hn =>
  (ha c Z S ρ ρ' n r s hn).bind fun v v' S1 Z1 x1 s1 q1 => by
    obtain rfl : v = v' := q1
    cases v with
    | int i => exact .ok s1 rfl
    | _ => trivial
def eCutP (f : EM) (lo hi : OM) : EM := fun ρ S => (f ρ S).bind fun v S1 => (lo ρ S1).bind fun l S2 => (hi ρ S2).bind fun u S3 => (vCut false v l u Z0).onto S3
/-- the items of a list or tuple -/
theorem lst_q {c : Cs} {S : Sto} {v v' : Val} {xs : List Val} (h : VQ c S v v') (e : lstOf Z0 v' = some xs) : lstOf S v = some xs := by
  rcases h with rfl | ⟨k, rfl, _, o, h1, h2⟩
  · cases v <;> first | exact e | (simp [lstOf, Z0, S0] at e)
  · cases o with
    | lst ys => cases h2; simpa [lstOf, h1] using e
    | dk lk ks vs => cases lk <;> cases h2; simp [lstOf] at e
    | dt lk ks vs => cases lk <;> cases h2; simp [lstOf] at e
    | ins c vs => cases h2; simp [lstOf] at e
theorem mlst_q {c : Cs} {S : Sto} {v v' : Val} {xs : List Val} (h : VQ c S v v') (e : mlstOf Z0 v' = some xs) : mlstOf S v = some xs := by
  rcases h with rfl | ⟨k, rfl, _, o, h1, h2⟩
  · cases v <;> first | exact e | (simp [mlstOf, Z0, S0] at e)
  · cases o with
    | lst ys => cases h2; simpa [mlstOf, h1] using e
    | dk lk ks vs => cases lk <;> cases h2; simp [mlstOf] at e
    | dt lk ks vs => cases lk <;> cases h2; simp [mlstOf] at e
    | ins c vs => cases h2; simp [mlstOf] at e
theorem ins_q {c : Cs} {S : Sto} {v v' : Val} {w : Nat × List Val} (h : VQ c S v v') (e : insOf Z0 v' = some w) : insOf S v = some w := by
  rcases h with rfl | ⟨k, rfl, _, o, h1, h2⟩
  · cases v <;> first | exact e | (simp [insOf, Z0, S0] at e)
  · cases o with
    | lst ys => cases h2; simp [insOf] at e
    | dk lk ks vs => cases lk <;> cases h2; simp [insOf] at e
    | dt lk ks vs => cases lk <;> cases h2; simp [insOf] at e
    | ins c vs => cases h2; simpa [insOf, h1] using e
/-- where the value is no object of the store, both are the same -/
theorem vq_same {c : Cs} {S : Sto} {v v' : Val} (h : VQ c S v v') (n : ∀ o, obV o ≠ some v') : v = v' := by
  rcases h with h | ⟨k, _, _, o, _, h2⟩
  · exact h
  · exact absurd h2 (n o)
theorem vq_dat {c : Cs} {S : Sto} {v v' : Val} {d : PyData} (h : VQ c S v v') (e : datS Z0 v' = some d) : datS S v = some d := by
  rcases h with rfl | ⟨k, rfl, _, o, h1, h2⟩
  · cases v <;> first | exact e | (simp [datS, Z0, S0] at e)
  · cases o with
    | lst ys => cases h2; simpa [datS, h1, Val.dat] using e
    | dk lk ks vs => cases lk <;> cases h2; simp [datS, Val.dat] at e
    | dt lk ks vs => cases lk <;> cases h2; simp [datS, Val.dat] at e
    | ins c vs => cases h2; simp [datS, Val.dat] at e
theorem vq_tag {c : Cs} {S : Sto} {v v' : Val} {t : Tg} (h : VQ c S v v') (e : tagOf Z0 v' = some t) : tagOf S v = some t := by
  rcases h with rfl | ⟨k, rfl, _, o, h1, h2⟩
  · cases v <;> first | exact e | (simp [tagOf, Z0, S0] at e)
  · cases o with
    | lst ys => cases h2; simpa [tagOf, h1] using e
    | dk lk ks vs => cases lk <;> cases h2; simpa [tagOf, h1] using e
    | dt lk ks vs => cases lk <;> cases h2; simpa [tagOf, h1] using e
    | ins c vs => cases h2; simp [tagOf] at e
end
end PM

/-! PP, part b: the operators -/
namespace PM
open PySem PySem.Spec L2
theorem vq_s {c : Cs} {S : Sto} {v v' : Val} (h : VQ c S v v') (n : isO v' = false) : v = v' := vq_same h fun o e => by rw [isO_of e] at n; cases n
/-- an operator on two values none of which is an object -/
theorem rs2_of {op : Val → Val → Sto → Res Val} (h : ∀ v w u Z1, op v w Z0 = .ok u Z1 → isO v = false ∧ isO w = false ∧ ∀ S, op v w S = .ok u S) : Rs2 op := fun c S v v' w w' u Z1 h1 h2 e => by
  obtain ⟨a, b, q⟩ := h _ _ _ _ e
  rw [vq_s h1 a, vq_s h2 b]; exact q S
theorem rs_sub : Rs2 vSub := by (refine rs2_of fun v w u Z1 e => ?_; cases v <;> first | (cases e; done) | (cases w <;> first | (cases e; done) | (exact ⟨rfl, rfl, fun S => by cases e; rfl⟩)))
theorem rs_lt : Rs2 vLt := by (refine rs2_of fun v w u Z1 e => ?_; cases v <;> first | (cases e; done) | (cases w <;> first | (cases e; done) | (exact ⟨rfl, rfl, fun S => by cases e; rfl⟩)))
theorem rs_le : Rs2 vLe := by (refine rs2_of fun v w u Z1 e => ?_; cases v <;> first | (cases e; done) | (cases w <;> first | (cases e; done) | (exact ⟨rfl, rfl, fun S => by cases e; rfl⟩)))
theorem rs_gt : Rs2 vGt := by (refine rs2_of fun v w u Z1 e => ?_; cases v <;> first | (cases e; done) | (cases w <;> first | (cases e; done) | (exact ⟨rfl, rfl, fun S => by cases e; rfl⟩)))
theorem rs_ge : Rs2 vGe := by (refine rs2_of fun v w u Z1 e => ?_; cases v <;> first | (cases e; done) | (cases w <;> first | (cases e; done) | (exact ⟨rfl, rfl, fun S => by cases e; rfl⟩)))
theorem rs_addI : Rs2 vAddI := by (refine rs2_of fun v w u Z1 e => ?_; cases v <;> first | (cases e; done) | (cases w <;> first | (cases e; done) | (exact ⟨rfl, rfl, fun S => by cases e; rfl⟩)))
theorem rs_and : Rs2 vAnd := by (refine rs2_of fun v w u Z1 e => ?_; cases v <;> first | (cases e; done) | (cases w <;> first | (cases e; done) | (exact ⟨rfl, rfl, fun S => by cases e; rfl⟩)))
theorem rs_mul : Rs2 vMul := by (refine rs2_of fun v w u Z1 e => ?_; cases v <;> first | (cases e; done) | (cases w <;> first | (cases e; done) | (refine ⟨rfl, rfl, fun S => ?_⟩; unfold vMul at e ⊢; dsimp only at e ⊢; split at e <;> first | (cases e; done) | (rename_i h; cases e; rw [if_pos h]))))
theorem rs_fdiv : Rs2 vFdiv := by (refine rs2_of fun v w u Z1 e => ?_; cases v <;> first | (cases e; done) | (cases w <;> first | (cases e; done) | (refine ⟨rfl, rfl, fun S => ?_⟩; unfold vFdiv at e ⊢; dsimp only at e ⊢; split at e <;> first | (cases e; done) | (rename_i h; cases e; rw [if_pos h]))))
theorem rs_mod : Rs2 vMod := by (refine rs2_of fun v w u Z1 e => ?_; cases v <;> first | (cases e; done) | (cases w <;> first | (cases e; done) | (refine ⟨rfl, rfl, fun S => ?_⟩; unfold vMod at e ⊢; dsimp only at e ⊢; split at e <;> first | (cases e; done) | (rename_i h; cases e; rw [if_pos h]))))
theorem rs_pow : Rs2 vPow := by (refine rs2_of fun v w u Z1 e => ?_; cases v <;> first | (cases e; done) | (cases w <;> first | (cases e; done) | (refine ⟨rfl, rfl, fun S => ?_⟩; unfold vPow at e ⊢; dsimp only at e ⊢; split at e <;> first | (cases e; done) | (rename_i h; cases e; rw [if_pos h]))))
theorem rs_shr : Rs2 vShr := by (refine rs2_of fun v w u Z1 e => ?_; cases v <;> first | (cases e; done) | (cases w <;> first | (cases e; done) | (refine ⟨rfl, rfl, fun S => ?_⟩; unfold vShr at e ⊢; dsimp only at e ⊢; split at e <;> first | (cases e; done) | (rename_i h; cases e; rw [if_pos h]))))
theorem rs_shl : Rs2 vShl := by (refine rs2_of fun v w u Z1 e => ?_; cases v <;> first | (cases e; done) | (cases w <;> first | (cases e; done) | (refine ⟨rfl, rfl, fun S => ?_⟩; unfold vShl at e ⊢; dsimp only at e ⊢; split at e <;> first | (cases e; done) | (rename_i h; cases e; rw [if_pos h]))))
theorem rs_repT : Rs2 vRepT := by (refine rs2_of fun v w u Z1 e => ?_; cases v <;> first | (cases e; done) | (cases w <;> first | (cases e; done) | (refine ⟨rfl, rfl, fun S => ?_⟩; unfold vRepT at e ⊢; dsimp only at e ⊢; split at e <;> first | (cases e; done) | (rename_i h; cases e; rw [if_pos h]))))
theorem rs_isN : Rs2 vIsN := fun c S v v' w w' u Z1 h1 h2 e => by
  cases w' <;> first | (cases v' <;> cases e; done) | skip
  obtain rfl := vq_s h2 rfl
  rcases h1 with rfl | ⟨k, rfl, _, o, h1, h3⟩
  · cases v <;> cases e <;> rfl
  · cases v' <;> first | (cases e; rfl) | (have := isO_of h3; cases this)
theorem rs_notN : Rs2 vNotN := fun c S v v' w w' u Z1 h1 h2 e => by
  cases w' <;> first | (cases v' <;> cases e; done) | skip
  obtain rfl := vq_s h2 rfl
  rcases h1 with rfl | ⟨k, rfl, _, o, h1, h3⟩
  · cases v <;> cases e <;> rfl
  · cases v' <;> first | (cases e; rfl) | (have := isO_of h3; cases this)
theorem rs_eq : Rs2 vEq := fun c S v v' w w' u Z1 h1 h2 e => by
  unfold vEq at e ⊢
  cases a : datS Z0 v' with
  | none => rw [a] at e; cases e
  | some d =>
    cases b : datS Z0 w' with
    | none => rw [a, b] at e; cases e
    | some d2 =>
      rw [a, b] at e
      rw [vq_dat h1 a, vq_dat h2 b]
      dsimp only at e ⊢
      split at e
      · rename_i h; cases e; rw [if_pos h]
      · cases e
theorem rs_ne : Rs2 vNe := fun c S v v' w w' u Z1 h1 h2 e => by
  unfold vNe at e ⊢
  cases a : datS Z0 v' with
  | none => rw [a] at e; cases e
  | some d =>
    cases b : datS Z0 w' with
    | none => rw [a, b] at e; cases e
    | some d2 =>
      rw [a, b] at e
      rw [vq_dat h1 a, vq_dat h2 b]
      dsimp only at e ⊢
      split at e
      · rename_i h; cases e; rw [if_pos h]
      · cases e
theorem vIx_l {v : Val} {xs : List Val} {i : Int} {S : Sto} (h : lstOf S v = some xs) : vIx v (.int i) S = vr (atI xs i) S := by
  unfold vIx
  cases v <;> first | (cases h; done) | (simp only [h]; cases atI xs i <;> rfl)
theorem rs_ix : Rs2 vIx := fun c S v v' w w' u Z1 h1 h2 e => by
  cases w' with
  | int i =>
    obtain rfl := vq_s h2 rfl
    by_cases hT : ∃ xs, v' = .tup xs
    · obtain ⟨xs, rfl⟩ := hT
      obtain rfl := vq_s h1 rfl
      unfold vIx at e ⊢
      dsimp only at e ⊢
      cases q : atI xs i with
      | none => rw [q] at e; cases e
      | some y => rw [q] at e; cases e; rfl
    · cases q : lstOf Z0 v' with
      | none => 
        unfold vIx at e
        cases v' <;> first | (exact absurd ⟨_, rfl⟩ hT) | (simp only [q] at e; cases e; done)
      | some xs =>
        rw [vIx_l q] at e
        rw [vIx_l (lst_q h1 q)]
        cases p : atI xs i with
        | none => rw [p] at e; cases e
        | some y => rw [p] at e; cases e; rfl
  | _ => unfold vIx at e; cases v' <;> cases e
theorem rs_in (ng : Bool) : Rs2 (vInW ng) := fun c S v v' w w' u Z1 h1 h2 e => by
  by_cases hT : ∃ ys, w' = .tup ys
  · obtain ⟨ys, rfl⟩ := hT
    obtain rfl := vq_s h2 rfl
    unfold vInW at e ⊢
    dsimp only at e ⊢
    cases a : datS Z0 v' with
    | none => rw [a] at e; cases e
    | some d =>
      rw [a] at e
      rw [vq_dat h1 a]
      cases b : Val.dats ys with
      | none => rw [b] at e; cases e
      | some ds =>
        rw [b] at e
        dsimp only at e ⊢
        split at e
        · rename_i h; cases e; rw [if_pos h]
        · cases e
  · have hw : ∀ ys, w ≠ .tup ys := by
      rintro ys rfl
      rcases h2 with h | ⟨k, h, _⟩
      · exact hT ⟨ys, h.symm⟩
      · cases h
    have eq : ∀ (S : Sto) (v w : Val), (∀ ys, w ≠ .tup ys) → vInW ng v w S = (match datS S v, datS S w with
      | some d, some (.list ds) => if SeqAt.shaped d = true ∧ SeqAt.shaped (.list ds) = true then .ok (.bl (if ng then !(ds.any fun z => PyData.eqv z d) else ds.any fun z => PyData.eqv z d)) S else .st
      | _, _ => .st) := by
      intro S v w h
      unfold vInW
      cases w <;> first | rfl | exact absurd rfl (h _)
    rw [eq _ _ _ fun ys h => hT ⟨ys, h⟩] at e
    rw [eq _ _ _ hw]
    cases a : datS Z0 v' with
    | none => rw [a] at e; cases e
    | some d =>
      cases b : datS Z0 w' with
      | none => rw [a, b] at e; cases e
      | some d2 =>
        rw [a, b] at e
        rw [vq_dat h1 a, vq_dat h2 b]
        cases d2 <;> first | (cases e; done) | skip
        dsimp only at e ⊢
        split at e
        · rename_i h; cases e; rw [if_pos h]
        · cases e
theorem rs_add : Rs2 (vAdd false) := fun c S v v' w w' u Z1 h1 h2 e => by
  by_cases hn : isO v' = false ∧ isO w' = false
  · obtain rfl := vq_s h1 hn.1
    obtain rfl := vq_s h2 hn.2
    unfold vAdd at e ⊢
    cases v <;> cases w <;> first
      | (cases e; rfl; done)
      | (simp only [mlstOf, Z0, S0] at e; cases e; done)
      | (dsimp only at e ⊢; split at e <;> first | (rename_i h; cases e; rw [if_pos h]; done) | (cases e; done))
      | cases hn.1 | cases hn.2
  · have hv : ∃ xs ys, mlstOf Z0 v' = some xs ∧ mlstOf Z0 w' = some ys ∧ xs.length + ys.length ≤ sizeLine ∧ u = .lst (xs ++ ys) := by
      unfold vAdd at e
      cases v' <;> cases w' <;> first
        | (exact absurd ⟨rfl, rfl⟩ hn)
        | (simp only [mlstOf, Z0, S0] at e; cases e; done)
        | (simp only [mlstOf] at e; split at e
           · (rename_i h; cases e; exact ⟨_, _, rfl, rfl, h, rfl⟩)
           · cases e)
    obtain ⟨xs, ys, q1, q2, l, rfl⟩ := hv
    have p1 := mlst_q h1 q1
    have p2 := mlst_q h2 q2
    unfold vAdd
    cases v <;> first | (cases p1; done) | (cases w <;> first | (cases p2; done) | (simp only [p1, p2]; rw [if_pos l]; rfl))
theorem mlst_isO {v : Val} {xs : List Val} (h : mlstOf Z0 v = some xs) : v = .lst xs := by
  cases v <;> first | (cases h; rfl; done) | (cases h; done) | (simp [mlstOf, Z0, S0] at h)
theorem rn_add : RsN2 (vAdd true) (fun v w S => match v, w with
    | .lst xs, .lst ys => if xs.length + ys.length ≤ sizeLine then .ok (.lst (xs ++ ys)) S else .st
    | _, _ => .st) := fun c S v v' w w' u Z1 h1 h2 e => by
  cases v' <;> first | (cases e; done) | (cases w' <;> first | (cases e; done) | skip)
  dsimp only at e
  split at e
  · rename_i l
    cases e
    have p1 := mlst_q h1 rfl
    have p2 := mlst_q h2 rfl
    refine ⟨.lst _, rfl, ?_⟩
    unfold vAdd
    cases v <;> first | (cases p1; done) | (cases w <;> first | (cases p2; done) | (simp only [p1, p2]; rw [if_pos l]; rfl))
  · cases e
/-! one value -/
theorem rs_neg : Rs1 vNeg := fun c S v v' u Z1 h e => by
  cases v' <;> first | (cases e; done) | (obtain rfl := vq_s h rfl; cases e; rfl)
theorem rs_rev : Rs1 (vRevL false) := fun c S v v' u Z1 h e => by
  unfold vRevL at e ⊢
  cases q : lstOf Z0 v' with
  | none => rw [q] at e; cases e
  | some xs => rw [q] at e; rw [lst_q h q]; cases e; rfl
theorem rn_rev : RsN1 (vRevL true) (vRevL false) := fun c S v v' u Z1 h e => by
  unfold vRevL at e ⊢
  cases q : lstOf Z0 v' with
  | none => rw [q] at e; cases e
  | some xs => rw [q] at e; rw [lst_q h q]; cases e; exact ⟨_, rfl, rfl⟩
/-! built-ins -/
theorem vqs1 {c : Cs} {S : Sto} {vs : List Val} {v' : Val} (h : VQs c S vs [v']) : ∃ v, vs = [v] ∧ VQ c S v v' := by
  cases h with
  | cons a b => cases b; exact ⟨_, rfl, a⟩
theorem vqs2 {c : Cs} {S : Sto} {vs : List Val} {v' w' : Val} (h : VQs c S vs [v', w']) : ∃ v w, vs = [v, w] ∧ VQ c S v v' ∧ VQ c S w w' := by
  cases h with
  | cons a b => obtain ⟨w, rfl, q⟩ := vqs1 b; exact ⟨_, _, rfl, a, q⟩
/-- an argument -/
theorem rsl1 {op : List Val → Sto → Res Val} (h0 : ∀ u Z, op [] Z0 ≠ .ok u Z) (h2 : ∀ v w vs u Z, op (v :: w :: vs) Z0 ≠ .ok u Z) (h : ∀ c S v v' u Z1, VQ c S v v' → op [v'] Z0 = .ok u Z1 → op [v] S = .ok u S) : RsL op := fun c S vs vs' u Z1 hq e => by
  match vs', hq, e with
  | [], _, e => exact absurd e (h0 _ _)
  | [v'], hq, e => obtain ⟨v, rfl, q⟩ := vqs1 hq; exact h c S v v' u Z1 q e
  | _ :: _ :: _, _, e => exact absurd e (h2 _ _ _ _ _)
theorem rsn1 {op op' : List Val → Sto → Res Val} (h0 : ∀ u Z, op' [] Z0 ≠ .ok u Z) (h2 : ∀ v w vs u Z, op' (v :: w :: vs) Z0 ≠ .ok u Z) (h : ∀ c S v v' u Z1, VQ c S v v' → op' [v'] Z0 = .ok u Z1 → ∃ o, obV o = some u ∧ op [v] S = .ok (.loc S.next) (S.alloc o)) : RsNL op op' := fun c S vs vs' u Z1 hq e => by
  match vs', hq, e with
  | [], _, e => exact absurd e (h0 _ _)
  | [v'], hq, e => obtain ⟨v, rfl, q⟩ := vqs1 hq; exact h c S v v' u Z1 q e
  | _ :: _ :: _, _, e => exact absurd e (h2 _ _ _ _ _)
theorem vLen_l {v : Val} {xs : List Val} {S : Sto} (h : lstOf S v = some xs) : vLen [v] S = .ok (.int (xs.length : Nat)) S := vLen_of h
theorem rl_len : RsL vLen := rsl1 (by (intro u Z e; cases e; done)) (by (intro v w vs u Z e; first | (cases e; done) | (cases v <;> cases e; done))) fun c S v v' u Z1 h e => by
  by_cases hn : lstOf Z0 v' = none
  · cases v' <;> first
      | (cases hn; done)
      | (unfold vLen at e; simp only [hn] at e; cases e; done)
      | (obtain rfl := vq_s h rfl; cases e; rfl; done)
      | (obtain rfl := vq_s h rfl
         unfold vLen at e ⊢
         dsimp only at e ⊢
         split at e
         · (rename_i q; cases e; rw [if_pos q])
         · cases e)
  · cases q : lstOf Z0 v' with
    | none => exact absurd q hn
    | some xs => rw [vLen_l q] at e; cases e; exact vLen_l (lst_q h q)
theorem rl_abs : RsL vAbs := rsl1 (by (intro u Z e; cases e; done)) (by (intro v w vs u Z e; first | (cases e; done) | (cases v <;> cases e; done))) fun c S v v' u Z1 h e => by
  cases v' <;> first | (cases e; done) | (obtain rfl := vq_s h rfl; cases e; rfl)
theorem rl_int : RsL vInt := rsl1 (by (intro u Z e; cases e; done)) (by (intro v w vs u Z e; first | (cases e; done) | (cases v <;> cases e; done))) fun c S v v' u Z1 h e => by
  cases v' <;> first | (cases e; done) | (obtain rfl := vq_s h rfl; cases e; rfl)
theorem rsl2 {op : List Val → Sto → Res Val} (h0 : ∀ u Z, op [] Z0 ≠ .ok u Z) (h1 : ∀ v u Z, op [v] Z0 ≠ .ok u Z) (h3 : ∀ v w z vs u Z, op (v :: w :: z :: vs) Z0 ≠ .ok u Z) (h : ∀ c S v v' w w' u Z1, VQ c S v v' → VQ c S w w' → op [v', w'] Z0 = .ok u Z1 → op [v, w] S = .ok u S) : RsL op := fun c S vs vs' u Z1 hq e => by
  match vs', hq, e with
  | [], _, e => exact absurd e (h0 _ _)
  | [_], _, e => exact absurd e (h1 _ _ _)
  | [v', w'], hq, e => obtain ⟨v, w, rfl, q, q2⟩ := vqs2 hq; exact h c S v v' w w' u Z1 q q2 e
  | _ :: _ :: _ :: _, _, e => exact absurd e (h3 _ _ _ _ _ _)
theorem rl_min2 : RsL vMin2 := rsl2 (by (intro u Z e; cases e; done)) (by (intro v u Z e; first | (cases e; done) | (cases v <;> cases e; done))) (by (intro v w z vs u Z e; first | (cases e; done) | (cases v <;> first | (cases e; done) | (cases w <;> cases e; done)))) fun c S v v' w w' u Z1 h h2 e => by
  cases v' <;> first | (cases e; done) | (cases w' <;> first | (cases e; done) | (obtain rfl := vq_s h rfl; obtain rfl := vq_s h2 rfl; cases e; rfl))
theorem rl_max2 : RsL vMax2 := rsl2 (by (intro u Z e; cases e; done)) (by (intro v u Z e; first | (cases e; done) | (cases v <;> cases e; done))) (by (intro v w z vs u Z e; first | (cases e; done) | (cases v <;> first | (cases e; done) | (cases w <;> cases e; done)))) fun c S v v' w w' u Z1 h h2 e => by
  cases v' <;> first | (cases e; done) | (cases w' <;> first | (cases e; done) | (obtain rfl := vq_s h rfl; obtain rfl := vq_s h2 rfl; cases e; rfl))
theorem rl_isi : RsL vIsi := rsl2 (by (intro u Z e; cases e; done)) (by (intro v u Z e; first | (cases e; done) | (cases v <;> cases e; done))) (by (intro v w z vs u Z e; first | (cases e; done) | (cases v <;> first | (cases e; done) | (cases w <;> cases e; done)))) fun c S v v' w w' u Z1 h h2 e => by
  cases w' <;> first | (cases e; done) | skip
  obtain rfl := vq_s h2 rfl
  unfold vIsi at e ⊢
  dsimp only at e ⊢
  cases q : tagOf Z0 v' with
  | none => rw [q] at e; cases e
  | some t => rw [q] at e; rw [vq_tag h q]; cases e; rfl
theorem rl_list : RsL (vList false) := rsl1 (by (intro u Z e; cases e; done)) (by (intro v w vs u Z e; first | (cases e; done) | (cases v <;> cases e; done))) fun c S v v' u Z1 h e => by
  by_cases hT : ∃ xs, v' = .tup xs
  · obtain ⟨xs, rfl⟩ := hT
    obtain rfl := vq_s h rfl; cases e; rfl
  · cases q : lstOf Z0 v' with
    | none => unfold vList at e; cases v' <;> first | (exact absurd ⟨_, rfl⟩ hT) | (simp only [q] at e; cases e; done)
    | some xs => rw [vList_of q] at e; rw [vList_of (lst_q h q)]; cases e; rfl
theorem rln_list : RsNL (vList true) (vList false) := rsn1 (by (intro u Z e; cases e; done)) (by (intro v w vs u Z e; first | (cases e; done) | (cases v <;> cases e; done))) fun c S v v' u Z1 h e => by
  by_cases hT : ∃ xs, v' = .tup xs
  · obtain ⟨xs, rfl⟩ := hT
    obtain rfl := vq_s h rfl; cases e; exact ⟨_, rfl, rfl⟩
  · cases q : lstOf Z0 v' with
    | none => unfold vList at e; cases v' <;> first | (exact absurd ⟨_, rfl⟩ hT) | (simp only [q] at e; cases e; done)
    | some xs => rw [vList_of q] at e; rw [vList_of (lst_q h q)]; cases e; exact ⟨_, rfl, rfl⟩
theorem rl_tuple : RsL vTuple := rsl1 (by (intro u Z e; cases e; done)) (by (intro v w vs u Z e; first | (cases e; done) | (cases v <;> cases e; done))) fun c S v v' u Z1 h e => by
  by_cases hT : ∃ xs, v' = .tup xs
  · obtain ⟨xs, rfl⟩ := hT
    obtain rfl := vq_s h rfl; cases e; rfl
  · cases q : lstOf Z0 v' with
    | none => unfold vTuple at e; cases v' <;> first | (exact absurd ⟨_, rfl⟩ hT) | (simp only [q] at e; cases e; done)
    | some xs => rw [vTuple_of q] at e; rw [vTuple_of (lst_q h q)]; cases e; rfl
theorem rl_all : RsL vAll := rsl1 (by (intro u Z e; cases e; done)) (by (intro v w vs u Z e; first | (cases e; done) | (cases v <;> cases e; done))) fun c S v v' u Z1 h e => by
  unfold vAll at e ⊢
  dsimp only at e ⊢
  cases q : lstOf Z0 v' with
  | none => rw [q] at e; cases e
  | some xs =>
    rw [q] at e; rw [lst_q h q]
    cases p : blsOf xs with
    | none => simp only [Option.bind, p] at e; cases e
    | some bs => simp only [Option.bind, p] at e ⊢; cases e; rfl
theorem rl_any : RsL vAny := rsl1 (by (intro u Z e; cases e; done)) (by (intro v w vs u Z e; first | (cases e; done) | (cases v <;> cases e; done))) fun c S v v' u Z1 h e => by
  unfold vAny at e ⊢
  dsimp only at e ⊢
  cases q : lstOf Z0 v' with
  | none => rw [q] at e; cases e
  | some xs =>
    rw [q] at e; rw [lst_q h q]
    cases p : blsOf xs with
    | none => simp only [Option.bind, p] at e; cases e
    | some bs => simp only [Option.bind, p] at e ⊢; cases e; rfl
theorem rl_sortI : RsL (vSortI false) := rsl1 (by (intro u Z e; cases e; done)) (by (intro v w vs u Z e; first | (cases e; done) | (cases v <;> cases e; done))) fun c S v v' u Z1 h e => by
  unfold vSortI at e ⊢
  dsimp only at e ⊢
  cases q : lstOf Z0 v' with
  | none => rw [q] at e; cases e
  | some xs =>
    rw [q] at e; rw [lst_q h q]
    cases p : intsOf xs with
    | none => simp only [Option.bind, p] at e; cases e
    | some bs => simp only [Option.bind, p] at e ⊢; cases e; rfl
theorem rl_best (f : Int → Int → Int) : RsL (vBest f) := rsl1 (by (intro u Z e; cases e; done)) (by (intro v w vs u Z e; first | (cases e; done) | (cases v <;> cases e; done))) fun c S v v' u Z1 h e => by
  by_cases hT : ∃ xs, v' = .tup xs
  · obtain ⟨xs, rfl⟩ := hT
    obtain rfl := vq_s h rfl
    unfold vBest at e ⊢
    dsimp only at e ⊢
    cases p : intsOf xs with
    | none => rw [p] at e; cases e
    | some bs => rw [p] at e; cases bs <;> cases e; rfl
  · cases q : lstOf Z0 v' with
    | none => unfold vBest at e; cases v' <;> first | (exact absurd ⟨_, rfl⟩ hT) | (simp only [q, Option.bind] at e; cases e; done)
    | some xs =>
      have l := lst_q h q
      unfold vBest at e ⊢
      cases v' <;> first | (exact absurd ⟨_, rfl⟩ hT) | (cases q; done) | skip
      all_goals
        cases v <;> first | (cases l; done) | skip
        all_goals
          simp only [q, l] at e ⊢
          cases p : intsOf xs with
          | none => simp only [Option.bind, p] at e; cases e
          | some bs => simp only [Option.bind, p] at e ⊢; cases bs <;> cases e; rfl
theorem vSortB_l {v : Val} {S : Sto} (h : ∀ xs, v ≠ .tup xs) : vSortB false [v] S = (match (lstOf S v).bind intsOf with
    | some ns => mkL false ((sortI ns).map Val.int) S
    | none => .st) := by
  unfold vSortB
  cases v <;> first | rfl | exact absurd rfl (h _)
theorem vq_nt {c : Cs} {S : Sto} {v v' : Val} (h : VQ c S v v') (n : ∀ xs, v' ≠ .tup xs) : ∀ xs, v ≠ .tup xs := by
  rintro xs rfl
  rcases h with h | ⟨k, h, _⟩
  · exact n xs h.symm
  · cases h
theorem rl_sortB : RsL (vSortB false) := rsl1 (by (intro u Z e; cases e; done)) (by (intro v w vs u Z e; first | (cases e; done) | (cases v <;> cases e; done))) fun c S v v' u Z1 h e => by
  by_cases hT : ∃ xs, v' = .tup xs
  · obtain ⟨xs, rfl⟩ := hT
    obtain rfl := vq_s h rfl
    unfold vSortB at e ⊢
    dsimp only at e ⊢
    cases p : intsOf xs with
    | none => rw [p] at e; cases e
    | some bs => rw [p] at e; cases e; rfl
  · have hn : ∀ xs, v' ≠ .tup xs := fun xs h => hT ⟨xs, h⟩
    rw [vSortB_l hn] at e
    rw [vSortB_l (vq_nt h hn)]
    cases q : lstOf Z0 v' with
    | none => rw [q] at e; cases e
    | some xs =>
      rw [q] at e; rw [lst_q h q]
      cases p : intsOf xs with
      | none => simp only [Option.bind, p] at e; cases e
      | some bs => simp only [Option.bind, p] at e ⊢; cases e; rfl
theorem rl_anyI : RsL vAnyI := rsl1 (by (intro u Z e; cases e; done)) (by (intro v w vs u Z e; first | (cases e; done) | (cases v <;> cases e; done))) fun c S v v' u Z1 h e => by
  cases v' <;> first | (cases e; done) | skip
  obtain rfl := vq_s h rfl
  rename_i xs
  unfold vAnyI at e ⊢
  dsimp only at e ⊢
  cases p : intsOf xs with
  | none => rw [p] at e; cases e
  | some bs => rw [p] at e; cases e; rfl
theorem rl_lenD : RsL vLenD := rsl1 (by (intro u Z e; cases e; done)) (by (intro v w vs u Z e; first | (cases e; done) | (cases v <;> cases e; done))) fun c S v v' u Z1 h e => by
  rcases h with rfl | ⟨k, rfl, _, o, h1, h2⟩
  · cases v <;> first | (cases e; rfl; done) | (cases e; done) | (simp [vLenD, Z0, S0] at e)
  · cases o with
    | dk lk ks vs => cases lk <;> cases h2; cases e; unfold vLenD; simp only [h1]
    | dt lk ks vs => cases lk <;> cases h2; cases e
    | lst xs => cases h2; cases e
    | ins c vs => cases h2; cases e
/-! ### what never raises -/
theorem nx_sub : ∀ v w S, NX (vSub v w S) := by (intro v w S; unfold vSub; cases v <;> cases w <;> first | trivial | (dsimp only; split <;> trivial))
theorem nx_lt : ∀ v w S, NX (vLt v w S) := by (intro v w S; unfold vLt; cases v <;> cases w <;> first | trivial | (dsimp only; split <;> trivial))
theorem nx_le : ∀ v w S, NX (vLe v w S) := by (intro v w S; unfold vLe; cases v <;> cases w <;> first | trivial | (dsimp only; split <;> trivial))
theorem nx_gt : ∀ v w S, NX (vGt v w S) := by (intro v w S; unfold vGt; cases v <;> cases w <;> first | trivial | (dsimp only; split <;> trivial))
theorem nx_ge : ∀ v w S, NX (vGe v w S) := by (intro v w S; unfold vGe; cases v <;> cases w <;> first | trivial | (dsimp only; split <;> trivial))
theorem nx_addI : ∀ v w S, NX (vAddI v w S) := by (intro v w S; unfold vAddI; cases v <;> cases w <;> first | trivial | (dsimp only; split <;> trivial))
theorem nx_and : ∀ v w S, NX (vAnd v w S) := by (intro v w S; unfold vAnd; cases v <;> cases w <;> first | trivial | (dsimp only; split <;> trivial))
theorem nx_mul : ∀ v w S, NX (vMul v w S) := by (intro v w S; unfold vMul; cases v <;> cases w <;> first | trivial | (dsimp only; split <;> trivial))
theorem nx_fdiv : ∀ v w S, NX (vFdiv v w S) := by (intro v w S; unfold vFdiv; cases v <;> cases w <;> first | trivial | (dsimp only; split <;> trivial))
theorem nx_mod : ∀ v w S, NX (vMod v w S) := by (intro v w S; unfold vMod; cases v <;> cases w <;> first | trivial | (dsimp only; split <;> trivial))
theorem nx_pow : ∀ v w S, NX (vPow v w S) := by (intro v w S; unfold vPow; cases v <;> cases w <;> first | trivial | (dsimp only; split <;> trivial))
theorem nx_shr : ∀ v w S, NX (vShr v w S) := by (intro v w S; unfold vShr; cases v <;> cases w <;> first | trivial | (dsimp only; split <;> trivial))
theorem nx_shl : ∀ v w S, NX (vShl v w S) := by (intro v w S; unfold vShl; cases v <;> cases w <;> first | trivial | (dsimp only; split <;> trivial))
theorem nx_repT : ∀ v w S, NX (vRepT v w S) := by (intro v w S; unfold vRepT; cases v <;> cases w <;> first | trivial | (dsimp only; split <;> trivial))
theorem nx_isN : ∀ v w S, NX (vIsN v w S) := by (intro v w S; unfold vIsN; cases v <;> cases w <;> first | trivial | (dsimp only; split <;> trivial))
theorem nx_notN : ∀ v w S, NX (vNotN v w S) := by (intro v w S; unfold vNotN; cases v <;> cases w <;> first | trivial | (dsimp only; split <;> trivial))
theorem nx_eq : ∀ v w S, NX (vEq v w S) := by
  intro v w S; unfold vEq; split
  · split <;> trivial
  · trivial
theorem nx_ne : ∀ v w S, NX (vNe v w S) := by
  intro v w S; unfold vNe; split
  · split <;> trivial
  · trivial
theorem nx_ix : ∀ v w S, NX (vIx v w S) := by
  intro v w S; unfold vIx; split
  · split <;> trivial
  · split
    · split <;> trivial
    · trivial
  · trivial
theorem nx_in (ng : Bool) : ∀ v w S, NX (vInW ng v w S) := by
  intro v w S; unfold vInW; split
  · split
    · split <;> trivial
    · trivial
  · split
    · split <;> trivial
    · trivial
theorem nx_add : ∀ v w S, NX (vAdd false v w S) := by
  intro v w S; unfold vAdd; split
  · trivial
  · split <;> trivial
  · split <;> trivial
  · split
    · split <;> trivial
    · trivial
theorem nx_addN : ∀ (v w : Val) (S : Sto), NX ((fun v w S => match v, w with
    | .lst xs, .lst ys => if xs.length + ys.length ≤ sizeLine then .ok (.lst (xs ++ ys)) S else .st
    | _, _ => .st : Val → Val → Sto → Res Val) v w S) := by
  intro v w S; dsimp only; split
  · split <;> trivial
  · trivial
theorem nx_neg : ∀ v S, NX (vNeg v S) := by intro v S; unfold vNeg; split <;> trivial
theorem nx_rev : ∀ v S, NX (vRevL false v S) := by intro v S; unfold vRevL; split <;> trivial
theorem nx_len : ∀ v S, NX (vLen v S) := by (intro v S; unfold vLen; repeat' (first | trivial | split))
theorem nx_abs : ∀ v S, NX (vAbs v S) := by (intro v S; unfold vAbs; repeat' (first | trivial | split))
theorem nx_int : ∀ v S, NX (vInt v S) := by (intro v S; unfold vInt; repeat' (first | trivial | split))
theorem nx_min2 : ∀ v S, NX (vMin2 v S) := by (intro v S; unfold vMin2; repeat' (first | trivial | split))
theorem nx_max2 : ∀ v S, NX (vMax2 v S) := by (intro v S; unfold vMax2; repeat' (first | trivial | split))
theorem nx_isi : ∀ v S, NX (vIsi v S) := by (intro v S; unfold vIsi; repeat' (first | trivial | split))
theorem nx_list : ∀ v S, NX (vList false v S) := by
  intro v S; unfold vList; split
  · trivial
  · split <;> trivial
  · trivial
theorem nx_tuple : ∀ v S, NX (vTuple v S) := by (intro v S; unfold vTuple; repeat' (first | trivial | split))
theorem nx_all : ∀ v S, NX (vAll v S) := by (intro v S; unfold vAll; repeat' (first | trivial | split))
theorem nx_any : ∀ v S, NX (vAny v S) := by (intro v S; unfold vAny; repeat' (first | trivial | split))
theorem nx_sortI : ∀ v S, NX (vSortI false v S) := by
  intro v S; unfold vSortI; split
  · split <;> trivial
  · trivial
theorem nx_sortB : ∀ v S, NX (vSortB false v S) := by
  intro v S; unfold vSortB; split
  · split <;> trivial
  · exact nx_sortI v S
theorem nx_best (f : Int → Int → Int) : ∀ v S, NX (vBest f v S) := by (intro v S; unfold vBest; repeat' (first | trivial | split))
theorem nx_anyI : ∀ v S, NX (vAnyI v S) := by (intro v S; unfold vAnyI; repeat' (first | trivial | split))
theorem nx_lenD : ∀ v S, NX (vLenD v S) := by (intro v S; unfold vLenD; repeat' (first | trivial | split))
end PM

/-! PP, part c: statements -/
namespace PM
open PySem PySem.Spec L2
def ownk (κ : List Kd) (ρ ρ' : Ev) (k : Nat) : Prop := ∃ (i : Nat) (kd : Kd), κ[i]? = some kd ∧ kd.own = true ∧ us (lk ρ i) (lk ρ' i) k
structure SF (κ : List Kd) (c : Cs) (ρ ρ' : Ev) (S S1 : Sto) : Prop where
  le : S.next ≤ S1.next
  eq : ∀ k, k < S.next → Free c k → ¬ ownk κ ρ ρ' k → S1.objs k = S.objs k
structure EF (κ : List Kd) (S : Sto) (ρ ρ' ρ1 ρ1' : Ev) : Prop where
  own : ∀ k, ownk κ ρ1 ρ1' k → ownk κ ρ ρ' k ∨ S.next ≤ k
  pa : ∀ i, κ[i]? = some .p → lk ρ1 i = lk ρ i
def CX (c : Cs) (S : Sto) (c1 : Cs) : Prop := ∃ d, c1 = d ++ c ∧ ∀ p ∈ d, S.next ≤ p.2
theorem CX.refl {c : Cs} {S : Sto} : CX c S c := ⟨[], rfl, fun _ h => (nomatch h)⟩
theorem CX.trans {c c1 c2 : Cs} {S S1 : Sto} (a : CX c S c1) (l : S.next ≤ S1.next) (b : CX c1 S1 c2) : CX c S c2 := by
  obtain ⟨d, rfl, h⟩ := a
  obtain ⟨e, rfl, h2⟩ := b
  refine ⟨e ++ d, (List.append_assoc _ _ _).symm, fun p hp => ?_⟩
  rcases List.mem_append.mp hp with q | q
  · exact Nat.le_trans l (h2 p q)
  · exact h p q
theorem CX.free {c c1 : Cs} {S : Sto} (a : CX c S c1) {k : Nat} (hk : k < S.next) (f : Free c k) : Free c1 k := by
  obtain ⟨d, rfl, h⟩ := a
  intro p hp e
  rcases List.mem_append.mp hp with q | q
  · have := h p q; omega
  · exact f p q e
theorem CX.down {c c1 : Cs} {S : Sto} (a : CX c S c1) {k : Nat} (f : Free c1 k) : Free c k := by
  obtain ⟨d, rfl, _⟩ := a
  exact fun p hp => f p (List.mem_append.mpr (.inr hp))
theorem CX.mem {c c1 : Cs} {S : Sto} (a : CX c S c1) {p : Nat × Nat} (h : p ∈ c) : p ∈ c1 := by
  obtain ⟨d, rfl, _⟩ := a
  exact List.mem_append.mpr (.inr h)
theorem St.down {c c1 : Cs} {S Z S1 : Sto} (a : CX c S c1) (s : St c1 Z S1) : St c Z S1 :=
  ⟨fun p hp => s.cr p (a.mem hp), fun p hp q hq => s.inj p (a.mem hp) q (a.mem hq), s.wf, s.wz⟩
structure NxR (κ : List Kd) (c : Cs) (S : Sto) (ρ ρ' : Ev) (ρ1 : Ev) (S1 : Sto) (ρ1' : Ev) (Z1 : Sto) (c1 : Cs) : Prop where
  sf : SF κ c ρ ρ' S S1
  ef : EF κ S ρ ρ' ρ1 ρ1'
  cx : CX c S c1
  st : St c1 Z1 S1
  ev : EvR κ c1 S1 ρ1 ρ1'
theorem SF.trans {κ : List Kd} {c c1 : Cs} {ρ ρ' ρ1 ρ1' : Ev} {S S1 S2 : Sto} (a : SF κ c ρ ρ' S S1) (e : EF κ S ρ ρ' ρ1 ρ1') (x : CX c S c1) (b : SF κ c1 ρ1 ρ1' S1 S2) : SF κ c ρ ρ' S S2 :=
  ⟨Nat.le_trans a.le b.le, fun k h f o => (b.eq k (Nat.lt_of_lt_of_le h a.le) (x.free h f) fun q => by
    rcases e.own k q with q | q
    · exact o q
    · omega).trans (a.eq k h f o)⟩
theorem EF.refl {κ : List Kd} {S : Sto} {ρ ρ' : Ev} : EF κ S ρ ρ' ρ ρ' := ⟨fun _ h => .inl h, fun _ _ => rfl⟩
theorem EF.trans {κ : List Kd} {ρ ρ' ρ1 ρ1' ρ2 ρ2' : Ev} {S S1 : Sto} (a : EF κ S ρ ρ' ρ1 ρ1') (l : S.next ≤ S1.next) (b : EF κ S1 ρ1 ρ1' ρ2 ρ2') : EF κ S ρ ρ' ρ2 ρ2' :=
  ⟨fun k h => by
    rcases b.own k h with h | h
    · exact a.own k h
    · exact .inr (Nat.le_trans l h), fun i h => (b.pa i h).trans (a.pa i h)⟩
theorem XF.sf {κ : List Kd} {c : Cs} {ρ ρ' : Ev} {S S1 : Sto} (x : XF c S S1) : SF κ c ρ ρ' S S1 := ⟨x.le, fun k h f _ => x.eq k h f⟩
inductive RK where
  | v | f | p (i : Nat)
def RR (rk : RK) (κ : List Kd) (c1 : Cs) (S : Sto) (ρ ρ' : Ev) (S1 : Sto) (v v' : Val) : Prop := match rk with
  | .v => v = v'
  | .f => ∃ k, v = .loc k ∧ (ownk κ ρ ρ' k ∨ S.next ≤ k) ∧ VL c1 S1 k v'
  | .p i => ∃ k u, κ[i]? = some .p ∧ lk ρ i = some (.loc k) ∧ v' = .tup [v, u] ∧ VL c1 S1 k u
theorem RR.back {rk : RK} {κ : List Kd} {c2 : Cs} {S S1 S2 : Sto} {ρ ρ' ρ1 ρ1' : Ev} {v v' : Val} (e : EF κ S ρ ρ' ρ1 ρ1') (l : S.next ≤ S1.next) (h : RR rk κ c2 S1 ρ1 ρ1' S2 v v') : RR rk κ c2 S ρ ρ' S2 v v' := by
  cases rk with
  | v => exact h
  | f =>
    obtain ⟨k, rfl, h, q⟩ := h
    refine ⟨k, rfl, ?_, q⟩
    rcases h with h | h
    · exact e.own k h
    · exact .inr (Nat.le_trans l h)
  | p i =>
    obtain ⟨k, u, h1, h2, h3, h4⟩ := h
    exact ⟨k, u, h1, by rw [← e.pa i h1]; exact h2, h3, h4⟩
def SSim (κ : List Kd) (rk : RK) (c : Cs) (S : Sto) (ρ ρ' : Ev) (r r' : SRes) : Prop := match r' with
  | .nx ρ1' Z1 => ∃ ρ1 S1 c1, r = .nx ρ1 S1 ∧ NxR κ c S ρ ρ' ρ1 S1 ρ1' Z1 c1
  | .bk ρ1' Z1 => ∃ ρ1 S1 c1, r = .bk ρ1 S1 ∧ NxR κ c S ρ ρ' ρ1 S1 ρ1' Z1 c1
  | .ct ρ1' Z1 => ∃ ρ1 S1 c1, r = .ct ρ1 S1 ∧ NxR κ c S ρ ρ' ρ1 S1 ρ1' Z1 c1
  | .ex i vs ρ1' Z1 => ∃ ρ1 S1 c1, r = .ex i vs ρ1 S1 ∧ NxR κ c S ρ ρ' ρ1 S1 ρ1' Z1 c1
  | .rt v' Z1 => ∃ v S1 c1, r = .rt v S1 ∧ SF κ c ρ ρ' S S1 ∧ CX c S c1 ∧ St c1 Z1 S1 ∧ RR rk κ c1 S ρ ρ' S1 v v'
  | .st => True
def LS (κ : List Kd) (rk : RK) (s s' : SM) : Prop := ∀ c Z S ρ ρ', EvR κ c S ρ ρ' → St c Z S → SSim κ rk c S ρ ρ' (s ρ S) (s' ρ' Z)
section
variable {κ : List Kd} {rk : RK} {c c1 : Cs} {S S1 Z Z1 : Sto} {ρ ρ1 ρ' ρ1' : Ev}
theorem NxR.trans {ρ2 ρ2' : Ev} {S2 Z2 : Sto} {c2 : Cs} (a : NxR κ c S ρ ρ' ρ1 S1 ρ1' Z1 c1) (b : NxR κ c1 S1 ρ1 ρ1' ρ2 S2 ρ2' Z2 c2) : NxR κ c S ρ ρ' ρ2 S2 ρ2' Z2 c2 :=
  ⟨a.sf.trans a.ef a.cx b.sf, a.ef.trans a.sf.le b.ef, a.cx.trans a.sf.le b.cx, b.st, b.ev⟩
theorem SSim.after {r r' : SRes} (a : NxR κ c S ρ ρ' ρ1 S1 ρ1' Z1 c1) (h : SSim κ rk c1 S1 ρ1 ρ1' r r') : SSim κ rk c S ρ ρ' r r' := by
  cases r' with
  | st => trivial
  | nx ρ2' Z2 => obtain ⟨ρ2, S2, c2, e, q⟩ := h; exact ⟨ρ2, S2, c2, e, a.trans q⟩
  | bk ρ2' Z2 => obtain ⟨ρ2, S2, c2, e, q⟩ := h; exact ⟨ρ2, S2, c2, e, a.trans q⟩
  | ct ρ2' Z2 => obtain ⟨ρ2, S2, c2, e, q⟩ := h; exact ⟨ρ2, S2, c2, e, a.trans q⟩
  | ex i vs ρ2' Z2 => obtain ⟨ρ2, S2, c2, e, q⟩ := h; exact ⟨ρ2, S2, c2, e, a.trans q⟩
  | rt v' Z2 =>
    obtain ⟨v, S2, c2, e, f, x, s, q⟩ := h
    exact ⟨v, S2, c2, e, a.sf.trans a.ef a.cx f, a.cx.trans a.sf.le x, s, q.back a.ef a.sf.le⟩
theorem NxR.ofX (r : EvR κ c S ρ ρ') (s : St c Z S) (x : XF c S S1) (s1 : St c Z1 S1) : NxR κ c S ρ ρ' ρ S1 ρ' Z1 c := ⟨x.sf, .refl, .refl, s1, r.mono s x⟩
theorem SSim.toS {α β : Type} {n : Nat} {R : RelK α β} {r : Res α} {r' : Res β} {g : α → Sto → SRes} {g' : β → Sto → SRes} (er : EvR κ c S ρ ρ') (s : St c Z S) (h : Sim c S n R r r')
    (k : ∀ v v' S1 Z1, XF c S S1 → St c Z1 S1 → R c n S1 v v' → SSim κ rk c S1 ρ ρ' (g v S1) (g' v' Z1)) : SSim κ rk c S ρ ρ' (r.toS ρ g) (r'.toS ρ' g') := by
  cases r' with
  | st => trivial
  | ex i vs Z1 =>
    obtain ⟨S1, e, x, s1⟩ := h
    rw [e]; exact ⟨ρ, S1, c, rfl, .ofX er s x s1⟩
  | ok v' Z1 =>
    obtain ⟨v, S1, e, x, s1, q⟩ := h
    rw [e]
    exact SSim.after (NxR.ofX er s x s1) (k v v' S1 Z1 x s1 q)
theorem SSim.nx {r' : EvR κ c S ρ1 ρ1'} (s : St c Z S) (ef : EF κ S ρ ρ' ρ1 ρ1') : SSim κ rk c S ρ ρ' (.nx ρ1 S) (.nx ρ1' Z) := ⟨ρ1, S, c, rfl, XF.refl.sf, ef, .refl, s, r'⟩
theorem SSim.nx0 (er : EvR κ c S ρ ρ') (s : St c Z S) : SSim κ rk c S ρ ρ' (.nx ρ S) (.nx ρ' Z) := ⟨ρ, S, c, rfl, XF.refl.sf, .refl, .refl, s, er⟩
theorem lk_set {ρ : Ev} {i j : Nat} {o : Option Val} : lk (ρ.set i o) j = if i = j ∧ i < ρ.length then o else lk ρ j := by
  rw [lk_get, lk_get, List.getElem?_set]
  by_cases h : i = j
  · subst h
    by_cases l : i < ρ.length
    · rw [if_pos rfl, if_pos l, if_pos ⟨rfl, l⟩]; rfl
    · rw [if_pos rfl, if_neg l, if_neg fun q => l q.2, List.getElem?_eq_none (by omega)]
  · rw [if_neg h, if_neg fun q => h q.1]
theorem lk_same {ρ : Ev} {i : Nat} {o : Option Val} (l : i < ρ.length) : lk (ρ.set i o) i = o := by rw [lk_set, if_pos ⟨rfl, l⟩]
theorem lk_ne {ρ : Ev} {i j : Nat} {o : Option Val} (h : i ≠ j) : lk (ρ.set i o) j = lk ρ j := by rw [lk_set, if_neg fun q => h q.1]
theorem get_lt {α : Type} {l : List α} {i : Nat} {a : α} (h : l[i]? = some a) : i < l.length := (List.getElem?_eq_some_iff.mp h).1
theorem not_us_same {a : Option Val} {k : Nat} : ¬ us a a k := fun ⟨h1, u, h2, h3⟩ => by rw [h1] at h2; cases h2; cases h3
/-- a slot is set to one value -/
theorem EvR.set_s (er : EvR κ c S ρ ρ') {i : Nat} (hi : κ[i]? = some .s) (v : Option Val) : EvR κ c S (ρ.set i v) (ρ'.set i v) := by
  have l := get_lt hi
  have l1 : i < ρ.length := by rw [er.len]; exact l
  have l2 : i < ρ'.length := by rw [er.len']; exact l
  refine ⟨by rw [List.length_set]; exact er.len, by rw [List.length_set]; exact er.len', fun j kd e => ?_, fun j j2 kd k hne e o u => ?_⟩
  · by_cases h : i = j
    · subst h
      rw [hi] at e; cases e
      rw [lk_same l1, lk_same l2]; rfl
    · rw [lk_ne h, lk_ne h]; exact er.rel j kd e
  · by_cases h : i = j
    · subst h
      rw [hi] at e; cases e; cases o
    · rw [lk_ne h, lk_ne h] at u
      by_cases h2 : i = j2
      · subst h2
        rw [lk_same l1, lk_same l2]; exact not_us_same
      · rw [lk_ne h2, lk_ne h2]; exact er.na j j2 kd k hne e o u
theorem EF.set_s {i : Nat} {v v' : Option Val} (hi : κ[i]? = some .s) : EF κ S ρ ρ' (ρ.set i v) (ρ'.set i v') := by
  refine ⟨fun k ⟨j, kd, e, o, q⟩ => ?_, fun j e => ?_⟩
  · have : i ≠ j := fun h => by subst h; rw [hi] at e; cases e; cases o
    rw [lk_ne this, lk_ne this] at q
    exact .inl ⟨j, kd, e, o, q⟩
  · have : i ≠ j := fun h => by subst h; rw [hi] at e; cases e
    exact lk_ne this
/-- a slot's use -/
theorem us_vl {a b : Option Val} {k : Nat} : ∀ {kd : Kd}, SlR c S kd a b → us a b k → ∃ u, b = some u ∧ VL c S k u
  | .s, h, u => by rw [show a = b from h] at u; exact (not_us_same u).elim
  | .f, h, u => by
    rcases h with h | ⟨k2, w, e1, e2, h⟩
    · rw [h] at u; exact (not_us_same u).elim
    · obtain ⟨u1, _⟩ := u
      rw [e1] at u1; cases u1; exact ⟨w, e2, h⟩
  | .o, h, u => by
    rcases h with ⟨h, _⟩ | ⟨k2, w, e1, e2, h⟩
    · obtain ⟨_, _, q, _⟩ := u; rw [h] at q; cases q
    · obtain ⟨u1, _⟩ := u
      rw [e1] at u1; cases u1; exact ⟨w, e2, h⟩
  | .p, h, u => by
    rcases h with ⟨h, _⟩ | ⟨k2, w, e1, e2, h⟩
    · obtain ⟨_, _, q, _⟩ := u; rw [h] at q; cases q
    · obtain ⟨u1, _⟩ := u
      rw [e1] at u1; cases u1; exact ⟨w, e2, h⟩
  | .c, h, u => by
    rcases h with ⟨h, _⟩ | ⟨j, k2, e1, e2, h⟩
    · obtain ⟨_, _, q, _⟩ := u; rw [h] at q; cases q
    · obtain ⟨_, w, q, z⟩ := u
      rw [e2] at q; cases q; cases z
theorem EvR.us_vl (er : EvR κ c S ρ ρ') {j k : Nat} (u : us (lk ρ j) (lk ρ' j) k) : VL c S k ((lk ρ' j).getD .non) := by
  cases e : κ[j]? with
  | none =>
    obtain ⟨u1, _⟩ := u
    have : ρ.length ≤ j := by rw [er.len]; exact List.getElem?_eq_none_iff.mp e
    rw [lk_get, List.getElem?_eq_none this] at u1; cases u1
  | some kd =>
    obtain ⟨w, h1, h2⟩ := PM.us_vl (er.rel j kd e) u
    rw [h1]; exact h2
/-- an owned slot takes an object that no other slot uses -/
theorem EvR.set_o (er : EvR κ c S ρ ρ') {i k : Nat} {u : Val} {kd : Kd} (hi : κ[i]? = some kd) (ho : kd.own = true) (h : VL c S k u) (hn : ∀ j, j ≠ i → ¬ us (lk ρ j) (lk ρ' j) k) : EvR κ c S (ρ.set i (some (.loc k))) (ρ'.set i (some u)) := by
  have l := get_lt hi
  have l1 : i < ρ.length := by rw [er.len]; exact l
  have l2 : i < ρ'.length := by rw [er.len']; exact l
  refine ⟨by rw [List.length_set]; exact er.len, by rw [List.length_set]; exact er.len', fun j kd2 e => ?_, fun j j2 kd2 k2 hne e o q => ?_⟩
  · by_cases hj : i = j
    · subst hj
      rw [hi] at e; cases e
      rw [lk_same l1, lk_same l2]
      cases kd <;> first | (cases ho; done) | exact .inr ⟨k, u, rfl, rfl, h⟩
    · rw [lk_ne hj, lk_ne hj]; exact er.rel j kd2 e
  · by_cases hj : i = j
    · subst hj
      rw [lk_same l1, lk_same l2] at q
      obtain ⟨q1, _⟩ := q
      cases q1
      rw [lk_ne hne, lk_ne hne]; exact hn j2 (Ne.symm hne)
    · rw [lk_ne hj, lk_ne hj] at q
      by_cases h2 : i = j2
      · subst h2
        rw [lk_same l1, lk_same l2]
        intro q2
        obtain ⟨q3, _⟩ := q2
        cases q3
        exact hn j (Ne.symm hj) q
      · rw [lk_ne h2, lk_ne h2]; exact er.na j j2 kd2 k2 hne e o q
/-- it is dead -/
theorem EvR.dead (er : EvR κ c S ρ ρ') {i : Nat} {kd : Kd} (hi : κ[i]? = some kd) (ho : kd.own = true) : EvR κ c S ρ (ρ'.set i none) := by
  have l2 : i < ρ'.length := by rw [er.len']; exact get_lt hi
  refine ⟨er.len, by rw [List.length_set]; exact er.len', fun j kd2 e => ?_, fun j j2 kd2 k2 hne e o q => ?_⟩
  · by_cases hj : i = j
    · subst hj
      rw [hi] at e; cases e
      rw [lk_same l2]
      have := er.rel i kd hi
      cases kd <;> first | (cases ho; done) | (rcases this with ⟨_, h⟩ | ⟨k, _, h, _⟩
                                               · exact .inl ⟨rfl, h⟩
                                               · exact .inl ⟨rfl, .inr ⟨k, h⟩⟩)
    · rw [lk_ne hj]; exact er.rel j kd2 e
  · by_cases hj : i = j
    · subst hj
      rw [lk_same l2] at q
      obtain ⟨_, _, q, _⟩ := q; cases q
    · rw [lk_ne hj] at q
      by_cases h2 : i = j2
      · subst h2
        rw [lk_same l2]
        intro q2
        obtain ⟨_, _, q2, _⟩ := q2; cases q2
      · rw [lk_ne h2]; exact er.na j j2 kd2 k2 hne e o q
theorem EF.dead {i : Nat} (hi : κ[i]? = some .o) (len : ρ'.length = κ.length) : EF κ S ρ ρ' ρ (ρ'.set i none) := by
  refine ⟨fun k ⟨j, kd, e, o, q⟩ => ?_, fun _ _ => rfl⟩
  by_cases hj : i = j
  · subst hj
    rw [lk_same (by rw [len]; exact get_lt hi)] at q
    obtain ⟨_, _, q, _⟩ := q; cases q
  · rw [lk_ne hj] at q; exact .inl ⟨j, kd, e, o, q⟩
/-! ### statements -/
variable {s s' t t' : SM}
theorem ls_next : LS κ rk sNext sNext := fun c Z S ρ ρ' er st => .nx0 er st
theorem ls_never : LS κ rk sNever sNever := fun c Z S ρ ρ' er st => trivial
theorem ls_break : LS κ rk sBreak sBreak := fun c Z S ρ ρ' er st => ⟨ρ, S, c, rfl, XF.refl.sf, .refl, .refl, st, er⟩
theorem ls_cont : LS κ rk sCont sCont := fun c Z S ρ ρ' er st => ⟨ρ, S, c, rfl, XF.refl.sf, .refl, .refl, st, er⟩
theorem ls_raise {i : Nat} : LS κ rk (sRaise i) (sRaise i) := fun c Z S ρ ρ' er st => ⟨ρ, S, c, rfl, XF.refl.sf, .refl, .refl, st, er⟩
theorem ls_seq (h : LS κ rk s s') (h2 : LS κ rk t t') : LS κ rk (sSeq s t) (sSeq s' t') := fun c Z S ρ ρ' er st => by
  have := h c Z S ρ ρ' er st
  unfold sSeq
  revert this
  cases e : s' ρ' Z with
  | st => intro _; trivial
  | nx ρ1' Z1 =>
    rintro ⟨ρ1, S1, c1, e1, q⟩
    rw [e1]
    exact .after q (h2 c1 Z1 S1 ρ1 ρ1' q.ev q.st)
  | bk => rintro ⟨ρ1, S1, c1, e1, q⟩; rw [e1]; exact ⟨ρ1, S1, c1, rfl, q⟩
  | ct => rintro ⟨ρ1, S1, c1, e1, q⟩; rw [e1]; exact ⟨ρ1, S1, c1, rfl, q⟩
  | ex => rintro ⟨ρ1, S1, c1, e1, q⟩; rw [e1]; exact ⟨ρ1, S1, c1, rfl, q⟩
  | rt => rintro ⟨v, S1, c1, e1, q⟩; rw [e1]; exact ⟨v, S1, c1, rfl, q⟩
variable {e p : EM} {b b' : BM}
theorem ls_set (i : Nat) (hi : κ[i]? = some .s) (h : LE RV κ e p) : LS κ rk (sSet i e) (sSet i p) := fun c Z S ρ ρ' er st =>
  .toS er st (h c Z S ρ ρ' S.next er st (Nat.le_refl _)) fun v v' S1 Z1 x s1 q => by
    obtain rfl : v = v' := q
    exact SSim.nx (r' := (er.mono st x).set_s hi _) s1 (.set_s hi)
theorem EF.set_o {i k : Nat} {u : Option Val} (h : S.next ≤ k) (hi : κ[i]? = some .o) (len : ρ.length = κ.length) : EF κ S ρ ρ' (ρ.set i (some (.loc k))) (ρ'.set i u) := by
  refine ⟨fun k2 ⟨j, kd, e, o, q⟩ => ?_, fun j e => ?_⟩
  · by_cases hj : i = j
    · subst hj
      obtain ⟨q1, _⟩ := q
      rw [lk_same (by rw [len]; exact get_lt hi)] at q1
      cases q1; exact .inr h
    · rw [lk_ne hj, lk_ne hj] at q; exact .inl ⟨j, kd, e, o, q⟩
  · have : i ≠ j := fun h => by subst h; rw [hi] at e; cases e
    exact lk_ne this
theorem fresh_no (er : EvR κ c S ρ ρ') (st : St c Z S) {k : Nat} (h : S.next ≤ k) (j : Nat) : ¬ us (lk ρ j) (lk ρ' j) k := fun u => by
  have := (er.us_vl u).lt st
  omega
/-- an owned slot: a new object -/
theorem ls_setO (i : Nat) (hi : κ[i]? = some .o) (h : LE RF κ e p) : LS κ rk (sSet i e) (sSet i p) := fun c Z S ρ ρ' er st => by
  have := h c Z S ρ ρ' S.next er st (Nat.le_refl _)
  unfold sSet
  cases e1 : p ρ' Z with
  | st => trivial
  | ex j vs Z1 =>
    rw [e1] at this
    obtain ⟨S1, e2, x, s1⟩ := this
    rw [e2]; exact ⟨ρ, S1, c, rfl, .ofX er st x s1⟩
  | ok v' Z1 =>
    rw [e1] at this
    obtain ⟨v, S1, e2, x, s1, k, rfl, hk, q⟩ := this
    rw [e2]
    exact ⟨_, S1, c, rfl, x.sf, .set_o hk hi er.len, .refl, s1, (er.mono st x).set_o hi rfl q fun j _ => fresh_no er st hk j⟩
theorem ls_drop {R : RelK Val Val} (h : LE R κ e p) : LS κ rk (sDrop e) (sDrop p) := fun c Z S ρ ρ' er st =>
  .toS er st (h c Z S ρ ρ' S.next er st (Nat.le_refl _)) fun v v' S1 Z1 x s1 q => .nx0 (er.mono st x) s1
theorem ls_ret (h : LE RV κ e p) : LS κ .v (sRet e) (sRet p) := fun c Z S ρ ρ' er st =>
  .toS er st (h c Z S ρ ρ' S.next er st (Nat.le_refl _)) fun v v' S1 Z1 x s1 q => ⟨v, S1, c, rfl, XF.refl.sf, .refl, s1, q⟩
theorem ls_retF (h : LE RF κ e p) : LS κ .f (sRet e) (sRet p) := fun c Z S ρ ρ' er st => by
  have := h c Z S ρ ρ' S.next er st (Nat.le_refl _)
  unfold sRet
  cases e1 : p ρ' Z with
  | st => trivial
  | ex j vs Z1 =>
    rw [e1] at this
    obtain ⟨S1, e2, x, s1⟩ := this
    rw [e2]; exact ⟨ρ, S1, c, rfl, .ofX er st x s1⟩
  | ok v' Z1 =>
    rw [e1] at this
    obtain ⟨v, S1, e2, x, s1, k, rfl, hk, q⟩ := this
    rw [e2]
    exact ⟨_, S1, c, rfl, x.sf, .refl, s1, k, rfl, .inr hk, q⟩
theorem ls_retN : LS κ .v sRetN sRetN := fun c Z S ρ ρ' er st => ⟨.non, S, c, rfl, XF.refl.sf, .refl, st, rfl⟩
/-- an owned object handed out as it is -/
theorem ls_retO (i : Nat) (hi : κ[i]? = some .o) : LS κ .f (sRet (eVar i)) (sRet (eVar i)) := fun c Z S ρ ρ' er st => by
  unfold sRet
  rw [eVar_lk, eVar_lk]
  have := er.rel i _ hi
  cases e : lk ρ' i with
  | none => trivial
  | some v' =>
    rcases this with ⟨h, _⟩ | ⟨k, u, e1, e2, h⟩
    · rw [e] at h; cases h
    · rw [e] at e2; cases e2
      rw [e1]
      exact ⟨_, S, c, rfl, XF.refl.sf, .refl, st, k, rfl, .inl ⟨i, .o, hi, rfl, e1, _, e, by obtain ⟨_, o, _, q⟩ := h; exact isO_of q⟩, h⟩
theorem giveUp_vl {k : Nat} {u : Val} (h : VL c S k u) : giveUp (.loc k) S = .ok u (S.drop k) := by
  obtain ⟨_, o, h1, h2⟩ := h
  unfold giveUp
  dsimp only
  rw [h1]
  cases o with
  | lst xs => cases h2; rfl
  | dk l ks vs => cases l <;> cases h2; rfl
  | dt l ks vs => cases l <;> cases h2; rfl
  | ins c vs => cases h2; rfl
theorem St.drop (s : St c Z S) {k : Nat} (f : Free c k) : St c Z (S.drop k) := by
  refine ⟨fun p hp => ?_, s.inj, fun j o h => ?_, s.wz⟩
  · obtain ⟨o, h1, h2⟩ := s.cr p hp
    exact ⟨o, h1, by rw [drop_ne (f p hp)]; exact h2⟩
  · by_cases hj : j = k
    · subst hj; unfold Sto.drop at h; simp at h
    · rw [drop_ne hj] at h; exact s.wf j o h
/-- an owned object handed out for good -/
theorem ls_retZ (i : Nat) (hi : κ[i]? = some .o) : LS κ .v (sRet (eFrz (eVar i))) (sRet (eVar i)) := fun c Z S ρ ρ' er st => by
  unfold sRet eFrz
  rw [eVar_lk, eVar_lk]
  have := er.rel i _ hi
  cases e : lk ρ' i with
  | none => trivial
  | some v' =>
    rcases this with ⟨h, _⟩ | ⟨k, u, e1, e2, h⟩
    · rw [e] at h; cases h
    · rw [e] at e2; cases e2
      rw [e1]
      show SSim κ .v c S ρ ρ' ((giveUp (.loc k) S).toS ρ _) _
      rw [giveUp_vl h]
      exact ⟨_, _, c, rfl, ⟨Nat.le_refl _, fun j _ _ o => drop_ne fun q => by subst q; exact o ⟨i, .o, hi, rfl, e1, _, e, by obtain ⟨_, o, _, q⟩ := h; exact isO_of q⟩⟩, .refl, st.drop h.1, rfl⟩
/-- y = x, x owned and not asked any more -/
def sMove (j i : Nat) : SM := fun ρ S => (vr (lk ρ i) S).toS ρ fun v S1 => .nx ((ρ.set i none).set j (some v)) S1
theorem ls_move (j i : Nat) (hj : κ[j]? = some .s) (hi : κ[i]? = some .o) : LS κ rk (sSet j (eFrz (eVar i))) (sMove j i) := fun c Z S ρ ρ' er st => by
  unfold sSet eFrz sMove
  rw [eVar_lk]
  have := er.rel i _ hi
  cases e : lk ρ' i with
  | none => trivial
  | some v' =>
    rcases this with ⟨h, _⟩ | ⟨k, u, e1, e2, h⟩
    · rw [e] at h; cases h
    · rw [e] at e2; cases e2
      rw [e1]
      show SSim κ rk c S ρ ρ' ((giveUp (.loc k) S).toS ρ _) _
      rw [giveUp_vl h]
      have no : ∀ j, j ≠ i → ¬ us (lk ρ j) (lk ρ' j) k := fun j hne => er.na i j .o k (Ne.symm hne) hi rfl ⟨e1, _, e, by obtain ⟨_, o, _, q⟩ := h; exact isO_of q⟩
      have d := er.dead hi rfl
      have er2 : EvR κ c (S.drop k) ρ (ρ'.set i none) := ⟨d.len, d.len', fun l kd el => by
        have q := d.rel l kd el
        have keep : ∀ {k2 : Nat} {w : Val}, k2 ≠ k → VL c S k2 w → VL c (S.drop k) k2 w := fun hk ⟨f, o, a, b⟩ => ⟨f, o, by rw [drop_ne hk]; exact a, b⟩
        by_cases hl : i = l
        · subst hl
          rw [hi] at el; cases el
          rw [lk_same (by rw [er.len']; exact get_lt hi)]; exact .inl ⟨rfl, .inr ⟨k, e1⟩⟩
        · rw [lk_ne hl] at q ⊢
          have nk : ∀ {k2 : Nat} {w : Val}, lk ρ l = some (.loc k2) → lk ρ' l = some w → VL c S k2 w → k2 ≠ k := fun a b hv z => by
            subst z
            exact no l (Ne.symm hl) ⟨a, _, b, by obtain ⟨_, o, _, q⟩ := hv; exact isO_of q⟩
          cases kd with
          | s => exact q
          | c => exact q
          | f => rcases q with q | ⟨k2, w, a, b, q⟩
                 · exact .inl q
                 · exact .inr ⟨k2, w, a, b, keep (nk a b q) q⟩
          | o => rcases q with q | ⟨k2, w, a, b, q⟩
                 · exact .inl q
                 · exact .inr ⟨k2, w, a, b, keep (nk a b q) q⟩
          | p => rcases q with q | ⟨k2, w, a, b, q⟩
                 · exact .inl q
                 · exact .inr ⟨k2, w, a, b, keep (nk a b q) q⟩, d.na⟩
      exact ⟨_, _, c, rfl, ⟨Nat.le_refl _, fun j _ _ o => drop_ne fun q => by subst q; exact o ⟨i, .o, hi, rfl, e1, _, e, by obtain ⟨_, o, _, q⟩ := h; exact isO_of q⟩⟩, (EF.dead hi er.len').trans (Nat.le_refl _) (.set_s hj), .refl, st.drop h.1, er2.set_s hj _⟩
theorem ls_if (hb : LE RV κ b b') (h : LS κ rk s s') (h2 : LS κ rk t t') : LS κ rk (sIf b s t) (sIf b' s' t') := fun c Z S ρ ρ' er st =>
  .toS er st (hb c Z S ρ ρ' S.next er st (Nat.le_refl _)) fun v v' S1 Z1 x s1 q => by
    obtain rfl : v = v' := q
    cases v with
    | true => exact h c Z1 S1 ρ ρ' (er.mono st x) s1
    | false => exact h2 c Z1 S1 ρ ρ' (er.mono st x) s1
def sAugP (i : Nat) (op : Val → Val → Sto → Res Val) (e : EM) : SM := fun ρ S => (vr (lk ρ i) S).toS ρ fun v _ => (e ρ S).toS ρ fun w S1 => ((op v w Z0).onto S1).toS ρ fun z S2 => .nx (ρ.set i (some z)) S2
theorem ls_aug {op : Val → Val → Sto → Res Val} (ok : Rs2 op) (nx : ∀ v w S, NX (op v w S)) (i : Nat) (hi : κ[i]? = some .s) (h : LE RQ κ e p) : LS κ rk (sAug i op e) (sAugP i op p) := fun c Z S ρ ρ' er st => by
  have hr : lk ρ i = lk ρ' i := er.rel i _ hi
  unfold sAug sAugP
  rw [← hr]
  cases e1 : lk ρ i with
  | none => trivial
  | some v =>
    rw [lk_some.mp e1]
    show SSim κ rk c S ρ ρ' ((e ρ S).toS ρ _) ((p ρ' Z).toS ρ' _)
    exact SSim.toS er st (h c Z S ρ ρ' S.next er st (Nat.le_refl _)) fun w w' S1 Z1 x s1 q => .toS (er.mono st x) s1 (sim_op (n := S1.next) s1 (nx _ _ _) fun u Z2 eo => ok c S1 v v w w' u Z2 (.inl rfl) q eo) fun z z' S2 Z2 x2 s2 q2 => by
      obtain rfl : z = z' := q2
      exact SSim.nx (r' := ((er.mono st x).mono s1 x2).set_s hi _) s2 (.set_s hi)
theorem ls_while {n : Nat} (hb : LE RV κ b b') (h : LS κ rk s s') : LS κ rk (whileM n b s) (whileM n b' s') := by
  induction n with
  | zero => exact fun c Z S ρ ρ' er st => trivial
  | succ n ih =>
    intro c Z S ρ ρ' er st
    unfold whileM
    refine .toS er st (hb c Z S ρ ρ' S.next er st (Nat.le_refl _)) fun v v' S1 Z1 x s1 q => ?_
    obtain rfl : v = v' := q
    have er1 := er.mono st x
    cases v with
    | false => exact .nx0 er1 s1
    | true =>
      rw [if_pos rfl, if_pos rfl]
      have := h c Z1 S1 ρ ρ' er1 s1
      revert this
      cases e : s' ρ' Z1 with
      | st => intro _; trivial
      | nx ρ2' Z2 => rintro ⟨ρ2, S2, c2, e2, q⟩; rw [e2]; exact .after q (ih c2 Z2 S2 ρ2 ρ2' q.ev q.st)
      | ct ρ2' Z2 => rintro ⟨ρ2, S2, c2, e2, q⟩; rw [e2]; exact .after q (ih c2 Z2 S2 ρ2 ρ2' q.ev q.st)
      | bk ρ2' Z2 => rintro ⟨ρ2, S2, c2, e2, q⟩; rw [e2]; exact ⟨ρ2, S2, c2, rfl, q⟩
      | ex i vs ρ2' Z2 => rintro ⟨ρ2, S2, c2, e2, q⟩; rw [e2]; exact ⟨ρ2, S2, c2, rfl, q⟩
      | rt v Z2 => rintro ⟨ρ2, S2, c2, e2, q⟩; rw [e2]; exact ⟨ρ2, S2, c2, rfl, q⟩
end
/-! ### targets -/
def allS (κ : List Kd) (l : List Nat) : Bool := l.all fun i => κ[i]? == some .s
mutual
theorem tgt_ok {κ : List Kd} {c : Cs} {S : Sto} : ∀ {t : Tgt} {v : Val} {ρ ρ' ρ1' : Ev}, (∀ i ∈ t.slots, κ[i]? = some .s) → EvR κ c S ρ ρ' → t.set v ρ' = some ρ1' → ∃ ρ1, t.set v ρ = some ρ1 ∧ EvR κ c S ρ1 ρ1' ∧ EF κ S ρ ρ' ρ1 ρ1'
  | .name i, v, ρ, ρ', ρ1', hs, er, e => by
    rw [tgt_name] at e ⊢
    cases e
    have hi := hs i (by unfold Tgt.slots; exact List.mem_singleton.mpr rfl)
    exact ⟨_, rfl, er.set_s hi _, .set_s hi⟩
  | .tup ts, v, ρ, ρ', ρ1', hs, er, e => by
    cases v <;> first | (unfold Tgt.set at e; cases e; done) | skip
    unfold Tgt.set at e ⊢
    exact tgts_ok (by unfold Tgt.slots at hs; exact hs) er e
theorem tgts_ok {κ : List Kd} {c : Cs} {S : Sto} : ∀ {ts : List Tgt} {vs : List Val} {ρ ρ' ρ1' : Ev}, (∀ i ∈ Tgt.slotss ts, κ[i]? = some .s) → EvR κ c S ρ ρ' → Tgt.sets ts vs ρ' = some ρ1' → ∃ ρ1, Tgt.sets ts vs ρ = some ρ1 ∧ EvR κ c S ρ1 ρ1' ∧ EF κ S ρ ρ' ρ1 ρ1'
  | [], [], ρ, ρ', ρ1', _, er, e => by unfold Tgt.sets at e ⊢; cases e; exact ⟨ρ, rfl, er, .refl⟩
  | [], _ :: _, _, _, _, _, _, e => by unfold Tgt.sets at e; cases e
  | _ :: _, [], _, _, _, _, _, e => by unfold Tgt.sets at e; cases e
  | t :: ts, v :: vs, ρ, ρ', ρ1', hs, er, e => by
    unfold Tgt.sets at e ⊢
    unfold Tgt.slotss at hs
    cases q : t.set v ρ' with
    | none => rw [q] at e; cases e
    | some ρ2' =>
      rw [q] at e
      obtain ⟨ρ2, h1, h2, h3⟩ := tgt_ok (fun i hi => hs i (List.mem_append.mpr (.inl hi))) er q
      obtain ⟨ρ3, h4, h5, h6⟩ := tgts_ok (fun i hi => hs i (List.mem_append.mpr (.inr hi))) h2 e
      exact ⟨ρ3, by rw [h1]; exact h4, h5, h3.trans (Nat.le_refl _) h6⟩
end
theorem allS_ok {κ : List Kd} {l : List Nat} (h : allS κ l = true) : ∀ i ∈ l, κ[i]? = some .s := fun i hi => by
  unfold allS at h
  have := List.all_eq_true.mp h i hi
  simpa using this
section
variable {κ : List Kd} {rk : RK} {e p : EM} {a a' : AM} {s s' : SM}
theorem ls_asg {t : Tgt} (ht : allS κ t.slots = true) (h : LE RV κ e p) : LS κ rk (sAsg t e) (sAsg t p) := fun c Z S ρ ρ' er st =>
  .toS er st (h c Z S ρ ρ' S.next er st (Nat.le_refl _)) fun v v' S1 Z1 x s1 q => by
    obtain rfl : v = v' := q
    cases q : t.set v ρ' with
    | none => trivial
    | some ρ1' =>
      obtain ⟨ρ1, h1, h2, h3⟩ := tgt_ok (allS_ok ht) (er.mono st x) q
      rw [h1]
      exact SSim.nx (r' := h2) s1 h3
/-- i, j = a, b -/
theorem ls_par (i j : Nat) (hi : κ[i]? = some .s) (hj : κ[j]? = some .s) (h : LE RV κ a a') : LS κ rk (sPar i j a) (sPar i j a') := fun c Z S ρ ρ' er st =>
  .toS er st (h c Z S ρ ρ' S.next er st (Nat.le_refl _)) fun v v' S1 Z1 x s1 q => by
    obtain rfl : v = v' := q
    match v with
    | [u, w] => exact SSim.nx (r' := ((er.mono st x).set_s hi _).set_s hj _) s1 ((EF.set_s hi).trans (Nat.le_refl _) (.set_s hj))
    | [] => trivial
    | [_] => trivial
    | _ :: _ :: _ :: _ => trivial
/-! ### loops -/
abbrev IP := Ev → Sto → Res (List Val)
def RI (κ : List Kd) (ρ ρ' : Ev) : RelK ItV (List Val) := fun c _ S iv xs => iv.items = xs ∧ ((∀ S', iv.src S') ∨ ∃ k o, k < S.next ∧ Free c k ∧ ¬ ownk κ ρ ρ' k ∧ S.objs k = some o ∧ ∀ S', S'.objs k = some o → iv.src S')
def LI (κ : List Kd) (it : IM) (ip : IP) : Prop := ∀ c Z S ρ ρ', EvR κ c S ρ ρ' → St c Z S → Sim c S S.next (RI κ ρ ρ') (it ρ S) (ip ρ' Z)
def forP (tg : Tgt) (b : SM) : List Val → SM
  | [] => fun ρ S => .nx ρ S
  | v :: vs => fun ρ S => match tg.set v ρ with
    | some ρ1 => (match b ρ1 S with
      | .nx ρ' S' => forP tg b vs ρ' S'
      | .ct ρ' S' => forP tg b vs ρ' S'
      | .bk ρ' S' => .nx ρ' S'
      | r => r)
    | none => .st
def sForP (it : IP) (tg : Tgt) (b : SM) : SM := fun ρ S => (it ρ S).toS ρ fun xs S1 => forP tg b xs ρ S1
theorem forP_ok {tg : Tgt} (ht : allS κ tg.slots = true) (h : LS κ rk s s') {src : Sto → Prop} : ∀ {vs : List Val} {c : Cs} {Z S : Sto} {ρ ρ' : Ev}, EvR κ c S ρ ρ' → St c Z S →
    ((∀ S', src S') ∨ ∃ k o, k < S.next ∧ Free c k ∧ ¬ ownk κ ρ ρ' k ∧ S.objs k = some o ∧ ∀ S', S'.objs k = some o → src S') → SSim κ rk c S ρ ρ' (forGo src tg s vs ρ S) (forP tg s' vs ρ' Z)
  | [], c, Z, S, ρ, ρ', er, st, hs => by
    unfold forGo forP
    have : src S := by rcases hs with hs | ⟨k, o, _, _, _, h1, h2⟩; exact hs S; exact h2 S h1
    rw [if_pos this]; exact .nx0 er st
  | v :: vs, c, Z, S, ρ, ρ', er, st, hs => by
    unfold forGo forP
    have : src S := by rcases hs with hs | ⟨k, o, _, _, _, h1, h2⟩; exact hs S; exact h2 S h1
    rw [if_pos this]
    cases q : tg.set v ρ' with
    | none => trivial
    | some ρ1' =>
      obtain ⟨ρ1, h1, h2, h3⟩ := tgt_ok (allS_ok ht) er q
      rw [h1]
      dsimp only
      have n0 : NxR κ c S ρ ρ' ρ1 S ρ1' Z c := ⟨XF.refl.sf, h3, .refl, st, h2⟩
      have := h c Z S ρ1 ρ1' h2 st
      have go : ∀ {ρ2 ρ2' : Ev} {S2 Z2 : Sto} {c2 : Cs}, NxR κ c S ρ1 ρ1' ρ2 S2 ρ2' Z2 c2 → SSim κ rk c S ρ ρ' (forGo src tg s vs ρ2 S2) (forP tg s' vs ρ2' Z2) := fun {ρ2 ρ2' S2 Z2 c2} n => by
        refine .after (n0.trans n) (forP_ok ht h n.ev n.st ?_)
        rcases hs with hs | ⟨k, o, lk, fk, nk, h1, h2⟩
        · exact .inl hs
        · have no : ¬ ownk κ ρ1 ρ1' k := fun q => by
            rcases h3.own k q with q | q
            · exact nk q
            · omega
          refine .inr ⟨k, o, Nat.lt_of_lt_of_le lk n.sf.le, n.cx.free lk fk, fun q => ?_, (n.sf.eq k lk fk no).trans h1, h2⟩
          rcases n.ef.own k q with q | q
          · exact no q
          · omega
      revert this
      cases e : s' ρ1' Z with
      | st => intro _; trivial
      | nx ρ2' Z2 => rintro ⟨ρ2, S2, c2, e2, q⟩; rw [e2]; exact go q
      | ct ρ2' Z2 => rintro ⟨ρ2, S2, c2, e2, q⟩; rw [e2]; exact go q
      | bk ρ2' Z2 => rintro ⟨ρ2, S2, c2, e2, q⟩; rw [e2]; exact ⟨ρ2, S2, c2, rfl, n0.trans q⟩
      | ex i vs ρ2' Z2 => rintro ⟨ρ2, S2, c2, e2, q⟩; rw [e2]; exact ⟨ρ2, S2, c2, rfl, n0.trans q⟩
      | rt v Z2 =>
        intro q
        exact .after n0 q |> fun (z : SSim κ rk c S ρ ρ' (s ρ1 S) (.rt v Z2)) => by
          obtain ⟨v2, S2, c2, e2, z⟩ := z
          rw [e2]; exact ⟨v2, S2, c2, rfl, z⟩
theorem ls_for {it : IM} {ip : IP} {tg : Tgt} (hi : LI κ it ip) (ht : allS κ tg.slots = true) (h : LS κ rk s s') : LS κ rk (sFor it tg s) (sForP ip tg s') := fun c Z S ρ ρ' er st =>
  .toS er st (hi c Z S ρ ρ' er st) fun v v' S1 Z1 x s1 q => by
    obtain ⟨e, q⟩ := q
    rw [e]
    exact forP_ok ht h (er.mono st x) s1 q
/-- what is walked -/
def itemsP (v : Val) : Option (List Val) := match v with
  | .tup xs => some xs | .lst xs => some xs | .fz xs => some xs | _ => none
def iSeqP (f : EM) : IP := fun ρ S => (f ρ S).bind fun v S1 => match itemsP v with
  | some xs => .ok xs S1
  | none => .st
theorem li_seq (h : LE RV κ e p) : LI κ (iSeq e) (iSeqP p) := fun c Z S ρ ρ' er st => (h c Z S ρ ρ' S.next er st (Nat.le_refl _)).bind fun v v' S1 Z1 x s1 q => by
  obtain rfl : v = v' := q
  cases v <;> first | (exact .ok s1 ⟨rfl, .inl fun _ => trivial⟩) | trivial
/-- a list lent by the caller -/
theorem li_seqF (i : Nat) (hi : κ[i]? = some .f) : LI κ (iSeq (eVar i)) (iSeqP (eVar i)) := fun c Z S ρ ρ' er st => by
  unfold iSeq iSeqP
  rw [eVar_lk, eVar_lk]
  rcases er.rel i _ hi with h | ⟨k, u, e1, e2, h⟩
  · rw [h]
    cases lk ρ' i with
    | none => trivial
    | some v => cases v <;> first | (exact .ok st ⟨rfl, .inl fun _ => trivial⟩) | trivial
  · rw [e1, e2]
    have l := h.lt st
    obtain ⟨f, o, h1, h2⟩ := h
    have us1 : us (lk ρ i) (lk ρ' i) k := ⟨e1, u, e2, isO_of h2⟩
    cases o with
    | lst xs =>
      cases h2
      show Sim c S S.next (RI κ ρ ρ') (seqIt (.loc k) S) (.ok xs Z)
      unfold seqIt
      dsimp only
      rw [h1]
      refine .ok st ⟨rfl, .inr ⟨k, _, l, f, fun ⟨j, kd, a, b, q⟩ => ?_, h1, fun _ h => h⟩⟩
      by_cases hj : j = i
      · subst hj; rw [hi] at a; cases a; cases b
      · exact er.na j i _ k hj a b q us1
    | dk lk ks vs => cases lk <;> cases h2; trivial
    | dt lk ks vs => cases lk <;> cases h2; trivial
    | ins c vs => cases h2; trivial
end
end PM

/-! PP, part d: defs, calls, lists, comprehensions -/
namespace PM
open PySem PySem.Spec L2
/-- a def: its parameters' kinds, what it hands out -/
def LF (κ : List Kd) (rk : RK) (F G : FM) : Prop := ∀ c Z S vs vs', EvR κ c S (vs.map some) (vs'.map some) → St c Z S → match G vs' Z with
  | .ok v' Z1 => ∃ v S1, F vs S = .ok v S1 ∧ SF κ c (vs.map some) (vs'.map some) S S1 ∧ St c Z1 S1 ∧ RR rk κ c S (vs.map some) (vs'.map some) S1 v v'
  | .ex i es Z1 => ∃ S1, F vs S = .ex i es S1 ∧ SF κ c (vs.map some) (vs'.map some) S S1 ∧ St c Z1 S1
  | .st => True
def runBP (i : Nat) (N : Nat) (b : SM) : FM := fun vs S => match b (vs.map Option.some ++ List.replicate (N - vs.length) none) S with
  | .nx ρ S' => (match lk ρ i with | some u => .ok (.tup [.non, u]) S' | none => .st)
  | .rt v S' => .ok v S'
  | .ex c vs _ S' => .ex c vs S'
  | _ => .st
theorem lk_app {a b : Ev} {i : Nat} : lk (a ++ b) i = if i < a.length then lk a i else lk b (i - a.length) := by
  rw [lk_get, lk_get, lk_get]
  by_cases h : i < a.length
  · rw [if_pos h, List.getElem?_append_left h]
  · rw [if_neg h, List.getElem?_append_right (by omega)]
theorem lk_rep {n i : Nat} : lk (List.replicate n none) i = none := by
  rw [lk_get, List.getElem?_replicate]; split <;> rfl
theorem EvR.ext {κ κ2 : List Kd} {c : Cs} {S : Sto} {a a' : Ev} {n : Nat} (h : EvR κ c S a a') (hn : κ2.length = n) : EvR (κ ++ κ2) c S (a ++ List.replicate n none) (a' ++ List.replicate n none) := by
  refine ⟨by simp [h.len, hn], by simp [h.len', hn], fun i kd e => ?_, fun i j kd k hne e o u => ?_⟩
  · rw [lk_app, lk_app, h.len, h.len']
    by_cases l : i < κ.length
    · rw [if_pos l, if_pos l]
      rw [List.getElem?_append_left l] at e
      exact h.rel i kd e
    · rw [if_neg l, if_neg l, lk_rep]
      cases kd <;> first | exact rfl | exact .inl rfl | exact .inl ⟨rfl, .inl rfl⟩
  · rw [lk_app, lk_app, h.len, h.len'] at u
    by_cases l : i < κ.length
    · rw [if_pos l, if_pos l] at u
      rw [List.getElem?_append_left l] at e
      rw [lk_app, lk_app, h.len, h.len']
      by_cases l2 : j < κ.length
      · rw [if_pos l2, if_pos l2]; exact h.na i j kd k hne e o u
      · rw [if_neg l2, if_neg l2, lk_rep]; exact not_us_same
    · rw [if_neg l, if_neg l, lk_rep] at u; exact (not_us_same u).elim
theorem us_none {k : Nat} : ¬ us none none k := not_us_same
theorem ownk_ext {κ κ2 : List Kd} {a a' : Ev} {n k : Nat} (l : a.length = κ.length) (l' : a'.length = κ.length) (h : ownk (κ ++ κ2) (a ++ List.replicate n none) (a' ++ List.replicate n none) k) : ownk κ a a' k := by
  obtain ⟨i, kd, e, o, u⟩ := h
  rw [lk_app, lk_app, l, l'] at u
  by_cases q : i < κ.length
  · rw [if_pos q, if_pos q] at u
    rw [List.getElem?_append_left q] at e
    exact ⟨i, kd, e, o, u⟩
  · rw [if_neg q, if_neg q, lk_rep] at u; exact (not_us_same u).elim
theorem SF.ext {κ κ2 : List Kd} {c : Cs} {a a' : Ev} {n : Nat} {S S1 : Sto} (l : a.length = κ.length) (l' : a'.length = κ.length) (h : SF (κ ++ κ2) c (a ++ List.replicate n none) (a' ++ List.replicate n none) S S1) : SF κ c a a' S S1 :=
  ⟨h.le, fun k q f o => h.eq k q f fun z => o (ownk_ext l l' z)⟩
theorem RR.ext {rk : RK} {κ κ2 : List Kd} {c : Cs} {a a' : Ev} {n : Nat} {S S1 : Sto} {v v' : Val} (l : a.length = κ.length) (l' : a'.length = κ.length) (hp : ∀ i, rk = .p i → i < κ.length) (h : RR rk (κ ++ κ2) c S (a ++ List.replicate n none) (a' ++ List.replicate n none) S1 v v') : RR rk κ c S a a' S1 v v' := by
  cases rk with
  | v => exact h
  | f =>
    obtain ⟨k, h1, h2, h3⟩ := h
    exact ⟨k, h1, h2.imp (ownk_ext l l') id, h3⟩
  | p i =>
    obtain ⟨k, u, h1, h2, h3, h4⟩ := h
    have hi := hp i rfl
    rw [List.getElem?_append_left hi] at h1
    rw [lk_app, l, if_pos hi] at h2
    exact ⟨k, u, h1, h2, h3, h4⟩
theorem map_len {vs : List Val} {κ : List Kd} (h : (vs.map some).length = κ.length) : vs.length = κ.length := by simpa using h
theorem lf_of {κ κ2 : List Kd} {N : Nat} {b b' : SM} (hN : N = κ.length + κ2.length) (h : LS (κ ++ κ2) .v b b') : LF κ .v (runB N b) (runB N b') := fun c Z S vs vs' er st => by
  have e2 : N - vs.length = κ2.length := by have := map_len er.len; omega
  have e3 : N - vs'.length = κ2.length := by have := map_len er.len'; omega
  unfold runB
  rw [e2, e3]
  have := h c Z S _ _ (er.ext (κ2 := κ2) rfl) st
  revert this
  cases b' (vs'.map some ++ List.replicate κ2.length none) Z with
  | st => intro _; trivial
  | nx ρ' Z1 => rintro ⟨ρ1, S1, c1, e, q⟩; rw [e]; exact ⟨_, S1, rfl, q.sf.ext er.len er.len', q.st.down q.cx, rfl⟩
  | rt v' Z1 => rintro ⟨v, S1, c1, e, sf, cx, s1, q⟩; rw [e]; exact ⟨_, S1, rfl, sf.ext er.len er.len', s1.down cx, q⟩
  | ex i es ρ' Z1 => rintro ⟨ρ1, S1, c1, e, q⟩; rw [e]; exact ⟨S1, rfl, q.sf.ext er.len er.len', q.st.down q.cx⟩
  | bk => intro _; trivial
  | ct => intro _; trivial
theorem VL.down {c c1 : Cs} {S S1 : Sto} {k : Nat} {u : Val} (x : CX c S c1) (h : VL c1 S1 k u) : VL c S1 k u := ⟨x.down h.1, h.2⟩
/-- .. a def that hands out a new object -/
theorem lf_ofF {κ κ2 : List Kd} {N : Nat} {b b' : SM} (hN : N = κ.length + κ2.length) (hb : ∀ ρ Z ρ' Z', b' ρ Z ≠ .nx ρ' Z') (h : LS (κ ++ κ2) .f b b') : LF κ .f (runB N b) (runB N b') := fun c Z S vs vs' er st => by
  have e2 : N - vs.length = κ2.length := by have := map_len er.len; omega
  have e3 : N - vs'.length = κ2.length := by have := map_len er.len'; omega
  unfold runB
  rw [e2, e3]
  have := h c Z S _ _ (er.ext (κ2 := κ2) rfl) st
  revert this
  cases e : b' (vs'.map some ++ List.replicate κ2.length none) Z with
  | st => intro _; trivial
  | nx ρ' Z1 => exact absurd e (hb _ _ _ _)
  | rt v' Z1 =>
    rintro ⟨v, S1, c1, e, sf, cx, s1, q⟩
    rw [e]
    obtain ⟨k, h1, h2, h3⟩ := q
    exact ⟨_, S1, rfl, sf.ext er.len er.len', s1.down cx, k, h1, h2.imp (ownk_ext er.len er.len') id, h3.down cx⟩
  | ex i es ρ' Z1 => rintro ⟨ρ1, S1, c1, e, q⟩; rw [e]; exact ⟨S1, rfl, q.sf.ext er.len er.len', q.st.down q.cx⟩
  | bk => intro _; trivial
  | ct => intro _; trivial
/-- .. a def that changes a parameter -/
theorem lf_ofP {κ κ2 : List Kd} {N i : Nat} {b b' : SM} (hN : N = κ.length + κ2.length) (hi : κ[i]? = some .p) (h : LS (κ ++ κ2) (.p i) b b') : LF κ (.p i) (runB N b) (runBP i N b') := fun c Z S vs vs' er st => by
  have e2 : N - vs.length = κ2.length := by have := map_len er.len; omega
  have e3 : N - vs'.length = κ2.length := by have := map_len er.len'; omega
  have il := get_lt hi
  unfold runB runBP
  rw [e2, e3]
  have := h c Z S _ _ (er.ext (κ2 := κ2) rfl) st
  revert this
  cases b' (vs'.map some ++ List.replicate κ2.length none) Z with
  | st => intro _; trivial
  | nx ρ' Z1 =>
    rintro ⟨ρ1, S1, c1, e, q⟩
    rw [e]
    have hi2 : (κ ++ κ2)[i]? = some .p := by rw [List.getElem?_append_left il]; exact hi
    have r := q.ev.rel i _ hi2
    dsimp only
    cases eu : lk ρ' i with
    | none => trivial
    | some u =>
      rw [eu] at r
      rcases r with ⟨r, _⟩ | ⟨k, w, r1, r2, r3⟩
      · cases r
      · cases r2
        have r4 := q.ef.pa i hi2
        rw [lk_app, er.len, if_pos il] at r4
        exact ⟨_, S1, rfl, q.sf.ext er.len er.len', q.st.down q.cx, k, _, hi, r4.symm.trans r1, rfl, r3.down q.cx⟩
  | rt v' Z1 =>
    rintro ⟨v, S1, c1, e, sf, cx, s1, k, u, q1, q2, q3, q4⟩
    rw [e]
    rw [lk_app, er.len, if_pos il] at q2
    exact ⟨_, S1, rfl, sf.ext er.len er.len', s1.down cx, k, u, hi, q2, q3, q4.down cx⟩
  | ex i es ρ' Z1 => rintro ⟨ρ1, S1, c1, e, q⟩; rw [e]; exact ⟨S1, rfl, q.sf.ext er.len er.len', q.st.down q.cx⟩
  | bk => intro _; trivial
  | ct => intro _; trivial
/-! ### arguments -/
inductive ArgR (c : Cs) (S : Sto) : List Kd → List Val → List Val → Prop
  | nil : ArgR c S [] [] []
  | cons {kd : Kd} {κ : List Kd} {v v' : Val} {vs vs' : List Val} : kd.own = false → SlR c S kd (some v) (some v') → ArgR c S κ vs vs' → ArgR c S (kd :: κ) (v :: vs) (v' :: vs')
theorem ArgR.mono {c : Cs} {Z S S1 : Sto} (s : St c Z S) (x : XF c S S1) : ∀ {κ : List Kd} {vs vs' : List Val}, ArgR c S κ vs vs' → ArgR c S1 κ vs vs'
  | _, _, _, .nil => .nil
  | _, _, _, .cons o a b => .cons o (a.mono s fun _ _ q => q.mono s x) (b.mono s x)
theorem ArgR.own {c : Cs} {S : Sto} : ∀ {κ : List Kd} {vs vs' : List Val}, ArgR c S κ vs vs' → ∀ (i : Nat) (kd : Kd), κ[i]? = some kd → kd.own = false
  | _, _, _, .nil, _, _, e => by simp at e
  | _, _, _, .cons o _ _, 0, _, e => by simp at e; subst e; exact o
  | _, _, _, .cons _ _ b, i + 1, _, e => b.own i _ (by simpa using e)
theorem ArgR.len {c : Cs} {S : Sto} : ∀ {κ : List Kd} {vs vs' : List Val}, ArgR c S κ vs vs' → vs.length = κ.length ∧ vs'.length = κ.length
  | _, _, _, .nil => ⟨rfl, rfl⟩
  | _, _, _, .cons _ _ b => ⟨congrArg (· + 1) b.len.1, congrArg (· + 1) b.len.2⟩
theorem ArgR.rel {c : Cs} {S : Sto} : ∀ {κ : List Kd} {vs vs' : List Val}, ArgR c S κ vs vs' → ∀ (i : Nat) (kd : Kd), κ[i]? = some kd → SlR c S kd (lk (vs.map some) i) (lk (vs'.map some) i)
  | _, _, _, .nil, _, _, e => by simp at e
  | _, _, _, .cons _ a _, 0, _, e => by simp at e; subst e; exact a
  | _, _, _, .cons _ _ b, i + 1, _, e => b.rel i _ (by simpa using e)
theorem ArgR.ev {c : Cs} {S : Sto} {κ : List Kd} {vs vs' : List Val} (h : ArgR c S κ vs vs') : EvR κ c S (vs.map some) (vs'.map some) :=
  ⟨by simp [h.len.1], by simp [h.len.2], h.rel, fun i j kd k _ e o _ => by rw [h.own i kd e] at o; cases o⟩
theorem ArgR.noown {c : Cs} {S : Sto} {κ : List Kd} {vs vs' : List Val} (h : ArgR c S κ vs vs') {a a' : Ev} {k : Nat} : ¬ ownk κ a a' k := fun ⟨i, kd, e, o, _⟩ => by rw [h.own i kd e] at o; cases o
theorem SF.xf {c : Cs} {S S1 : Sto} {κ : List Kd} {vs vs' : List Val} (h : ArgR c S κ vs vs') {a a' : Ev} (f : SF κ c a a' S S1) : XF c S S1 := ⟨f.le, fun k l q => f.eq k l q h.noown⟩
def RA (κp : List Kd) : RelK (List Val) (List Val) := fun c _ S vs vs' => ArgR c S κp vs vs'
section
variable {κ κp : List Kd} {e p : EM} {r r' : AM} {F G : FM} {n i c0 : Nat}
theorem lr_nil : LE (RA []) κ aNil aNil := fun c Z S ρ ρ' n er s hn => .ok s .nil
theorem lr_s (he : LE RV κ e p) (hr : LE (RA κp) κ r r') : LE (RA (.s :: κp)) κ (aCons e r) (aCons p r') := fun c Z S ρ ρ' n er s hn =>
  (he c Z S ρ ρ' n er s hn).bind fun v v' S1 Z1 x1 s1 q1 => (hr c Z1 S1 ρ ρ' n (er.mono s x1) s1 (Nat.le_trans hn x1.le)).bind fun w w' S2 Z2 x2 s2 q2 => by
    obtain rfl : v = v' := q1
    exact .ok s2 (.cons rfl rfl q2)
theorem VQ.slf {c : Cs} {S : Sto} {v v' : Val} (h : VQ c S v v') : SlR c S .f (some v) (some v') := by
  rcases h with rfl | ⟨k, rfl, h⟩
  · exact .inl rfl
  · exact .inr ⟨k, v', rfl, rfl, h⟩
theorem lr_f (he : LE RQ κ e p) (hr : LE (RA κp) κ r r') : LE (RA (.f :: κp)) κ (aCons e r) (aCons p r') := fun c Z S ρ ρ' n er s hn =>
  (he c Z S ρ ρ' n er s hn).bind fun v v' S1 Z1 x1 s1 q1 => (hr c Z1 S1 ρ ρ' n (er.mono s x1) s1 (Nat.le_trans hn x1.le)).bind fun w w' S2 Z2 x2 s2 q2 =>
    .ok s2 (.cons rfl (VQ.mono s1 x2 q1).slf q2)
/-- a cell -/
theorem lr_c (i : Nat) (hi : κ[i]? = some .c) (hr : LE (RA κp) κ r r') : LE (RA (.c :: κp)) κ (aCons (eVar i) r) (aCons (eVar i) r') := fun c Z S ρ ρ' n er s hn => by
  unfold aCons
  rw [eVar_lk, eVar_lk]
  have := er.rel i _ hi
  cases e : lk ρ' i with
  | none => trivial
  | some v' =>
    rcases this with ⟨h, _⟩ | ⟨j, k, e1, e2, h⟩
    · rw [e] at h; cases h
    · rw [e] at e2; cases e2
      rw [e1]
      show Sim c S n _ ((r ρ S).bind _) ((r' ρ' Z).bind _)
      exact (hr c Z S ρ ρ' n er s hn).bind fun w w' S2 Z2 x2 s2 q2 => .ok s2 (.cons rfl (.inr ⟨j, k, rfl, rfl, h⟩) q2)
/-- a call's answer -/
theorem lf_sim {c : Cs} {Z S : Sto} {m : Nat} {vs vs' : List Val} (h : LF κp .v F G) (a : ArgR c S κp vs vs') (s : St c Z S) : Sim c S m RV (F vs S) (G vs' Z) := by
  have := h c Z S vs vs' a.ev s
  revert this
  cases G vs' Z with
  | st => intro _; trivial
  | ok v' Z1 => rintro ⟨v, S1, e, sf, s1, q⟩; exact ⟨v, S1, e, sf.xf a, s1, q⟩
  | ex i es Z1 => rintro ⟨S1, e, sf, s1⟩; exact ⟨S1, e, sf.xf a, s1⟩
theorem lf_simF {c : Cs} {Z S : Sto} {m : Nat} {vs vs' : List Val} (h : LF κp .f F G) (a : ArgR c S κp vs vs') (s : St c Z S) (hm : m ≤ S.next) : Sim c S m RF (F vs S) (G vs' Z) := by
  have := h c Z S vs vs' a.ev s
  revert this
  cases G vs' Z with
  | st => intro _; trivial
  | ok v' Z1 =>
    rintro ⟨v, S1, e, sf, s1, k, rfl, q, q2⟩
    refine ⟨_, S1, e, sf.xf a, s1, k, rfl, ?_, q2⟩
    rcases q with q | q
    · exact (a.noown q).elim
    · exact Nat.le_trans hm q
  | ex i es Z1 => rintro ⟨S1, e, sf, s1⟩; exact ⟨S1, e, sf.xf a, s1⟩
theorem le_call (h : LF κp .v F G) (ha : LE (RA κp) κ r r') : LE RV κ (eCallN n F r) (eCallN n G r') := fun c Z S ρ ρ' m er s hn =>
  (ha c Z S ρ ρ' m er s hn).bind fun vs vs' S1 Z1 x1 s1 q1 => by
    by_cases l : vs'.length = n
    · rw [if_pos l, if_pos (by rw [q1.len.1, ← q1.len.2]; exact l)]; exact (lf_sim h q1 s1).noEx
    · rw [if_neg l]; trivial
theorem le_callX (h : LF κp .v F G) (ha : LE (RA κp) κ r r') : LE RV κ (eCallXN n F r) (eCallXN n G r') := fun c Z S ρ ρ' m er s hn =>
  (ha c Z S ρ ρ' m er s hn).bind fun vs vs' S1 Z1 x1 s1 q1 => by
    by_cases l : vs'.length = n
    · rw [if_pos l, if_pos (by rw [q1.len.1, ← q1.len.2]; exact l)]; exact lf_sim h q1 s1
    · rw [if_neg l]; trivial
theorem le_callF (h : LF κp .f F G) (ha : LE (RA κp) κ r r') : LE RF κ (eCallN n F r) (eCallN n G r') := fun c Z S ρ ρ' m er s hn =>
  (ha c Z S ρ ρ' m er s hn).bind fun vs vs' S1 Z1 x1 s1 q1 => by
    by_cases l : vs'.length = n
    · rw [if_pos l, if_pos (by rw [q1.len.1, ← q1.len.2]; exact l)]; exact (lf_simF h q1 s1 (Nat.le_trans hn x1.le)).noEx
    · rw [if_neg l]; trivial
theorem le_callXF (h : LF κp .f F G) (ha : LE (RA κp) κ r r') : LE RF κ (eCallXN n F r) (eCallXN n G r') := fun c Z S ρ ρ' m er s hn =>
  (ha c Z S ρ ρ' m er s hn).bind fun vs vs' S1 Z1 x1 s1 q1 => by
    by_cases l : vs'.length = n
    · rw [if_pos l, if_pos (by rw [q1.len.1, ← q1.len.2]; exact l)]; exact lf_simF h q1 s1 (Nat.le_trans hn x1.le)
    · rw [if_neg l]; trivial
/-! ### attributes, methods -/
def eAttrP (c i : Nat) (o : EM) : EM := fun ρ S => (o ρ S).bind fun v S1 => match insOf Z0 v with
  | some (c', vs) => if c' = c then vr vs[i]? S1 else .st
  | none => .st
theorem le_attr (ho : LE RQ κ e p) : LE RV κ (eAttr c0 i e) (eAttrP c0 i p) := fun c Z S ρ ρ' m er s hn =>
  (ho c Z S ρ ρ' m er s hn).bind fun v v' S1 Z1 x1 s1 q1 => by
    cases q : insOf Z0 v' with
    | none => trivial
    | some w =>
      obtain ⟨c', vs⟩ := w
      rw [ins_q q1 q]
      dsimp only
      by_cases hc : c' = c0
      · rw [if_pos hc, if_pos hc]
        cases vs[i]? with
        | none => trivial
        | some u => exact .ok s1 rfl
      · rw [if_neg hc, if_neg hc]; trivial
def eMethP (n c : Nat) (F : FM) (o : EM) (a : AM) : EM := fun ρ S => (o ρ S).bind fun v S1 => if isInst c Z0 v then (a ρ S1).bind fun vs S2 => if (v :: vs).length = n then noEx (F (v :: vs) S2) else .st else .st
def eMethXP (n c : Nat) (F : FM) (o : EM) (a : AM) : EM := fun ρ S => (o ρ S).bind fun v S1 => if isInst c Z0 v then (a ρ S1).bind fun vs S2 => if (v :: vs).length = n then F (v :: vs) S2 else .st else .st
theorem inst_q {c : Cs} {S : Sto} {v v' : Val} (h : VQ c S v v') (e : isInst c0 Z0 v' = true) : isInst c0 S v = true := by
  unfold isInst at e ⊢
  cases q : insOf Z0 v' with
  | none => rw [q] at e; cases e
  | some w => rw [ins_q h q]; rw [q] at e; exact e
theorem sim_guard {α β : Type} {c : Cs} {S : Sto} {m : Nat} {R : RelK α β} {b b' : Bool} {r : Res α} {r' : Res β} (h : b' = true → b = true) (q : Sim c S m R r r') : Sim c S m R (if b then r else .st) (if b' then r' else .st) := by
  cases b' with
  | false => trivial
  | true => rw [h rfl]; exact q
theorem le_meth (h : LF (.f :: κp) .v F G) (ho : LE RQ κ e p) (ha : LE (RA κp) κ r r') : LE RV κ (eMethN n c0 F e r) (eMethP n c0 G p r') := fun c Z S ρ ρ' m er s hn =>
  (ho c Z S ρ ρ' m er s hn).bind fun v v' S1 Z1 x1 s1 q1 => sim_guard (inst_q q1) <| (ha c Z1 S1 ρ ρ' m (er.mono s x1) s1 (Nat.le_trans hn x1.le)).bind fun vs vs' S2 Z2 x2 s2 q2 => by
    by_cases l : (v' :: vs').length = n
    · rw [if_pos l, if_pos (by rw [← l]; simp [q2.len.1, q2.len.2])]; exact (lf_sim h (.cons rfl (VQ.mono s1 x2 q1).slf q2) s2).noEx
    · rw [if_neg l]; trivial
theorem le_methX (h : LF (.f :: κp) .v F G) (ho : LE RQ κ e p) (ha : LE (RA κp) κ r r') : LE RV κ (eMethXN n c0 F e r) (eMethXP n c0 G p r') := fun c Z S ρ ρ' m er s hn =>
  (ho c Z S ρ ρ' m er s hn).bind fun v v' S1 Z1 x1 s1 q1 => sim_guard (inst_q q1) <| (ha c Z1 S1 ρ ρ' m (er.mono s x1) s1 (Nat.le_trans hn x1.le)).bind fun vs vs' S2 Z2 x2 s2 q2 => by
    by_cases l : (v' :: vs').length = n
    · rw [if_pos l, if_pos (by rw [← l]; simp [q2.len.1, q2.len.2])]; exact lf_sim h (.cons rfl (VQ.mono s1 x2 q1).slf q2) s2
    · rw [if_neg l]; trivial
theorem le_methF (h : LF (.f :: κp) .f F G) (ho : LE RQ κ e p) (ha : LE (RA κp) κ r r') : LE RF κ (eMethN n c0 F e r) (eMethP n c0 G p r') := fun c Z S ρ ρ' m er s hn =>
  (ho c Z S ρ ρ' m er s hn).bind fun v v' S1 Z1 x1 s1 q1 => sim_guard (inst_q q1) <| (ha c Z1 S1 ρ ρ' m (er.mono s x1) s1 (Nat.le_trans hn x1.le)).bind fun vs vs' S2 Z2 x2 s2 q2 => by
    by_cases l : (v' :: vs').length = n
    · rw [if_pos l, if_pos (by rw [← l]; simp [q2.len.1, q2.len.2])]; exact (lf_simF h (.cons rfl (VQ.mono s1 x2 q1).slf q2) s2 (Nat.le_trans hn (x1.trans x2).le)).noEx
    · rw [if_neg l]; trivial
theorem le_methXF (h : LF (.f :: κp) .f F G) (ho : LE RQ κ e p) (ha : LE (RA κp) κ r r') : LE RF κ (eMethXN n c0 F e r) (eMethXP n c0 G p r') := fun c Z S ρ ρ' m er s hn =>
  (ho c Z S ρ ρ' m er s hn).bind fun v v' S1 Z1 x1 s1 q1 => sim_guard (inst_q q1) <| (ha c Z1 S1 ρ ρ' m (er.mono s x1) s1 (Nat.le_trans hn x1.le)).bind fun vs vs' S2 Z2 x2 s2 q2 => by
    by_cases l : (v' :: vs').length = n
    · rw [if_pos l, if_pos (by rw [← l]; simp [q2.len.1, q2.len.2])]; exact lf_simF h (.cons rfl (VQ.mono s1 x2 q1).slf q2) s2 (Nat.le_trans hn (x1.trans x2).le)
    · rw [if_neg l]; trivial
/-! ### a new instance -/
def mkP (r : Res Val) : Res Val := match r with
  | .ok (.tup [.non, u]) Z => .ok u Z
  | .ok _ _ => .st
  | .ex c vs Z => .ex c vs Z
  | .st => .st
def eMakeP (n c : Nat) (G : FM) (a : AM) : EM := fun ρ S => (a ρ S).bind fun vs S1 => if vs.length + 1 = n then mkP (noEx (G (.ins c [] :: vs) S1)) else .st
def eMakeXP (n c : Nat) (G : FM) (a : AM) : EM := fun ρ S => (a ρ S).bind fun vs S1 => if vs.length + 1 = n then mkP (G (.ins c [] :: vs) S1) else .st
theorem mk_sim {c : Cs} {Z S : Sto} {m : Nat} {vs vs' : List Val} (h : LF (.p :: κp) (.p 0) F G) (a : ArgR c S κp vs vs') (s : St c Z S) (hm : m ≤ S.next) :
    Sim c S m RF ((F (.loc S.next :: vs) (S.alloc (.ins c0 []))).bind fun r S2 => match r with
      | .non => .ok (.loc S.next) S2
      | _ => .st) (mkP (G (.ins c0 [] :: vs') Z)) := by
  have fr : Free c S.next := fun p hp e => by
    obtain ⟨o, _, h⟩ := s.cr p hp
    have := s.wf _ _ h
    omega
  obtain ⟨_, _, e0, x, s1, k, e, _, vl⟩ := new_ok (o := .ins c0 []) (u := .ins c0 []) (n := S.next) s (Nat.le_refl _) rfl
  cases e0
  cases e
  have a1 := a.mono s x
  have ev : EvR (.p :: κp) c (S.alloc (.ins c0 [])) ((Val.loc S.next :: vs).map some) ((Val.ins c0 [] :: vs').map some) := by
    refine ⟨by simp [a.len.1], by simp [a.len.2], fun i kd e => ?_, fun i j kd k hne e o u => ?_⟩
    · cases i with
      | zero => simp at e; subst e; exact .inr ⟨_, _, rfl, rfl, vl⟩
      | succ i => exact a1.rel i kd (by simpa using e)
    · cases i with
      | zero =>
        cases j with
        | zero => exact absurd rfl hne
        | succ j =>
          intro u2
          obtain ⟨q, _⟩ := u
          cases q
          have := (a.ev.us_vl (j := j) u2).lt s
          omega
      | succ i => rw [a.own i kd (by simpa using e)] at o; cases o
  have := h c Z _ _ _ ev s1
  revert this
  have xf : ∀ {S2 : Sto}, SF (.p :: κp) c ((Val.loc S.next :: vs).map some) ((Val.ins c0 [] :: vs').map some) (S.alloc (.ins c0 [])) S2 → XF c S S2 := fun {S2} f =>
    ⟨Nat.le_trans x.le f.le, fun k l q => (f.eq k (Nat.lt_of_lt_of_le l x.le) q fun ⟨i, kd, e, o, u⟩ => by
      cases i with
      | zero =>
        obtain ⟨q, _⟩ := u
        cases q; omega
      | succ i => rw [a.own i kd (by simpa using e)] at o; cases o).trans (x.eq k l q)⟩
  cases G (.ins c0 [] :: vs') Z with
  | st => intro _; trivial
  | ex i es Z1 => rintro ⟨S1, e, sf, s1⟩; rw [e]; exact ⟨S1, rfl, xf sf, s1⟩
  | ok v' Z1 =>
    rintro ⟨v, S2, e, sf, s2, k, u, q1, q2, rfl, q3⟩
    rw [e]
    cases q2
    cases v with
    | non => exact ⟨_, S2, rfl, xf sf, s2, S.next, rfl, hm, q3⟩
    | _ => trivial
theorem noEx_bind {α β : Type} {r : Res α} {g : α → Sto → Res β} {c : Cs} {S : Sto} {m : Nat} {R : RelK β Val} {r' : Res Val} (h : Sim c S m R (r.bind g) (mkP r')) : Sim c S m R ((noEx r).bind g) (mkP (noEx r')) := by
  cases r' with
  | st => trivial
  | ex => trivial
  | ok v Z =>
    show Sim c S m R _ (mkP (.ok v Z))
    cases r with
    | ok => exact h
    | ex i es S1 =>
      revert h
      cases e : mkP (.ok v Z) with
      | st => intro _; trivial
      | ok => rintro ⟨_, _, h, _⟩; cases h
      | ex => unfold mkP at e; split at e <;> first | (cases e; done) | (rename_i q; cases q; done)
    | st => exact h
theorem le_make (h : LF (.p :: κp) (.p 0) F G) (ha : LE (RA κp) κ r r') : LE RF κ (eMakeN n c0 F r) (eMakeP n c0 G r') := fun c Z S ρ ρ' m er s hn =>
  (ha c Z S ρ ρ' m er s hn).bind fun vs vs' S1 Z1 x1 s1 q1 => by
    by_cases l : vs'.length + 1 = n
    · rw [if_pos l, if_pos (by rw [← l]; simp [q1.len.1, q1.len.2])]; exact noEx_bind (mk_sim h q1 s1 (Nat.le_trans hn x1.le))
    · rw [if_neg l]; trivial
theorem le_makeX (h : LF (.p :: κp) (.p 0) F G) (ha : LE (RA κp) κ r r') : LE RF κ (eMakeXN n c0 F r) (eMakeXP n c0 G r') := fun c Z S ρ ρ' m er s hn =>
  (ha c Z S ρ ρ' m er s hn).bind fun vs vs' S1 Z1 x1 s1 q1 => by
    by_cases l : vs'.length + 1 = n
    · rw [if_pos l, if_pos (by rw [← l]; simp [q1.len.1, q1.len.2])]; exact mk_sim h q1 s1 (Nat.le_trans hn x1.le)
    · rw [if_neg l]; trivial
/-- a new object handed out for good -/
theorem le_frz (h : LE RF κ e p) : LE RV κ (eFrz e) p := fun c Z S ρ ρ' m er s hn => by
  have := h c Z S ρ ρ' S.next er s (Nat.le_refl _)
  unfold eFrz
  revert this
  cases p ρ' Z with
  | st => intro _; trivial
  | ex i es Z1 => rintro ⟨S1, e, x, s1⟩; rw [e]; exact ⟨S1, rfl, x, s1⟩
  | ok v' Z1 =>
    rintro ⟨v, S1, e, x, s1, k, rfl, hk, q⟩
    rw [e]
    show Sim c S m RV (giveUp (.loc k) S1) _
    rw [giveUp_vl q]
    exact ⟨_, _, rfl, ⟨x.le, fun j l f => by rw [drop_ne (by omega)]; exact x.eq j l f⟩, s1.drop q.1, rfl⟩
/-! ### self.x = e -/
def sAttrP (c i j : Nat) (e : EM) : SM := fun ρ S => (e ρ S).toS ρ fun u S1 => match lk ρ j with
  | some (.ins c' vs) => if c' = c then (if i < vs.length then .nx (ρ.set j (some (.ins c (vs.set i u)))) S1 else if i = vs.length then .nx (ρ.set j (some (.ins c (vs ++ [u])))) S1 else .st) else .st
  | _ => .st
/-- an owned object changes -/
theorem own_put {κ : List Kd} {c : Cs} {Z S : Sto} {ρ ρ' : Ev} {rk : RK} {j k : Nat} {kd : Kd} {u' : Val} {o' : Ob} (er : EvR κ c S ρ ρ') (st : St c Z S) (hj : κ[j]? = some kd) (ho : kd.own = true) (e1 : lk ρ j = some (.loc k)) (hu : us (lk ρ j) (lk ρ' j) k) (h' : obV o' = some u') :
    SSim κ rk c S ρ ρ' (.nx ρ (S.put k o')) (.nx (ρ'.set j (some u')) Z) := by
  have vl := er.us_vl hu
  have kl := vl.lt st
  have l2 : j < ρ'.length := by rw [er.len']; exact get_lt hj
  have st' : St c Z (S.put k o') := by
    refine ⟨fun p hp => ?_, st.inj, fun q o h => ?_, st.wz⟩
    · obtain ⟨o, h1, h2⟩ := st.cr p hp
      exact ⟨o, h1, by rw [put_ne (vl.1 p hp)]; exact h2⟩
    · by_cases hq : q = k
      · rw [hq]; exact kl
      · rw [put_ne hq] at h; exact st.wf q o h
  have ur : us (lk ρ j) (lk (ρ'.set j (some u')) j) k := ⟨e1, u', lk_same l2, isO_of h'⟩
  have er' : EvR κ c (S.put k o') ρ (ρ'.set j (some u')) := by
    refine ⟨er.len, by rw [List.length_set]; exact er.len', fun i kd2 e => ?_, fun i i2 kd2 k2 hne e o q => ?_⟩
    · by_cases hi : j = i
      · subst hi
        rw [hj] at e; cases e
        rw [lk_same l2, e1]
        have : VL c (S.put k o') k u' := ⟨vl.1, o', put_at, h'⟩
        cases kd <;> first | (cases ho; done) | exact .inr ⟨k, u', rfl, rfl, this⟩
      · rw [lk_ne hi]
        have q := er.rel i kd2 e
        have keep : ∀ {k2 : Nat} {w : Val}, lk ρ i = some (.loc k2) → lk ρ' i = some w → VL c S k2 w → VL c (S.put k o') k2 w := fun a b ⟨f, o, h1, h2⟩ => ⟨f, o, by
          rw [put_ne fun z => ?_]; exact h1
          subst z
          exact er.na j i kd _ hi hj ho hu ⟨a, _, b, isO_of h2⟩, h2⟩
        cases kd2 with
        | s => exact q
        | c => exact q
        | f => rcases q with q | ⟨k2, w, a, b, q⟩
               · exact .inl q
               · exact .inr ⟨k2, w, a, b, keep a b q⟩
        | o => rcases q with q | ⟨k2, w, a, b, q⟩
               · exact .inl q
               · exact .inr ⟨k2, w, a, b, keep a b q⟩
        | p => rcases q with q | ⟨k2, w, a, b, q⟩
               · exact .inl q
               · exact .inr ⟨k2, w, a, b, keep a b q⟩
    · by_cases hi : j = i
      · subst hi
        obtain ⟨q1, _⟩ := q
        rw [e1] at q1; cases q1
        rw [lk_ne hne]; exact er.na j i2 kd k hne hj ho hu
      · rw [lk_ne hi] at q
        by_cases hi2 : j = i2
        · subst hi2
          intro q2
          obtain ⟨q3, _⟩ := q2
          rw [e1] at q3; cases q3
          exact er.na i j kd2 k hne e o q hu
        · rw [lk_ne hi2]; exact er.na i i2 kd2 k2 hne e o q
  refine ⟨ρ, _, c, rfl, ⟨Nat.le_refl _, fun q _ _ o => put_ne fun z => by subst z; exact o ⟨j, kd, hj, ho, hu⟩⟩, ⟨fun q ⟨i, kd2, e, o, h⟩ => ?_, fun _ _ => rfl⟩, .refl, st', er'⟩
  by_cases hi : j = i
  · subst hi
    obtain ⟨q1, _⟩ := h
    rw [e1] at q1; cases q1
    exact .inl ⟨j, kd, hj, ho, hu⟩
  · rw [lk_ne hi] at h; exact .inl ⟨i, kd2, e, o, h⟩
/-- what an owned slot holds -/
theorem own_at {κ : List Kd} {c : Cs} {S : Sto} {ρ ρ' : Ev} {j : Nat} {kd : Kd} {u : Val} (er : EvR κ c S ρ ρ') (hj : κ[j]? = some kd) (ho : kd.own = true) (e : lk ρ' j = some u) : ∃ k o, lk ρ j = some (.loc k) ∧ us (lk ρ j) (lk ρ' j) k ∧ S.objs k = some o ∧ obV o = some u := by
  have := er.rel j kd hj
  have q : ∃ k w, lk ρ j = some (.loc k) ∧ lk ρ' j = some w ∧ VL c S k w := by
    cases kd <;> first | (cases ho; done) | skip
    all_goals
      rcases this with ⟨h, _⟩ | h
      · rw [e] at h; cases h
      · exact h
  obtain ⟨k, w, h1, h2, _, o, h3, h4⟩ := q
  rw [e] at h2; cases h2
  exact ⟨k, o, h1, ⟨h1, u, e, isO_of h4⟩, h3, h4⟩
theorem ls_attr {rk : RK} {j : Nat} {kd : Kd} (hj : κ[j]? = some kd) (ho : kd.own = true) (h : LE RV κ e p) : LS κ rk (sAttr c0 i (eVar j) e) (sAttrP c0 i j p) := fun c Z S ρ ρ' er st =>
  .toS er st (h c Z S ρ ρ' S.next er st (Nat.le_refl _)) fun v v' S1 Z1 x s1 q => by
    obtain rfl : v = v' := q
    have er1 := er.mono st x
    rw [eVar_lk]
    cases eu : lk ρ' j with
    | none => trivial
    | some u =>
      obtain ⟨k, o, h1, h2, h3, h4⟩ := own_at er1 hj ho eu
      rw [h1]
      cases o with
      | lst xs => cases h4; trivial
      | dk l ks vs => cases l <;> cases h4; trivial
      | dt l ks vs => cases l <;> cases h4; trivial
      | ins c' vs =>
        cases h4
        dsimp only
        show SSim κ rk c S1 ρ ρ' (match S1.objs k with | some (.ins c' vs) => _ | _ => _) _
        rw [h3]
        dsimp only
        by_cases hc : c' = c0
        · rw [if_pos hc, if_pos hc]
          by_cases hi : i < vs.length
          · rw [if_pos hi, if_pos hi]; exact own_put er1 s1 hj ho h1 h2 rfl
          · rw [if_neg hi, if_neg hi]
            by_cases hi2 : i = vs.length
            · rw [if_pos hi2, if_pos hi2]; exact own_put er1 s1 hj ho h1 h2 rfl
            · rw [if_neg hi2, if_neg hi2]; trivial
        · rw [if_neg hc, if_neg hc]; trivial
/-! ### lists that this def owns -/
def lsP (o : Option Val) (f : List Val → SRes) : SRes := match o with
  | some (.lst xs) => f xs
  | _ => .st
def sAppP (j : Nat) (e : EM) : SM := fun ρ S => lsP (lk ρ j) fun xs => (e ρ S).toS ρ fun u S1 => if xs.length < sizeLine then .nx (ρ.set j (some (.lst (xs ++ [u])))) S1 else .st
/-- the receiver first: an owned list -/
theorem bm_own {κ : List Kd} {rk : RK} {c : Cs} {Z S : Sto} {ρ ρ' : Ev} {j : Nat} {kd : Kd} {op : Val → List Val → Sto → Res Val} {a : AM} {r' : SRes} (er : EvR κ c S ρ ρ') (st : St c Z S) (hj : κ[j]? = some kd) (ho : kd.own = true)
    (h : ∀ k xs, lk ρ j = some (.loc k) → us (lk ρ j) (lk ρ' j) k → lk ρ' j = some (.lst xs) → S.objs k = some (.lst xs) → SSim κ rk c S ρ ρ' (((a ρ S).bind fun vs S2 => op (.loc k) vs S2).toS ρ fun _ S1 => .nx ρ S1) r')
    (h0 : (∀ xs, lk ρ' j ≠ some (.lst xs)) → r' = .st) : SSim κ rk c S ρ ρ' (sDrop (eBM isLst op (eVar j) a) ρ S) r' := by
  by_cases hx : ∃ xs, lk ρ' j = some (.lst xs)
  · obtain ⟨xs, hx⟩ := hx
    obtain ⟨k, o, h1, h2, h3, h4⟩ := own_at er hj ho hx
    cases o with
    | lst ys =>
      cases h4
      have := h k xs h1 h2 hx h3
      unfold sDrop eBM
      rw [eVar_lk, h1]
      show SSim κ rk c S ρ ρ' ((if isLst (.loc k) S then _ else _ : Res Val).toS ρ _) r'
      rw [isLst_loc h3, if_pos rfl]
      exact this
    | dk l ks vs => cases l <;> cases h4
    | dt l ks vs => cases l <;> cases h4
    | ins c' vs => cases h4
  · rw [h0 fun xs e => hx ⟨xs, e⟩]; trivial
theorem xf_obj {c : Cs} {S S1 : Sto} {κ : List Kd} {ρ ρ' : Ev} {j k : Nat} {o : Ob} {Z : Sto} (er : EvR κ c S ρ ρ') (st : St c Z S) (x : XF c S S1) (u : us (lk ρ j) (lk ρ' j) k) (h : S.objs k = some o) : S1.objs k = some o := by
  have v := er.us_vl u
  rw [x.eq k (v.lt st) v.1]; exact h
theorem lsP_no {o : Option Val} {f : List Val → SRes} (h : ∀ xs, o ≠ some (.lst xs)) : lsP o f = .st := by
  cases o with
  | none => rfl
  | some v => cases v <;> first | rfl | exact absurd rfl (h _)
theorem toS1 {e : EM} {ρ : Ev} {S : Sto} {op : List Val → Sto → Res Val} {g : Val → Sto → SRes} : ((aCons e aNil ρ S).bind op).toS ρ g = (e ρ S).toS ρ fun u S1 => (op [u] S1).toS ρ g := by
  unfold aCons aNil
  cases e ρ S <;> rfl
theorem ls_app {rk : RK} {j : Nat} {kd : Kd} (hj : κ[j]? = some kd) (ho : kd.own = true) (h : LE RV κ e p) : LS κ rk (sDrop (eBM isLst vAppend (eVar j) (aCons e aNil))) (sAppP j p) := fun c Z S ρ ρ' er st => by
  refine bm_own er st hj ho (fun k xs h1 h2 h3 h4 => ?_) fun hn => lsP_no hn
  unfold sAppP
  rw [h3, toS1]
  refine .toS er st (h c Z S ρ ρ' S.next er st (Nat.le_refl _)) fun v v' S1 Z1 x s1 q => ?_
  obtain rfl : v = v' := q
  unfold vAppend
  dsimp only
  rw [xf_obj er st x h2 h4]
  dsimp only
  by_cases l : xs.length < sizeLine
  · rw [if_pos l, if_pos l]; exact own_put (er.mono st x) s1 hj ho h1 h2 rfl
  · rw [if_neg l, if_neg l]; trivial
def sExtP (j : Nat) (e : EM) : SM := fun ρ S => lsP (lk ρ j) fun xs => (e ρ S).toS ρ fun u S1 => lsP (some u) fun ys => if xs.length + ys.length ≤ sizeLine then .nx (ρ.set j (some (.lst (xs ++ ys)))) S1 else .st
theorem ls_ext {rk : RK} {j : Nat} {kd : Kd} (hj : κ[j]? = some kd) (ho : kd.own = true) (h : LE RQ κ e p) : LS κ rk (sDrop (eBM isLst vExtend (eVar j) (aCons e aNil))) (sExtP j p) := fun c Z S ρ ρ' er st => by
  refine bm_own er st hj ho (fun k xs h1 h2 h3 h4 => ?_) fun hn => lsP_no hn
  unfold sExtP
  rw [h3, toS1]
  refine .toS er st (h c Z S ρ ρ' S.next er st (Nat.le_refl _)) fun v v' S1 Z1 x s1 q => ?_
  unfold vExtend
  dsimp only
  rw [xf_obj er st x h2 h4]
  cases v' with
  | lst ys =>
    have : mlstOf S1 v = some ys := mlst_q q rfl
    rw [this]
    dsimp only
    show SSim κ rk c S1 ρ ρ' _ (if xs.length + ys.length ≤ sizeLine then _ else _)
    by_cases l : xs.length + ys.length ≤ sizeLine
    · rw [if_pos l, if_pos l]; exact own_put (er.mono st x) s1 hj ho h1 h2 rfl
    · rw [if_neg l, if_neg l]; trivial
  | _ => trivial
/-- x[i] = e -/
def sSetIxP (j : Nat) (i e : EM) : SM := fun ρ S => (e ρ S).toS ρ fun u S1 => lsP (lk ρ j) fun xs => (i ρ S1).toS ρ fun w S2 => match w with
  | .int m => (match ixN xs.length m with
    | some n => .nx (ρ.set j (some (.lst (xs.set n u)))) S2
    | none => .st)
  | _ => .st
theorem ls_setIx {rk : RK} {j : Nat} {kd : Kd} {ie ip : EM} (hj : κ[j]? = some kd) (ho : kd.own = true) (hi : LE RV κ ie ip) (h : LE RV κ e p) : LS κ rk (sSetIx (eVar j) ie e) (sSetIxP j ip p) := fun c Z S ρ ρ' er st =>
  .toS er st (h c Z S ρ ρ' S.next er st (Nat.le_refl _)) fun v v' S1 Z1 x s1 q => by
    obtain rfl : v = v' := q
    have er1 := er.mono st x
    rw [eVar_lk]
    by_cases hx : ∃ xs, lk ρ' j = some (.lst xs)
    · obtain ⟨xs, hx⟩ := hx
      obtain ⟨k, o, h1, h2, h3, h4⟩ := own_at er1 hj ho hx
      cases o with
      | lst ys =>
        cases h4
        rw [h1, hx]
        show SSim κ rk c S1 ρ ρ' ((ie ρ S1).toS ρ _) ((ip ρ' Z1).toS ρ' _)
        refine .toS er1 s1 (hi c Z1 S1 ρ ρ' S1.next er1 s1 (Nat.le_refl _)) fun w w' S2 Z2 x2 s2 q2 => ?_
        obtain rfl : w = w' := q2
        have er2 := er1.mono s1 x2
        cases w with
        | int m =>
          unfold setIx
          dsimp only
          rw [xf_obj er1 s1 x2 h2 h3]
          dsimp only
          cases ixN xs.length m with
          | none => trivial
          | some n => exact own_put er2 s2 hj ho h1 h2 rfl
        | _ => trivial
      | dk l ks vs => cases l <;> cases h4
      | dt l ks vs => cases l <;> cases h4
      | ins c' vs => cases h4
    · rw [lsP_no fun xs z => hx ⟨xs, z⟩]; trivial
/-! ### cells -/
/-- x = [..], a cell -/
def sCell (i : Nat) (e : EM) : SM := fun ρ S => (e ρ S).toS ρ fun v S1 => lsP (some v) fun xs => .nx (ρ.set i (some (.loc S1.next))) (S1.alloc (.lst xs))
theorem ls_cell {rk : RK} (i : Nat) (hi : κ[i]? = some .c) (h : LE RF κ e p) : LS κ rk (sSet i e) (sCell i p) := fun c Z S ρ ρ' er st => by
  have := h c Z S ρ ρ' S.next er st (Nat.le_refl _)
  unfold sSet sCell
  revert this
  cases p ρ' Z with
  | st => intro _; trivial
  | ex j vs Z1 => rintro ⟨S1, e2, x, s1⟩; rw [e2]; exact ⟨ρ, S1, c, rfl, .ofX er st x s1⟩
  | ok v' Z1 =>
    rintro ⟨v, S1, e2, x, s1, k, rfl, hk, f, o, h1, h2⟩
    rw [e2]
    cases v' with
    | lst xs =>
      cases o with
      | lst ys =>
        cases h2
        have kl := s1.wf _ _ h1
        have er1 := er.mono st x
        have cx : CX c S ((Z1.next, k) :: c) := ⟨[(Z1.next, k)], rfl, fun p hp => by rw [List.mem_singleton.mp hp]; exact hk⟩
        have l1 : i < ρ.length := by rw [er.len]; exact get_lt hi
        have l2 : i < ρ'.length := by rw [er.len']; exact get_lt hi
        have nk : ∀ {k2 : Nat} {w : Val}, VL c S k2 w → VL ((Z1.next, k) :: c) S1 k2 w := fun {k2 w} vl => by
          have l := vl.lt st
          have vm := vl.mono st x
          refine ⟨fun p hp => ?_, vm.2⟩
          rcases List.mem_cons.mp hp with rfl | hp
          · show k ≠ k2; omega
          · exact vm.1 p hp
        refine ⟨_, S1, _, rfl, x.sf, ?_, cx, ⟨fun p hp => ?_, fun p hp q hq => ?_, s1.wf, fun j o h => ?_⟩, ?_⟩
        · refine ⟨fun k2 ⟨j, kd, e, o, q⟩ => ?_, fun j e => ?_⟩
          · have : i ≠ j := fun h => by subst h; rw [hi] at e; cases e; cases o
            rw [lk_ne this, lk_ne this] at q
            exact .inl ⟨j, kd, e, o, q⟩
          · have : i ≠ j := fun h => by subst h; rw [hi] at e; cases e
            exact lk_ne this
        · rcases List.mem_cons.mp hp with rfl | hp
          · exact ⟨_, alloc_at, h1⟩
          · obtain ⟨o, a1, a2⟩ := s1.cr p hp
            exact ⟨o, by rw [alloc_ne (Nat.ne_of_lt (s1.wz _ _ a1))]; exact a1, a2⟩
        · have old : ∀ p ∈ c, p.1 ≠ Z1.next ∧ p.2 ≠ k := fun p hp => by
            obtain ⟨o, a1, a2⟩ := s1.cr p hp
            exact ⟨Nat.ne_of_lt (s1.wz _ _ a1), f p hp⟩
          rcases List.mem_cons.mp hp with rfl | hp <;> rcases List.mem_cons.mp hq with rfl | hq
          · exact ⟨fun _ => rfl, fun _ => rfl⟩
          · exact ⟨fun z => absurd z.symm (old q hq).1, fun z => absurd z.symm (old q hq).2⟩
          · exact ⟨fun z => absurd z (old p hp).1, fun z => absurd z (old p hp).2⟩
          · exact s1.inj p hp q hq
        · by_cases hj : j = Z1.next
          · rw [hj]; exact Nat.lt_succ_self _
          · rw [alloc_ne hj] at h; exact Nat.lt_succ_of_lt (s1.wz j o h)
        · refine ⟨by rw [List.length_set]; exact er.len, by rw [List.length_set]; exact er.len', fun j kd e => ?_, fun j j2 kd k2 hne e o q => ?_⟩
          · by_cases hj : i = j
            · subst hj
              rw [hi] at e; cases e
              rw [lk_same l1, lk_same l2]
              exact .inr ⟨_, _, rfl, rfl, List.mem_cons_self⟩
            · rw [lk_ne hj, lk_ne hj]
              have q := er.rel j kd e
              cases kd with
              | s => exact q
              | c => rcases q with q | ⟨a, b, q1, q2, q3⟩
                     · exact .inl q
                     · exact .inr ⟨a, b, q1, q2, List.mem_cons_of_mem _ q3⟩
              | f => rcases q with q | ⟨k2, w, a, b, q⟩
                     · exact .inl q
                     · exact .inr ⟨k2, w, a, b, nk q⟩
              | o => rcases q with q | ⟨k2, w, a, b, q⟩
                     · exact .inl q
                     · exact .inr ⟨k2, w, a, b, nk q⟩
              | p => rcases q with q | ⟨k2, w, a, b, q⟩
                     · exact .inl q
                     · exact .inr ⟨k2, w, a, b, nk q⟩
          · by_cases hj : i = j
            · subst hj; rw [hi] at e; cases e; cases o
            · rw [lk_ne hj, lk_ne hj] at q
              by_cases h2 : i = j2
              · subst h2
                rw [lk_same l1, lk_same l2]
                rintro ⟨_, u, z, z2⟩
                cases z; cases z2
              · rw [lk_ne h2, lk_ne h2]; exact er.na j j2 kd k2 hne e o q
      | dk l ks vs => cases l <;> cases h2
      | dt l ks vs => cases l <;> cases h2
      | ins c' vs => cases h2
    | _ => trivial
/-- reading a cell -/
theorem cell_at {c : Cs} {Z S : Sto} {ρ ρ' : Ev} {i : Nat} {v : Val} (er : EvR κ c S ρ ρ') (st : St c Z S) (hi : κ[i]? = some .c) (e : lk ρ' i = some v) : ∃ j k o, v = .loc j ∧ lk ρ i = some (.loc k) ∧ (j, k) ∈ c ∧ Z.objs j = some o ∧ S.objs k = some o := by
  rcases er.rel i _ hi with ⟨h, _⟩ | ⟨j, k, e1, e2, h⟩
  · rw [e] at h; cases h
  · rw [e] at e2; cases e2
    obtain ⟨o, h1, h2⟩ := st.cr _ h
    exact ⟨j, k, o, rfl, e1, h, h1, h2⟩
theorem le_ixC (i : Nat) (hi : κ[i]? = some .c) (h : LE RV κ e p) : LE RV κ (eBin vIx (eVar i) e) (eBin vIx (eVar i) p) := fun c Z S ρ ρ' n er st hn => by
  unfold eBin
  rw [eVar_lk, eVar_lk]
  cases ev : lk ρ' i with
  | none => trivial
  | some v =>
    obtain ⟨j, k, o, rfl, h1, h2, h3, h4⟩ := cell_at er st hi ev
    rw [h1]
    show Sim c S n RV ((e ρ S).bind _) ((p ρ' Z).bind _)
    refine (h c Z S ρ ρ' n er st hn).bind fun w w' S1 Z1 x s1 q => ?_
    obtain rfl : w = w' := q
    obtain ⟨o, a1, a2⟩ := s1.cr _ h2
    cases w with
    | int m =>
      cases o with
      | lst xs =>
        have e1 : vIx (.loc k) (.int m) S1 = vr (atI xs m) S1 := v_ix_loc a2
        have e2 : vIx (.loc j) (.int m) Z1 = vr (atI xs m) Z1 := v_ix_loc a1
        rw [e1, e2]
        cases atI xs m with
        | none => trivial
        | some u => exact .ok s1 rfl
      | _ =>
        have : vIx (.loc j) (.int m) Z1 = .st := by unfold vIx lstOf; simp only [a1]
        rw [this]; trivial
    | _ => trivial
/-- .. and writing -/
theorem ls_setIxC {rk : RK} {i : Nat} {ie ip : EM} (hi : κ[i]? = some .c) (hie : LE RV κ ie ip) (h : LE RV κ e p) : LS κ rk (sSetIx (eVar i) ie e) (sSetIx (eVar i) ip p) := fun c Z S ρ ρ' er st =>
  .toS er st (h c Z S ρ ρ' S.next er st (Nat.le_refl _)) fun v v' S1 Z1 x s1 q => by
    obtain rfl : v = v' := q
    have er1 := er.mono st x
    rw [eVar_lk, eVar_lk]
    cases ev : lk ρ' i with
    | none => trivial
    | some u =>
      obtain ⟨j, k, o, rfl, h1, h2, h3, h4⟩ := cell_at er1 s1 hi ev
      rw [h1]
      show SSim κ rk c S1 ρ ρ' ((ie ρ S1).toS ρ _) ((ip ρ' Z1).toS ρ' _)
      refine .toS er1 s1 (hie c Z1 S1 ρ ρ' S1.next er1 s1 (Nat.le_refl _)) fun w w' S2 Z2 x2 s2 q2 => ?_
      obtain rfl : w = w' := q2
      have er2 := er1.mono s1 x2
      obtain ⟨o, a1, a2⟩ := s2.cr _ h2
      cases w with
      | int m =>
        cases o with
        | lst xs =>
          unfold setIx
          dsimp only
          rw [a1, a2]
          dsimp only
          cases ixN xs.length m with
          | none => trivial
          | some n =>
            have kl := s2.wf _ _ a2
            have jl := s2.wz _ _ a1
            have inj : ∀ p ∈ c, (p.1 = j ↔ p.2 = k) := fun p hp => s2.inj p hp _ h2
            refine ⟨ρ, _, c, rfl, ⟨Nat.le_refl _, fun q _ f _ => put_ne fun z => f _ h2 z.symm⟩, .refl, .refl, ⟨fun p hp => ?_, s2.inj, fun q o h => ?_, fun q o h => ?_⟩, ⟨er2.len, er2.len', fun l kd e => ?_, er2.na⟩⟩
            · by_cases hk : p.2 = k
              · rw [hk, (inj p hp).mpr hk]; exact ⟨_, put_at, put_at⟩
              · obtain ⟨o, b1, b2⟩ := s2.cr p hp
                exact ⟨o, by rw [put_ne fun z => hk ((inj p hp).mp z)]; exact b1, by rw [put_ne hk]; exact b2⟩
            · by_cases hq : q = k
              · rw [hq]; exact kl
              · rw [put_ne hq] at h; exact s2.wf q o h
            · by_cases hq : q = j
              · rw [hq]; exact jl
              · rw [put_ne hq] at h; exact s2.wz q o h
            · exact (er2.rel l kd e).mono s2 fun k2 u ⟨f, o, b1, b2⟩ => ⟨f, o, by rw [put_ne fun z => f _ h2 z.symm]; exact b1, b2⟩
        | _ =>
          have : setIx (.loc j) (.int m) v Z2 = none := by unfold setIx; simp only [a1]
          rw [this]; trivial
      | _ => trivial
end
end PM

/-! PP, part e: comprehensions, what is walked, try -/
namespace PM
open PySem PySem.Spec L2
def RIe : RelK ItV (List Val) := fun c _ S iv xs => iv.items = xs ∧ ((∀ S', iv.src S') ∨ ∃ k o, k < S.next ∧ Free c k ∧ S.objs k = some o ∧ ∀ S', S'.objs k = some o → iv.src S')
def LIe (κ : List Kd) (it : IM) (ip : IP) : Prop := LE RIe κ it ip
section
variable {κ : List Kd} {it : IM} {ip : IP} {e p a b pa pb : EM}
theorem LI.le (h : LI κ it ip) : LIe κ it ip := fun c Z S ρ ρ' n er s hn => by
  have := h c Z S ρ ρ' er s
  revert this
  cases ip ρ' Z with
  | st => intro _; trivial
  | ex i es Z1 => exact id
  | ok xs Z1 =>
    rintro ⟨v, S1, e, x, s1, q1, q2⟩
    refine ⟨v, S1, e, x, s1, q1, ?_⟩
    rcases q2 with q | ⟨k, o, a, b, _, d, f⟩
    · exact .inl q
    · exact .inr ⟨k, o, a, b, d, f⟩
/-- a variable: a list lent or owned -/
theorem lie_var (i : Nat) {kd : Kd} (hi : κ[i]? = some kd) (hk : kd ≠ .c) : LIe κ (iSeq (eVar i)) (iSeqP (eVar i)) := fun c Z S ρ ρ' n er st hn =>
  (le_varQ i hi hk c Z S ρ ρ' n er st hn).bind fun v v' S1 Z1 x s1 q => by
    cases q' : itemsP v' with
    | none => trivial
    | some xs =>
      rcases q with rfl | ⟨k, rfl, f, o, h1, h2⟩
      · cases v <;> first | (cases q'; exact .ok s1 ⟨rfl, .inl fun _ => trivial⟩) | (cases q'; done)
      · cases o with
        | lst ys =>
          cases h2; cases q'
          unfold seqIt
          dsimp only
          rw [h1]
          exact .ok s1 ⟨rfl, .inr ⟨k, _, s1.wf _ _ h1, f, h1, fun _ h => h⟩⟩
        | dk l ks vs => cases l <;> cases h2 <;> cases q'
        | dt l ks vs => cases l <;> cases h2 <;> cases q'
        | ins c' vs => cases h2; cases q'
def iRange1P (a : EM) : IP := fun ρ S => (a ρ S).bind fun v S1 => match v with
  | .int j => if -4611686018427387904 ≤ j ∧ j < 4611686018427387904 then .ok (rangeL 0 j.toNat) S1 else .st
  | _ => .st
def iRange2P (a b : EM) : IP := fun ρ S => (a ρ S).bind fun v S1 => (b ρ S1).bind fun w S2 => match v, w with
  | .int i, .int j => if -4611686018427387904 ≤ i ∧ i < 4611686018427387904 ∧ -4611686018427387904 ≤ j ∧ j < 4611686018427387904 then .ok (rangeL i (j - i).toNat) S2 else .st
  | _, _ => .st
theorem li_range1 (h : LE RV κ a pa) : LI κ (iRange1 a) (iRange1P pa) := fun c Z S ρ ρ' er st => (h c Z S ρ ρ' S.next er st (Nat.le_refl _)).bind fun v v' S1 Z1 x s1 q => by
  obtain rfl : v = v' := q
  cases v with
  | int j =>
    dsimp only
    rw [p62]
    by_cases l : -4611686018427387904 ≤ j ∧ j < 4611686018427387904
    · rw [if_pos l, if_pos l]; exact .ok s1 ⟨rfl, .inl fun _ => trivial⟩
    · rw [if_neg l, if_neg l]; trivial
  | _ => trivial
theorem li_range2 (h : LE RV κ a pa) (h2 : LE RV κ b pb) : LI κ (iRange2 a b) (iRange2P pa pb) := fun c Z S ρ ρ' er st => (h c Z S ρ ρ' S.next er st (Nat.le_refl _)).bind fun v v' S1 Z1 x s1 q =>
  (h2 c Z1 S1 ρ ρ' S.next (er.mono st x) s1 x.le).bind fun w w' S2 Z2 x2 s2 q2 => by
    obtain rfl : v = v' := q
    obtain rfl : w = w' := q2
    cases v <;> first | trivial | skip
    cases w <;> first | trivial | skip
    rename_i i j
    dsimp only
    rw [p62]
    by_cases l : -4611686018427387904 ≤ i ∧ i < 4611686018427387904 ∧ -4611686018427387904 ≤ j ∧ j < 4611686018427387904
    · rw [if_pos l, if_pos l]; exact .ok s2 ⟨rfl, .inl fun _ => trivial⟩
    · rw [if_neg l, if_neg l]; trivial
/-- from the end -/
def revP (v : Val) : Option (List Val) := match v with
  | .lst xs => some xs.reverse | .fz xs => some xs.reverse | _ => none
def iRevP (f : EM) : IP := fun ρ S => (f ρ S).bind fun v S1 => match revP v with
  | some xs => .ok xs S1
  | none => .st
theorem li_rev (h : LE RV κ e p) : LI κ (PM.iRev e) (iRevP p) := fun c Z S ρ ρ' er st => (h c Z S ρ ρ' S.next er st (Nat.le_refl _)).bind fun v v' S1 Z1 x s1 q => by
  obtain rfl : v = v' := q
  cases v <;> first | (exact .ok s1 ⟨rfl, .inl fun _ => trivial⟩) | trivial
def enumP (v : Val) : Option (List Val) := match v with
  | .lst xs => some (zipE xs) | .fz xs => some (zipE xs) | _ => none
def iEnumP (f : EM) : IP := fun ρ S => (f ρ S).bind fun v S1 => match enumP v with
  | some xs => .ok xs S1
  | none => .st
theorem li_enum (h : LE RV κ e p) : LI κ (iEnumM e) (iEnumP p) := fun c Z S ρ ρ' er st => (h c Z S ρ ρ' S.next er st (Nat.le_refl _)).bind fun v v' S1 Z1 x s1 q => by
  obtain rfl : v = v' := q
  cases v <;> first | (exact .ok s1 ⟨rfl, .inl fun _ => trivial⟩) | trivial
/-! ### list comprehensions -/
def lcGoP (tg : Tgt) (tst : BM) (elt : EM) (ρ0 : Ev) : List Val → Sto → Res (List Val)
  | [], S => .ok [] S
  | v :: vs, S => match tg.set v ρ0 with
    | some ρ1 => (noEx (tst ρ1 S)).bind fun k S1 => if k then (noEx (elt ρ1 S1)).bind fun u S2 => (lcGoP tg tst elt ρ0 vs S2).bind fun us S3 => .ok (u :: us) S3 else lcGoP tg tst elt ρ0 vs S1
    | none => .st
def eLcP (it : IP) (tg : Tgt) (tst : BM) (elt : EM) (ws : List Nat) : EM := fun ρ S => (it ρ S).bind fun xs S1 => (lcGoP tg tst elt (wipeE ρ ws) xs S1).bind fun us S2 => if us.length ≤ sizeLine then .ok (.lst us) S2 else .st
theorem EvR.wipe {c : Cs} {S : Sto} {ρ ρ' : Ev} (er : EvR κ c S ρ ρ') : ∀ {ws : List Nat}, (∀ i ∈ ws, κ[i]? = some .s) → EvR κ c S (wipeE ρ ws) (wipeE ρ' ws)
  | [], _ => er
  | w :: ws, h => (er.wipe (ws := ws) fun i hi => h i (List.mem_cons_of_mem _ hi)).set_s (h w List.mem_cons_self) none
variable {tg : Tgt} {tst tst' : BM} {elt elt' : EM} {ws : List Nat}
theorem noEx_ok {α : Type} {r : Res α} {a : α} {S : Sto} (h : noEx r = .ok a S) : r = .ok a S := by
  cases r <;> cases h; rfl
theorem bind_ok {α β : Type} {r : Res α} {g : α → Sto → Res β} {b : β} {S : Sto} (h : r.bind g = .ok b S) : ∃ a S1, r = .ok a S1 ∧ g a S1 = .ok b S := by
  cases r with
  | ok a S1 => exact ⟨a, S1, rfl, h⟩
  | ex => cases h
  | st => cases h
theorem XF.putN {c : Cs} {S0 S : Sto} {n0 : Nat} {o : Ob} (x : XF c S0 S) (h : S0.next ≤ n0) : XF c S0 (S.put n0 o) := ⟨x.le, fun k l f => by rw [put_ne (by omega)]; exact x.eq k l f⟩
theorem St.putN {c : Cs} {Z S : Sto} {n0 : Nat} {o : Ob} (s : St c Z S) (f : Free c n0) (l : n0 < S.next) : St c Z (S.put n0 o) := by
  refine ⟨fun p hp => ?_, s.inj, fun q o' h => ?_, s.wz⟩
  · obtain ⟨o', h1, h2⟩ := s.cr p hp
    exact ⟨o', h1, by rw [put_ne (f p hp)]; exact h2⟩
  · by_cases hq : q = n0
    · rw [hq]; exact l
    · rw [put_ne hq] at h; exact s.wf q o' h
theorem lcGo_ok (ht : allS κ tg.slots = true) (h1 : LE RV κ tst tst') (h2 : LE RV κ elt elt') {c : Cs} {Za S0 : Sto} {ρ0 ρ0' : Ev} {n0 : Nat} {src : Sto → Prop} (s0 : St c Za S0) (er : EvR κ c S0 ρ0 ρ0') (hn : S0.next ≤ n0) (f0 : Free c n0)
    (hs : (∀ S', src S') ∨ ∃ k o, k < S0.next ∧ Free c k ∧ S0.objs k = some o ∧ ∀ S', S'.objs k = some o → src S') :
    ∀ {vs : List Val} {acc us : List Val} {Z S Z1 : Sto}, XF c S0 S → St c Z S → n0 < S.next → S.objs n0 = some (.lst acc) → lcGoP tg tst' elt' ρ0' vs Z = .ok us Z1 → acc.length + us.length ≤ sizeLine →
      ∃ S1, lcGo src tg tst elt n0 ρ0 vs S = .ok () S1 ∧ XF c S0 S1 ∧ St c Z1 S1 ∧ n0 < S1.next ∧ S1.objs n0 = some (.lst (acc ++ us))
  | [], acc, us, Z, S, Z1, x, s, l, o, e, _ => by
    unfold lcGoP at e
    cases e
    unfold lcGo
    have : src S := by
      rcases hs with hs | ⟨k, ob, a, b, d, q⟩
      · exact hs S
      · exact q S ((x.eq k a b).trans d)
    rw [if_pos this]
    exact ⟨S, rfl, x, s, l, by rw [List.append_nil]; exact o⟩
  | v :: vs, acc, us, Z, S, Z1, x, s, l, o, e, hl => by
    unfold lcGoP at e
    unfold lcGo
    have : src S := by
      rcases hs with hs | ⟨k, ob, a, b, d, q⟩
      · exact hs S
      · exact q S ((x.eq k a b).trans d)
    rw [if_pos this]
    cases q : tg.set v ρ0' with
    | none => rw [q] at e; cases e
    | some ρ1' =>
      rw [q] at e
      obtain ⟨ρ1, t1, t2, _⟩ := tgt_ok (allS_ok ht) er q
      rw [t1]
      dsimp only at e ⊢
      obtain ⟨k, Z2, e1, e⟩ := bind_ok e
      have q1 := h1 c Z S ρ1 ρ1' S.next (t2.mono s0 x) s (Nat.le_refl _)
      rw [noEx_ok e1] at q1
      obtain ⟨k2, S2, r1, x2, s2, rfl⟩ := q1
      rw [r1]
      show ∃ S1, (if k2 = true then _ else _ : Res Unit) = _ ∧ _
      have o2 : S2.objs n0 = some (.lst acc) := (x2.eq n0 l f0).trans o
      have l2 := Nat.lt_of_lt_of_le l x2.le
      cases k2 with
      | false =>
        rw [if_neg Bool.false_ne_true] at e ⊢
        exact lcGo_ok ht h1 h2 s0 er hn f0 hs (x.trans x2) s2 l2 o2 e hl
      | true =>
        rw [if_pos rfl] at e ⊢
        obtain ⟨u, Z3, e2, e⟩ := bind_ok e
        obtain ⟨us2, Z4, e3, e4⟩ := bind_ok e
        cases e4
        have q2 := h2 c Z2 S2 ρ1 ρ1' S2.next (t2.mono s0 (x.trans x2)) s2 (Nat.le_refl _)
        rw [noEx_ok e2] at q2
        obtain ⟨u2, S3, r2, x3, s3, rfl⟩ := q2
        rw [r2]
        have o3 : S3.objs n0 = some (.lst acc) := (x3.eq n0 l2 f0).trans o2
        have l3 := Nat.lt_of_lt_of_le l2 x3.le
        show ∃ S1, (match S3.objs n0 with | some (.lst acc) => _ | _ => _ : Res Unit) = _ ∧ _
        rw [o3]
        dsimp only
        simp only [List.length_cons] at hl
        rw [if_pos (by omega)]
        have := lcGo_ok ht h1 h2 s0 er hn f0 hs (acc := acc ++ [u2]) (((x.trans x2).trans x3).putN hn) (s3.putN f0 l3) l3 put_at e3 (by simp; omega)
        obtain ⟨S4, a1, a2, a3, a4, a5⟩ := this
        exact ⟨S4, a1, a2, a3, a4, by rw [a5, List.append_assoc]; rfl⟩
theorem fresh_free {c : Cs} {Z S : Sto} (s : St c Z S) : Free c S.next := fun p hp e => by
  obtain ⟨o, _, h⟩ := s.cr p hp
  have := s.wf _ _ h
  omega
theorem St.al {c : Cs} {Z S : Sto} {o : Ob} (s : St c Z S) : XF c S (S.alloc o) ∧ St c Z (S.alloc o) := by
  refine ⟨⟨Nat.le_succ _, fun k hk _ => alloc_ne (Nat.ne_of_lt hk)⟩, fun p hp => ?_, s.inj, fun k o' h => ?_, s.wz⟩
  · obtain ⟨o', h1, h2⟩ := s.cr p hp
    exact ⟨o', h1, by rw [alloc_ne (Nat.ne_of_lt (s.wf _ _ h2))]; exact h2⟩
  · by_cases hk : k = S.next
    · rw [hk]; exact Nat.lt_succ_self _
    · rw [alloc_ne hk] at h; exact Nat.lt_succ_of_lt (s.wf _ _ h)
theorem noEx_nx {α : Type} {r : Res α} {i : Nat} {es : List Val} {Z : Sto} : noEx r ≠ .ex i es Z := by
  cases r <;> intro h <;> cases h
theorem lcGoP_nx {ρ0 : Ev} {i : Nat} {es : List Val} {Z2 : Sto} : ∀ {vs : List Val} {Z : Sto}, lcGoP tg tst elt ρ0 vs Z ≠ .ex i es Z2
  | [], Z, h => by cases h
  | v :: vs, Z, h => by
    unfold lcGoP at h
    split at h
    · rename_i ρ1 _
      cases e1 : noEx (tst ρ1 Z) with
      | ok k Z3 =>
        rw [e1] at h
        cases k with
        | false => exact lcGoP_nx h
        | true =>
          cases e2 : noEx (elt ρ1 Z3) with
          | ok u Z4 =>
            have h : ((noEx (elt ρ1 Z3)).bind fun u S2 => (lcGoP tg tst elt ρ0 vs S2).bind fun us S3 => .ok (u :: us) S3) = .ex i es Z2 := h
            rw [e2] at h
            have h : ((lcGoP tg tst elt ρ0 vs Z4).bind fun us S3 => .ok (u :: us) S3) = .ex i es Z2 := h
            cases e3 : lcGoP tg tst elt ρ0 vs Z4 with
            | ok us Z5 => rw [e3] at h; cases h
            | ex a b d => exact lcGoP_nx e3
            | st => rw [e3] at h; cases h
          | ex => exact absurd e2 noEx_nx
          | st =>
            have h : ((noEx (elt ρ1 Z3)).bind fun u S2 => (lcGoP tg tst elt ρ0 vs S2).bind fun us S3 => .ok (u :: us) S3) = .ex i es Z2 := h
            rw [e2] at h; cases h
      | ex => exact absurd e1 noEx_nx
      | st => rw [e1] at h; cases h
    · cases h
theorem lc_sim (hi : LIe κ it ip) (ht : allS κ tg.slots = true) (hw : allS κ ws = true) (h1 : LE RV κ tst tst') (h2 : LE RV κ elt elt') {c : Cs} {Z S : Sto} {ρ ρ' : Ev} {n : Nat} (er : EvR κ c S ρ ρ') (s : St c Z S) (hn : n ≤ S.next) {R : RelK Val Val} {bx : Bool}
    (hend : ∀ {S1 Z1 : Sto} {k : Nat} {us : List Val}, XF c S S1 → St c Z1 S1 → n ≤ k → S.next ≤ k → k < S1.next → Free c k → S1.objs k = some (.lst us) → Sim c S n R (lcEnd bx k S1) (.ok (.lst us) Z1)) :
    Sim c S n R (eLc bx it tg tst elt ws ρ S) (eLcP ip tg tst' elt' ws ρ' Z) := by
  unfold eLc eLcP
  have := hi c Z S ρ ρ' n er s hn
  revert this
  cases ip ρ' Z with
  | st => intro _; trivial
  | ex i es Z1 => rintro ⟨S1, e, x, s1⟩; rw [e]; exact ⟨S1, rfl, x, s1⟩
  | ok xs Z1 =>
    rintro ⟨iv, S1, e, x, s1, rfl, hs⟩
    rw [e]
    show Sim c S n R ((lcGo _ _ _ _ _ _ _ _).bind _) ((lcGoP _ _ _ _ _ _).bind _)
    cases q : lcGoP tg tst' elt' (wipeE ρ' ws) iv.items Z1 with
    | st => trivial
    | ex i es Z2 => exact absurd q lcGoP_nx
    | ok us Z2 =>
      show Sim c S n R _ (if us.length ≤ sizeLine then _ else _)
      by_cases l : us.length ≤ sizeLine
      · rw [if_pos l]
        obtain ⟨xa, sa⟩ := s1.al (o := .lst [])
        have er1 := (er.mono s x).wipe (ws := ws) (allS_ok hw)
        obtain ⟨S3, g1, g2, g3, g4, g5⟩ := lcGo_ok ht h1 h2 s1 er1 (Nat.le_refl _) (fresh_free s1) hs (acc := []) xa sa (Nat.lt_succ_self _) alloc_at q (by simpa using l)
        rw [g1]
        show Sim c S n R (lcEnd bx S1.next S3) _
        exact hend (x.trans g2) g3 (Nat.le_trans hn x.le) x.le g4 (fresh_free s1) (by simpa using g5)
      · rw [if_neg l]; trivial
theorem le_lc (hi : LIe κ it ip) (ht : allS κ tg.slots = true) (hw : allS κ ws = true) (h1 : LE RV κ tst tst') (h2 : LE RV κ elt elt') : LE RV κ (eLc false it tg tst elt ws) (eLcP ip tg tst' elt' ws) := fun c Z S ρ ρ' n er s hn =>
  lc_sim hi ht hw h1 h2 er s hn fun {S1 Z1 k us} x s1 l l0 l2 f o => by
    unfold lcEnd; rw [o]
    exact ⟨_, _, rfl, ⟨x.le, fun j lj fj => by rw [drop_ne (by omega)]; exact x.eq j lj fj⟩, s1.drop f, rfl⟩
theorem le_lcN (hi : LIe κ it ip) (ht : allS κ tg.slots = true) (hw : allS κ ws = true) (h1 : LE RV κ tst tst') (h2 : LE RV κ elt elt') : LE RF κ (eLc true it tg tst elt ws) (eLcP ip tg tst' elt' ws) := fun c Z S ρ ρ' n er s hn =>
  lc_sim hi ht hw h1 h2 er s hn fun {S1 Z1 k us} x s1 l l0 l2 f o => by
    unfold lcEnd; rw [o]
    exact ⟨_, _, rfl, x, s1, k, rfl, l, f, _, o, rfl⟩
/-! ### list(range(..)), slices, join -/
def eListRP (a b : EM) : EM := fun ρ S => (a ρ S).bind fun v S1 => (b ρ S1).bind fun w S2 => match v, w with
  | .int i, .int j => if -4611686018427387904 ≤ i ∧ i < 4611686018427387904 ∧ -4611686018427387904 ≤ j ∧ j < 4611686018427387904 ∧ (j - i).toNat ≤ 16777216 then .ok (.lst (rangeL i (j - i).toNat)) S2 else .st
  | _, _ => .st
theorem listR_sim {R : RelK Val Val} {bx : Bool} (h : LE RV κ a pa) (h2 : LE RV κ b pb) (hm : ∀ {c Z S n us}, St c Z S → n ≤ S.next → Sim c S n R (mkL bx us S) (.ok (.lst us) Z)) : LE R κ (eListR bx a b) (eListRP pa pb) := fun c Z S ρ ρ' n er st hn => (h c Z S ρ ρ' n er st hn).bind fun v v' S1 Z1 x s1 q =>
  (h2 c Z1 S1 ρ ρ' n (er.mono st x) s1 (Nat.le_trans hn x.le)).bind fun w w' S2 Z2 x2 s2 q2 => by
    obtain rfl : v = v' := q
    obtain rfl : w = w' := q2
    cases v <;> first | trivial | skip
    cases w <;> first | trivial | skip
    rename_i i j
    dsimp only
    rw [p62, show (2 : Nat) ^ 24 = 16777216 by decide +kernel]
    by_cases l : -4611686018427387904 ≤ i ∧ i < 4611686018427387904 ∧ -4611686018427387904 ≤ j ∧ j < 4611686018427387904 ∧ (j - i).toNat ≤ 16777216
    · rw [if_pos l, if_pos l]; exact hm s2 (Nat.le_trans hn (x.trans x2).le)
    · rw [if_neg l, if_neg l]; trivial
theorem le_listR (h : LE RV κ a pa) (h2 : LE RV κ b pb) : LE RV κ (eListR false a b) (eListRP pa pb) := listR_sim h h2 fun s _ => .ok s rfl
theorem le_listRN (h : LE RV κ a pa) (h2 : LE RV κ b pb) : LE RF κ (eListR true a b) (eListRP pa pb) := listR_sim h h2 fun s hn => new_ok s hn rfl
variable {lo hi plo phi : OM}
theorem vCut_l {bx : Bool} {v : Val} {S : Sto} {l u : Option Int} {xs : List Val} (h : lstOf S v = some xs) : vCut bx v l u S = mkL bx (cutG xs l u) S := by
  unfold vCut
  cases v <;> first | (cases h; done) | (simp only [h])
theorem le_cut (h : LE RQ κ a pa) (hl : LE RV κ lo plo) (hh : LE RV κ hi phi) : LE RV κ (eCut false a lo hi) (eCutP pa plo phi) := fun c Z S ρ ρ' n er st hn => (h c Z S ρ ρ' n er st hn).bind fun v v' S1 Z1 x s1 q =>
  (hl c Z1 S1 ρ ρ' n (er.mono st x) s1 (Nat.le_trans hn x.le)).bind fun l l' S2 Z2 x2 s2 q2 => (hh c Z2 S2 ρ ρ' n (er.mono st (x.trans x2)) s2 (Nat.le_trans hn (x.trans x2).le)).bind fun u u' S3 Z3 x3 s3 q3 => by
    obtain rfl : l = l' := q2
    obtain rfl : u = u' := q3
    have q := (q.mono s1 x2).mono s2 x3
    by_cases hT : ∃ xs, v' = .tup xs
    · obtain ⟨xs, rfl⟩ := hT
      obtain rfl := vq_s q rfl
      exact .ok s3 rfl
    · cases e : lstOf Z0 v' with
      | none =>
        have : vCut false v' l u Z0 = .st := by unfold vCut; cases v' <;> first | (exact absurd ⟨_, rfl⟩ hT) | (simp only [e])
        rw [this]; trivial
      | some xs => rw [vCut_l e, vCut_l (lst_q q e)]; exact .ok s3 rfl
theorem le_cutN (h : LE RQ κ a pa) (hl : LE RV κ lo plo) (hh : LE RV κ hi phi) : LE RF κ (eCut true a lo hi) (fun ρ S => (eCutP pa plo phi ρ S).bind fun v S1 => match v with | .lst xs => .ok (.lst xs) S1 | _ => .st) := fun c Z S ρ ρ' n er st hn => by
  unfold eCutP
  have as : ∀ {α β γ : Type} (r : Res α) (f : α → Sto → Res β) (g : β → Sto → Res γ), (r.bind f).bind g = r.bind fun a S => (f a S).bind g := fun r f g => by cases r <;> rfl
  simp only [as]
  exact (h c Z S ρ ρ' n er st hn).bind fun v v' S1 Z1 x s1 q =>
    (hl c Z1 S1 ρ ρ' n (er.mono st x) s1 (Nat.le_trans hn x.le)).bind fun l l' S2 Z2 x2 s2 q2 => (hh c Z2 S2 ρ ρ' n (er.mono st (x.trans x2)) s2 (Nat.le_trans hn (x.trans x2).le)).bind fun u u' S3 Z3 x3 s3 q3 => by
      obtain rfl : l = l' := q2
      obtain rfl : u = u' := q3
      have q := (q.mono s1 x2).mono s2 x3
      by_cases hT : ∃ xs, v' = .tup xs
      · obtain ⟨xs, rfl⟩ := hT; trivial
      · cases e : lstOf Z0 v' with
        | none =>
          have : vCut false v' l u Z0 = .st := by unfold vCut; cases v' <;> first | (exact absurd ⟨_, rfl⟩ hT) | (simp only [e])
          rw [this]; trivial
        | some xs => rw [vCut_l e, vCut_l (lst_q q e)]; exact new_ok s3 (Nat.le_trans hn ((x.trans x2).trans x3).le) rfl
/-- methods that change nothing -/
def eBMP (chk : Val → Sto → Bool) (op : Val → List Val → Sto → Res Val) (o : EM) (a : AM) : EM := fun ρ S => (o ρ S).bind fun v S1 => if chk v Z0 then (a ρ S1).bind fun vs S2 => (op v vs Z0).onto S2 else .st
def RsM (chk : Val → Sto → Bool) (op : Val → List Val → Sto → Res Val) : Prop := ∀ c S v v' vs vs' u Z1, VQ c S v v' → VQs c S vs vs' → op v' vs' Z0 = .ok u Z1 → op v vs S = .ok u S
theorem le_bm {chk : Val → Sto → Bool} {op : Val → List Val → Sto → Res Val} {r r' : AM} (ok : RsM chk op) (hc : ∀ c S v v', VQ c S v v' → chk v' Z0 = true → chk v S = true) (nx : ∀ v vs S, NX (op v vs S)) (ho : LE RQ κ e p) (ha : LE RQs κ r r') : LE RV κ (eBM chk op e r) (eBMP chk op p r') := fun c Z S ρ ρ' n er st hn =>
  (ho c Z S ρ ρ' n er st hn).bind fun v v' S1 Z1 x s1 q => sim_guard (hc _ _ _ _ q) <| (ha c Z1 S1 ρ ρ' n (er.mono st x) s1 (Nat.le_trans hn x.le)).bind fun w w' S2 Z2 x2 s2 q2 =>
    sim_op s2 (nx _ _ _) fun u Z3 eo => ok c S2 v v' w w' u Z3 (q.mono s1 x2) q2 eo
/-! ### try -/
def oErr (o : Option Val) : Bool := match o with
  | some v => noErr v
  | none => true
def suiteEndP (i : Nat) : SRes → SRes
  | .rt v S => if noErr v = true then .rt v S else .st
  | .nx ρ S => if (ρ.set i none).all oErr = true then .nx (ρ.set i none) S else .st
  | _ => .st
def sTryP (bd : SM) (i : Nat) (off : List Nat) (hs : List (Nat × SM)) : SM := fun ρ S => match bd ρ S with
  | .ex c vs ρ' S' => match hs.lookup c with
    | some s => suiteEndP i (s (ρ'.set i (some (.err c vs))) S')
    | none => if off.contains c then .ex c vs ρ' S' else .st
  | r => r
/-- a suite that leaves the store as it is -/
def Qs (s : SM) : Prop := ∀ ρ S, (∀ v S1, s ρ S = .rt v S1 → S1 = S) ∧ (∀ ρ1 S1, s ρ S = .nx ρ1 S1 → S1 = S)
def Qe {α : Type} (e : Ev → Sto → Res α) : Prop := ∀ ρ S v S1, e ρ S = .ok v S1 → S1 = S
/-- suites of a try, one by one -/
inductive Hs (κ : List Kd) (rk : RK) : List (Nat × SM) → List (Nat × SM) → Prop
  | nil : Hs κ rk [] []
  | cons {n : Nat} {s s' : SM} {l l' : List (Nat × SM)} : LS κ rk s s' → Qs s → Hs κ rk l l' → Hs κ rk ((n, s) :: l) ((n, s') :: l')
theorem Hs.look {rk : RK} {n : Nat} : ∀ {l l' : List (Nat × SM)}, Hs κ rk l l' → (l.lookup n = none ∧ l'.lookup n = none) ∨ ∃ s s', l.lookup n = some s ∧ l'.lookup n = some s' ∧ LS κ rk s s' ∧ Qs s
  | _, _, .nil => .inl ⟨rfl, rfl⟩
  | _, _, .cons (n := m) (s := s) (s' := s') a q b => by
    by_cases h : n = m
    · subst h; exact .inr ⟨s, s', by simp [List.lookup], by simp [List.lookup], a, q⟩
    · have : (n == m) = false := by simpa using h
      simp only [List.lookup, this]
      exact b.look
theorem slr_noErr {c : Cs} {S : Sto} {a b : Option Val} {v : Val} : ∀ {kd : Kd}, SlR c S kd a b → oErr b = true → a = some v → noErr v = true
  | .s, h, e, ha => by rw [← (show a = b from h), ha] at e; exact e
  | .f, h, e, ha => by
    rcases h with h | ⟨k, u, e1, _⟩
    · rw [← h, ha] at e; exact e
    · rw [e1] at ha; cases ha; unfold noErr; rfl
  | .o, h, e, ha => by
    rcases h with ⟨_, h | ⟨k, h⟩⟩ | ⟨k, u, h, _⟩ <;> (rw [h] at ha; cases ha; try (unfold noErr; rfl))
  | .p, h, e, ha => by
    rcases h with ⟨_, h | ⟨k, h⟩⟩ | ⟨k, u, h, _⟩ <;> (rw [h] at ha; cases ha; try (unfold noErr; rfl))
  | .c, h, e, ha => by
    rcases h with ⟨_, h | ⟨k, h⟩⟩ | ⟨j, k, h, _⟩ <;> (rw [h] at ha; cases ha; try (unfold noErr; rfl))
theorem ls_try {rk : RK} {bd bd' : SM} {i : Nat} {off : List Nat} {hs hs' : List (Nat × SM)} (hrk : rk = .v) (hi : κ[i]? = some .s) (hb : LS κ rk bd bd') (hh : Hs κ rk hs hs') : LS κ rk (sTry bd i off hs) (sTryP bd' i off hs') := fun c Z S ρ ρ' er st => by
  subst hrk
  have := hb c Z S ρ ρ' er st
  unfold sTry sTryP
  revert this
  cases e : bd' ρ' Z with
  | st => intro _; trivial
  | nx => rintro ⟨ρ1, S1, c1, e1, q⟩; rw [e1]; exact ⟨ρ1, S1, c1, rfl, q⟩
  | bk => rintro ⟨ρ1, S1, c1, e1, q⟩; rw [e1]; exact ⟨ρ1, S1, c1, rfl, q⟩
  | ct => rintro ⟨ρ1, S1, c1, e1, q⟩; rw [e1]; exact ⟨ρ1, S1, c1, rfl, q⟩
  | rt => rintro ⟨v, S1, c1, e1, q⟩; rw [e1]; exact ⟨v, S1, c1, rfl, q⟩
  | ex n vs ρ1' Z1 =>
    rintro ⟨ρ1, S1, c1, e1, q⟩
    rw [e1]
    dsimp only
    rcases hh.look (n := n) with ⟨a, b⟩ | ⟨s, s', a, b, l, qs⟩
    · rw [a, b]
      dsimp only
      by_cases ho : off.contains n = true
      · rw [if_pos ho, if_pos ho]; exact ⟨ρ1, S1, c1, rfl, q⟩
      · rw [if_neg ho, if_neg ho]; trivial
    · rw [a, b]
      dsimp only
      have er1 := q.ev.set_s hi (some (.err n vs))
      have n1 : NxR κ c S ρ ρ' (ρ1.set i (some (.err n vs))) S1 (ρ1'.set i (some (.err n vs))) Z1 c1 := ⟨q.sf, q.ef.trans (Nat.le_trans q.sf.le (Nat.le_refl _)) (.set_s hi) |> fun z => ⟨fun k h => (z.own k h), z.pa⟩, q.cx, q.st, er1⟩
      have := l c1 Z1 S1 _ _ er1 q.st
      have qq := qs (ρ1.set i (some (.err n vs))) S1
      revert this
      cases e2 : s' (ρ1'.set i (some (.err n vs))) Z1 with
      | st => intro _; trivial
      | bk => intro _; trivial
      | ct => intro _; trivial
      | ex => intro _; trivial
      | rt v' Z2 =>
        rintro ⟨v, S2, c2, e3, sf, cx, s2, rfl⟩
        have : S2 = S1 := qq.1 v S2 e3
        subst this
        rw [e3]
        unfold suiteEnd suiteEndP
        by_cases hv : noErr v = true
        · simp only [hv, true_and, if_true]
          exact .after n1 (r := .rt v S2) (r' := .rt v Z2) ⟨v, S2, c2, rfl, sf, cx, s2, rfl⟩
        · simp only [hv]; trivial
      | nx ρ2' Z2 =>
        rintro ⟨ρ2, S2, c2, e3, q2⟩
        have : S2 = S1 := qq.2 ρ2 S2 e3
        subst this
        rw [e3]
        unfold suiteEndP
        dsimp only
        by_cases hv : (ρ2'.set i none).all oErr = true
        · rw [if_pos hv]
          have n2 := n1.trans q2
          have er3 := q2.ev.set_s hi none
          have ok : ∀ (j : Nat) (v : Val), (ρ2.set i none)[j]? = some (some v) → noErr v = true := fun j v h => by
            have hj := get_lt h
            have h := lk_some.mpr h
            have hk : j < κ.length := by rw [List.length_set, q2.ev.len] at hj; exact hj
            have r := er3.rel j κ[j] (List.getElem?_eq_getElem hk)
            refine slr_noErr r ?_ h
            have hl : j < (ρ2'.set i none).length := by rw [List.length_set, q2.ev.len']; exact hk
            have := List.all_eq_true.mp hv (ρ2'.set i none)[j] (List.getElem_mem hl)
            rw [lk_get, List.getElem?_eq_getElem hl]
            simpa using this
          unfold suiteEnd
          dsimp only
          rw [if_pos ⟨ok, rfl⟩]
          refine ⟨_, S2, c2, rfl, n2.sf, n2.ef.trans n2.sf.le (.set_s hi), n2.cx, n2.st, er3⟩
        · rw [if_neg hv]; trivial
theorem le_isErr {i : Nat} (hi : κ[i]? = some .s) {v : Val} {b : Bool} : LE RV κ (eIsErr i (eC v) b) (eIsErr i (eC v) b) := fun c Z S ρ ρ' n er st hn => by
  have h : lk ρ i = lk ρ' i := er.rel i _ hi
  by_cases q : ∃ n, lk ρ' i = some (.err n [])
  · obtain ⟨n, q⟩ := q
    unfold eIsErr
    rw [lk_some.mp q, lk_some.mp (h.trans q)]
    exact .ok st rfl
  · have : eIsErr i (eC v) b ρ' Z = .st := by
      unfold eIsErr
      split
      · rename_i n e; exact absurd ⟨n, lk_some.mpr e⟩ q
      · rfl
    rw [this]; trivial
/-! what leaves the store as it is -/
variable {ta tb : BM} {s t : SM} {r : AM}
theorem q_var (i : Nat) : Qe (eVar i) := fun ρ S v S1 h => by
  rw [eVar_lk] at h
  cases e : lk ρ i <;> rw [e] at h <;> cases h; rfl
theorem q_c {v : Val} : Qe (eC v) := fun ρ S w S1 h => by cases h; rfl
theorem q_and (h : Qe a) (h2 : Qe b) : Qe (eAnd a b) := fun ρ S v S1 e => by
  obtain ⟨w, S2, e1, e'⟩ := bind_ok e; clear e; have e := e'; clear e'
  have := h _ _ _ _ e1; subst this
  split at e
  · exact h2 _ _ _ _ e
  · cases e; rfl
  · cases e
theorem q_or (h : Qe a) (h2 : Qe b) : Qe (eOr a b) := fun ρ S v S1 e => by
  obtain ⟨w, S2, e1, e'⟩ := bind_ok e; clear e; have e := e'; clear e'
  have := h _ _ _ _ e1; subst this
  split at e
  · cases e; rfl
  · exact h2 _ _ _ _ e
  · cases e
theorem q_not (h : Qe a) : Qe (eNot a) := fun ρ S v S1 e => by
  obtain ⟨w, S2, e1, e'⟩ := bind_ok e; clear e; have e := e'; clear e'
  have := h _ _ _ _ e1; subst this
  split at e
  · cases e; rfl
  · cases e
theorem q_tB (h : Qe a) : Qe (tB a) := fun ρ S v S1 e => by
  obtain ⟨w, S2, e1, e'⟩ := bind_ok e; clear e; have e := e'; clear e'
  have := h _ _ _ _ e1; subst this
  split at e
  · cases e; rfl
  · cases e
theorem q_tTru (h : Qe a) : Qe (tTru a) := fun ρ S v S1 e => by
  obtain ⟨w, S2, e1, e'⟩ := bind_ok e; clear e; have e := e'; clear e'
  have := h _ _ _ _ e1; subst this
  split at e
  · cases e; rfl
  · cases e
theorem q_tand (h : Qe ta) (h2 : Qe tb) : Qe (tAndM ta tb) := fun ρ S v S1 e => by
  obtain ⟨w, S2, e1, e'⟩ := bind_ok e; clear e; have e := e'; clear e'
  have := h _ _ _ _ e1; subst this
  split at e
  · exact h2 _ _ _ _ e
  · cases e; rfl
theorem q_tnot (h : Qe ta) : Qe (tNotM ta) := fun ρ S v S1 e => by
  obtain ⟨w, S2, e1, e'⟩ := bind_ok e; clear e; have e := e'; clear e'
  have := h _ _ _ _ e1; subst this
  cases e; rfl
theorem q_isErr {i : Nat} {v : Val} {b : Bool} : Qe (eIsErr i (eC v) b) := fun ρ S w S1 e => by
  unfold eIsErr at e
  split at e
  · cases e; rfl
  · cases e
theorem q_nil : Qe aNil := fun ρ S v S1 h => by cases h; rfl
theorem q_cons (h : Qe a) (h2 : Qe r) : Qe (aCons a r) := fun ρ S v S1 e => by
  obtain ⟨w, S2, e1, e'⟩ := bind_ok e; clear e; have e := e'; clear e'
  have := h _ _ _ _ e1; subst this
  obtain ⟨w2, S3, e2, e'⟩ := bind_ok e; clear e; have e := e'; clear e'
  have := h2 _ _ _ _ e2; subst this
  cases e; rfl
theorem q_tup (h : Qe r) : Qe (eTup r) := fun ρ S v S1 e => by
  obtain ⟨w, S2, e1, e'⟩ := bind_ok e; clear e; have e := e'; clear e'
  have := h _ _ _ _ e1; subst this
  split at e
  · cases e; rfl
  · cases e
theorem q_attr {c i : Nat} (h : Qe a) : Qe (eAttr c i a) := fun ρ S v S1 e => by
  obtain ⟨w, S2, e1, e'⟩ := bind_ok e; clear e; have e := e'; clear e'
  have := h _ _ _ _ e1; subst this
  split at e
  · split at e
    · split at e
      · cases e; rfl
      · cases e
    · cases e
  · cases e
theorem qs_ret (h : Qe e) : Qs (sRet e) := fun ρ S => by
  unfold sRet
  cases q : e ρ S with
  | ok v S2 =>
    have := h _ _ _ _ q
    subst this
    exact ⟨fun v S1 z => (by cases z; rfl), fun ρ1 S1 z => by cases z⟩
  | ex => exact ⟨fun v S1 z => (by cases z), fun ρ1 S1 z => by cases z⟩
  | st => exact ⟨fun v S1 z => (by cases z), fun ρ1 S1 z => by cases z⟩
theorem qs_next : Qs sNext := fun ρ S => ⟨fun v S1 z => (by cases z), fun ρ1 S1 z => by cases z; rfl⟩
theorem qs_if (h : Qe ta) (h1 : Qs s) (h2 : Qs t) : Qs (sIf ta s t) := fun ρ S => by
  unfold sIf
  cases q : ta ρ S with
  | ok v S2 =>
    have := h _ _ _ _ q
    subst this
    cases v with
    | true => exact h1 ρ S2
    | false => exact h2 ρ S2
  | ex => exact ⟨fun v S1 z => (by cases z), fun ρ1 S1 z => by cases z⟩
  | st => exact ⟨fun v S1 z => (by cases z), fun ρ1 S1 z => by cases z⟩
theorem qs_seq (h1 : Qs s) (h2 : Qs t) : Qs (sSeq s t) := fun ρ S => by
  unfold sSeq
  cases q : s ρ S with
  | nx ρ1 S2 =>
    have := (h1 ρ S).2 _ _ q
    subst this
    exact h2 ρ1 S2
  | rt v S2 => exact ⟨fun v S1 z => (h1 ρ S).1 _ _ (q.trans z), fun ρ1 S1 z => by cases z⟩
  | ex => exact ⟨fun v S1 z => (by cases z), fun ρ1 S1 z => by cases z⟩
  | bk => exact ⟨fun v S1 z => (by cases z), fun ρ1 S1 z => by cases z⟩
  | ct => exact ⟨fun v S1 z => (by cases z), fun ρ1 S1 z => by cases z⟩
  | st => exact ⟨fun v S1 z => (by cases z), fun ρ1 S1 z => by cases z⟩
/-! join -/
theorem rm_join : RsM isStr vJoin := fun c S v v' vs vs' u Z1 h h2 e => by
  cases v' <;> first | (unfold vJoin at e; split at e <;> first | (cases e; done) | (rename_i q _; cases q; done) | (rename_i q; cases q; done)) | skip
  obtain rfl := vq_s h rfl
  match vs', h2 with
  | [], h2 => cases e
  | [w'], h2 =>
    obtain ⟨w, rfl, q⟩ := vqs1 h2
    by_cases hT : ∃ xs, w' = .tup xs
    · obtain ⟨xs, rfl⟩ := hT
      obtain rfl := vq_s q rfl
      unfold vJoin at e ⊢
      dsimp only at e ⊢
      split at e
      · split at e
        · rename_i l; cases e; rw [if_pos l]
        · cases e
      · cases e
    · have hn : ∀ xs, w' ≠ .tup xs := fun xs h => hT ⟨xs, h⟩
      have eq : ∀ {s : Str} {w : Val} {S : Sto}, (∀ xs, w ≠ .tup xs) → vJoin (.str s) [w] S = (match (lstOf S w).bind strsOf with
          | some zs => if (zs.map (·.length)).sum + zs.length * s.length ≤ 16777216 then .ok (.str (Txt.join s zs)) S else .st
          | none => .st) := fun {s w S} h => by
        unfold vJoin
        cases w <;> first | rfl | exact absurd rfl (h _)
      rw [eq hn] at e
      rw [eq (vq_nt q hn)]
      cases p : lstOf Z0 w' with
      | none => rw [p] at e; cases e
      | some xs =>
        rw [p] at e; rw [lst_q q p]
        cases p2 : strsOf xs with
        | none => simp only [Option.bind, p2] at e; cases e
        | some zs =>
          simp only [Option.bind, p2] at e ⊢
          split at e
          · rename_i l; cases e; rw [if_pos l]
          · cases e
  | _ :: _ :: _, h2 => unfold vJoin at e; split at e <;> first | (cases e; done) | (rename_i q _; cases q; done) | (rename_i q; cases q; done)
theorem isStr_q (c : Cs) (S : Sto) (v v' : Val) (h : VQ c S v v') (e : isStr v' Z0 = true) : isStr v S = true := by
  cases v' <;> first | (cases e; done) | (obtain rfl := vq_s h rfl; rfl)
theorem nx_join : ∀ v vs S, NX (vJoin v vs S) := by
  intro v vs S; unfold vJoin; split
  · split
    · split <;> trivial
    · trivial
  · split
    · split <;> trivial
    · trivial
  · trivial
end
end PM

/-! PP, part g: what the printed lifts name beside; plain reasoning -/
namespace PM
open PySem PySem.Spec L2
abbrev wMax : Nat := 1000000000000
def vAddN (v w : Val) (S : Sto) : Res Val := match v, w with
    | .lst xs, .lst ys => if xs.length + ys.length ≤ sizeLine then .ok (.lst (xs ++ ys)) S else .st
    | _, _ => .st
theorem FnOk.never {P : Program} {w : World} {K : PySem.W.Frag} {mg : Str → Option Value} {base : Heap} {CX : CXT} {k : Nat} {f : Addr} {fd : FuncData} {ps : List Str} {sp : Sp} (h : ∀ vs H Q E, ¬ sp vs H Q E) : FnOk P w K mg base CX k f fd ps sp :=
  ⟨fun vs H Q E q => (h vs H Q E q).elim, fun _ _ _ H _ _ vs Q E _ _ _ _ q => (h vs H Q E q).elim⟩
def eCutN (f : EM) (lo hi : OM) : EM := fun ρ S => (eCutP f lo hi ρ S).bind fun v S1 => match v with | .lst xs => .ok (.lst xs) S1 | _ => .st
/-- a body that returns -/
def NN (b : SM) : Prop := ∀ ρ Z ρ' Z', b ρ Z ≠ .nx ρ' Z'
theorem nn {b : SM} (h : NN b) : ∀ ρ Z ρ' Z', b ρ Z ≠ .nx ρ' Z' := h
theorem nn_ret {e : EM} : NN (sRet e) := fun ρ Z ρ' Z' h => by
  unfold sRet at h
  cases q : e ρ Z <;> rw [q] at h <;> cases h
theorem nn_raise {c : Nat} : NN (sRaise c) := fun ρ Z ρ' Z' h => by cases h
theorem nn_seq {s t : SM} (h : NN t) : NN (sSeq s t) := fun ρ Z ρ' Z' q => by
  unfold sSeq at q
  cases e : s ρ Z with
  | nx ρ1 Z1 => rw [e] at q; exact h _ _ _ _ q
  | _ => rw [e] at q; cases q
theorem nn_if {t : BM} {a b : SM} (h : NN a) (h2 : NN b) : NN (sIf t a b) := fun ρ Z ρ' Z' q => by
  unfold sIf at q
  cases e : t ρ Z with
  | ok c Z1 =>
    rw [e] at q
    cases c with
    | true => exact h _ _ _ _ q
    | false => exact h2 _ _ _ _ q
  | ex => rw [e] at q; cases q
  | st => rw [e] at q; cases q
section
variable {κ : List Kd} {rk : RK} {e1 e2 p1 p2 : EM}
/-- i, j = a, b: owned or not -/
theorem ls_parOO (i j : Nat) (hi : κ[i]? = some .o) (hj : κ[j]? = some .o) (hne : i ≠ j) (h1 : LE RF κ e1 p1) (h2 : LE RF κ e2 p2) : LS κ rk (sPar i j (aCons e1 (aCons e2 aNil))) (sPar i j (aCons p1 (aCons p2 aNil))) := fun c Z S ρ ρ' er st => by
  unfold sPar aCons aNil
  have q1 := h1 c Z S ρ ρ' S.next er st (Nat.le_refl _)
  revert q1
  cases p1 ρ' Z with
  | st => intro _; trivial
  | ex n vs Z1 => rintro ⟨S1, e, x, s1⟩; rw [e]; exact ⟨ρ, S1, c, rfl, .ofX er st x s1⟩
  | ok v' Z1 =>
    rintro ⟨v, S1, e, x, s1, k1, rfl, hk1, vl1⟩
    rw [e]
    have er1 := er.mono st x
    have q2 := h2 c Z1 S1 ρ ρ' S1.next er1 s1 (Nat.le_refl _)
    show SSim κ rk c S ρ ρ' (((e2 ρ S1).bind _ |>.bind _).toS ρ _) (((p2 ρ' Z1).bind _ |>.bind _).toS ρ' _)
    revert q2
    cases p2 ρ' Z1 with
    | st => intro _; trivial
    | ex n vs Z2 => rintro ⟨S2, e, x2, s2⟩; rw [e]; exact ⟨ρ, S2, c, rfl, .ofX er st (x.trans x2) s2⟩
    | ok w' Z2 =>
      rintro ⟨w, S2, e, x2, s2, k2, rfl, hk2, vl2⟩
      rw [e]
      have er2 := er1.mono s1 x2
      have l1 := vl1.lt s1
      have a1 := er2.set_o hi rfl (vl1.mono s1 x2) fun j _ => by
        intro u; have := (er.us_vl u).lt st; omega
      have a2 := a1.set_o hj rfl vl2 fun l hl u => by
        by_cases h : i = l
        · subst h
          obtain ⟨q, _⟩ := u
          rw [lk_same (by rw [er.len]; exact get_lt hi)] at q
          cases q; omega
        · rw [lk_ne h, lk_ne h] at u
          have := (er.us_vl u).lt st
          have := x.le
          omega
      have ef1 : EF κ S ρ ρ' (ρ.set i (some (.loc k1))) (ρ'.set i (some v')) := .set_o hk1 hi er.len
      have ef2 : EF κ S (ρ.set i (some (.loc k1))) (ρ'.set i (some v')) ((ρ.set i (some (.loc k1))).set j (some (.loc k2))) ((ρ'.set i (some v')).set j (some w')) := .set_o (Nat.le_trans x.le hk2) hj (by rw [List.length_set]; exact er.len)
      exact ⟨_, S2, c, rfl, (x.trans x2).sf, ef1.trans (Nat.le_refl _) ef2, .refl, s2, a2⟩
theorem ls_parOS (i j : Nat) (hi : κ[i]? = some .o) (hj : κ[j]? = some .s) (hne : i ≠ j) (h1 : LE RF κ e1 p1) (h2 : LE RV κ e2 p2) : LS κ rk (sPar i j (aCons e1 (aCons e2 aNil))) (sPar i j (aCons p1 (aCons p2 aNil))) := fun c Z S ρ ρ' er st => by
  unfold sPar aCons aNil
  have q1 := h1 c Z S ρ ρ' S.next er st (Nat.le_refl _)
  revert q1
  cases p1 ρ' Z with
  | st => intro _; trivial
  | ex n vs Z1 => rintro ⟨S1, e, x, s1⟩; rw [e]; exact ⟨ρ, S1, c, rfl, .ofX er st x s1⟩
  | ok v' Z1 =>
    rintro ⟨v, S1, e, x, s1, k1, rfl, hk1, vl1⟩
    rw [e]
    have er1 := er.mono st x
    have q2 := h2 c Z1 S1 ρ ρ' S1.next er1 s1 (Nat.le_refl _)
    show SSim κ rk c S ρ ρ' (((e2 ρ S1).bind _ |>.bind _).toS ρ _) (((p2 ρ' Z1).bind _ |>.bind _).toS ρ' _)
    revert q2
    cases p2 ρ' Z1 with
    | st => intro _; trivial
    | ex n vs Z2 => rintro ⟨S2, e, x2, s2⟩; rw [e]; exact ⟨ρ, S2, c, rfl, .ofX er st (x.trans x2) s2⟩
    | ok w' Z2 =>
      rintro ⟨w, S2, e, x2, s2, rfl⟩
      rw [e]
      have er2 := er1.mono s1 x2
      have a1 := er2.set_o hi rfl (vl1.mono s1 x2) fun j _ => by
        intro u; have := (er.us_vl u).lt st; omega
      have ef1 : EF κ S ρ ρ' (ρ.set i (some (.loc k1))) (ρ'.set i (some v')) := .set_o hk1 hi er.len
      exact ⟨_, S2, c, rfl, (x.trans x2).sf, ef1.trans (Nat.le_refl _) (.set_s hj), .refl, s2, a1.set_s hj _⟩
theorem ls_parSO (i j : Nat) (hi : κ[i]? = some .s) (hj : κ[j]? = some .o) (hne : i ≠ j) (h1 : LE RV κ e1 p1) (h2 : LE RF κ e2 p2) : LS κ rk (sPar i j (aCons e1 (aCons e2 aNil))) (sPar i j (aCons p1 (aCons p2 aNil))) := fun c Z S ρ ρ' er st => by
  unfold sPar aCons aNil
  have q1 := h1 c Z S ρ ρ' S.next er st (Nat.le_refl _)
  revert q1
  cases p1 ρ' Z with
  | st => intro _; trivial
  | ex n vs Z1 => rintro ⟨S1, e, x, s1⟩; rw [e]; exact ⟨ρ, S1, c, rfl, .ofX er st x s1⟩
  | ok v' Z1 =>
    rintro ⟨v, S1, e, x, s1, rfl⟩
    rw [e]
    have er1 := er.mono st x
    have q2 := h2 c Z1 S1 ρ ρ' S1.next er1 s1 (Nat.le_refl _)
    show SSim κ rk c S ρ ρ' (((e2 ρ S1).bind _ |>.bind _).toS ρ _) (((p2 ρ' Z1).bind _ |>.bind _).toS ρ' _)
    revert q2
    cases p2 ρ' Z1 with
    | st => intro _; trivial
    | ex n vs Z2 => rintro ⟨S2, e, x2, s2⟩; rw [e]; exact ⟨ρ, S2, c, rfl, .ofX er st (x.trans x2) s2⟩
    | ok w' Z2 =>
      rintro ⟨w, S2, e, x2, s2, k2, rfl, hk2, vl2⟩
      rw [e]
      have er2 := (er1.mono s1 x2).set_s hi (some v)
      have a2 := er2.set_o hj rfl vl2 fun l hl u => by
        by_cases h : i = l
        · subst h
          rw [lk_same (by rw [er.len]; exact get_lt hi), lk_same (by rw [er.len']; exact get_lt hi)] at u
          exact not_us_same u
        · rw [lk_ne h, lk_ne h] at u
          have := (er.us_vl u).lt st
          have := x.le
          omega
      have ef2 : EF κ S (ρ.set i (some v)) (ρ'.set i (some v)) ((ρ.set i (some v)).set j (some (.loc k2))) ((ρ'.set i (some v)).set j (some w')) := .set_o (Nat.le_trans x.le hk2) hj (by rw [List.length_set]; exact er.len)
      exact ⟨_, S2, c, rfl, (x.trans x2).sf, (EF.set_s hi).trans (Nat.le_refl _) ef2, .refl, s2, a2⟩
end
/-! ### plain reasoning -/
section
variable {X : XP} {ρ : Ev} {S : Sto} {P : Val → Sto → Prop} {D : En}
@[simp ↓] theorem rn_onto {r : Res Val} {Z : Sto} {kk : Kp (P, X)} : Rn (r.onto Z) P X kk = Rn r (fun v _ => P v Z) (fun c vs _ => X c vs Z) := by cases r <;> rfl
@[simp ↓] theorem e_binP {op : Val → Val → Sto → Res Val} {a b : EM} {kk : Kp (P, X)} : Rn (eBinP op a b ρ S) P X kk = Rn ((a ρ S).bind fun v S1 => (b ρ S1).bind fun w S2 => (op v w Z0).onto S2) P X := nr
@[simp ↓] theorem e_unP {op : Val → Sto → Res Val} {a : EM} {kk : Kp (P, X)} : Rn (eUnP op a ρ S) P X kk = Rn ((a ρ S).bind fun v S1 => (op v Z0).onto S1) P X := nr
@[simp ↓] theorem e_biP {op : List Val → Sto → Res Val} {a : AM} {kk : Kp (P, X)} : Rn (eBIP op a ρ S) P X kk = Rn ((a ρ S).bind fun vs S1 => (op vs Z0).onto S1) P X := nr
@[simp ↓] theorem e_bmP {chk : Val → Sto → Bool} {op : Val → List Val → Sto → Res Val} {o : EM} {a : AM} {kk : Kp (P, X)} : Rn (eBMP chk op o a ρ S) P X kk = Rn ((o ρ S).bind fun v S1 => if chk v Z0 then (a ρ S1).bind fun vs S2 => (op v vs Z0).onto S2 else .st) P X := nr
@[simp ↓] theorem e_attrP {c i : Nat} {o : EM} {kk : Kp (P, X)} : Rn (eAttrP c i o ρ S) P X kk = Rn ((o ρ S).bind fun v S1 => match insOf Z0 v with
  | some (c', vs) => if c' = c then vr vs[i]? S1 else .st
  | none => .st) P X := nr
@[simp ↓] theorem e_methP {n c : Nat} {F : FM} {o : EM} {a : AM} {kk : Kp (P, X)} : Rn (eMethP n c F o a ρ S) P X kk = Rn ((o ρ S).bind fun v S1 => if isInst c Z0 v then (a ρ S1).bind fun vs S2 => if (v :: vs).length = n then noEx (F (v :: vs) S2) else .st else .st) P X := nr
@[simp ↓] theorem e_methXP {n c : Nat} {F : FM} {o : EM} {a : AM} {kk : Kp (P, X)} : Rn (eMethXP n c F o a ρ S) P X kk = Rn ((o ρ S).bind fun v S1 => if isInst c Z0 v then (a ρ S1).bind fun vs S2 => if (v :: vs).length = n then F (v :: vs) S2 else .st else .st) P X := nr
@[simp ↓] theorem e_makeP {n c : Nat} {F : FM} {a : AM} {kk : Kp (P, X)} : Rn (eMakeP n c F a ρ S) P X kk = Rn ((a ρ S).bind fun vs S1 => if vs.length + 1 = n then mkP (noEx (F (.ins c [] :: vs) S1)) else .st) P X := nr
@[simp ↓] theorem e_makeXP {n c : Nat} {F : FM} {a : AM} {kk : Kp (P, X)} : Rn (eMakeXP n c F a ρ S) P X kk = Rn ((a ρ S).bind fun vs S1 => if vs.length + 1 = n then mkP (F (.ins c [] :: vs) S1) else .st) P X := nr
@[simp ↓] theorem rn_mkP {r : Res Val} {kk : Kp (P, X)} : Rn (mkP r) P X kk = Rn r (fun v Z => match v with | .tup [.non, u] => P u Z | _ => False) X := by
  cases r with
  | ok v Z =>
    by_cases h : ∃ u, v = .tup [.non, u]
    · obtain ⟨u, rfl⟩ := h; rfl
    · have h1 : mkP (.ok v Z) = .st := by
        unfold mkP
        split
        · rename_i q; cases q; exact absurd ⟨_, rfl⟩ h
        · rfl
        · rename_i q; cases q
        · rfl
      rw [h1, rn_ok]
      split
      · exact absurd ⟨_, rfl⟩ h
      · rfl
  | ex => rfl
  | st => rfl
@[simp ↓] theorem e_cutP {f : EM} {lo hi : OM} {kk : Kp (P, X)} : Rn (eCutP f lo hi ρ S) P X kk = Rn ((f ρ S).bind fun v S1 => (lo ρ S1).bind fun l S2 => (hi ρ S2).bind fun u S3 => (vCut false v l u Z0).onto S3) P X := nr
@[simp ↓] theorem e_cutN {f : EM} {lo hi : OM} {kk : Kp (P, X)} : Rn (eCutN f lo hi ρ S) P X kk = Rn ((eCutP f lo hi ρ S).bind fun v S1 => match v with | .lst xs => .ok (.lst xs) S1 | _ => .st) P X := nr
@[simp ↓] theorem e_listRP {a b : EM} {kk : Kp (P, X)} : Rn (eListRP a b ρ S) P X kk = Rn ((a ρ S).bind fun v S1 => (b ρ S1).bind fun w S2 => match v, w with
  | .int i, .int j => if -4611686018427387904 ≤ i ∧ i < 4611686018427387904 ∧ -4611686018427387904 ≤ j ∧ j < 4611686018427387904 ∧ (j - i).toNat ≤ 16777216 then .ok (.lst (rangeL i (j - i).toNat)) S2 else .st
  | _, _ => .st) P X := nr
@[simp ↓] theorem e_chainP {o o' : Val → Val → Sto → Res Val} {a b c : EM} {kk : Kp (P, X)} : Rn (eChainP o o' a b c ρ S) P X kk = Rn ((a ρ S).bind fun v S1 => (b ρ S1).bind fun w S2 => ((o v w Z0).onto S2).bind fun k S3 => match k with
  | .bl true => (c ρ S3).bind fun z S4 => (o' w z Z0).onto S4
  | .bl false => .ok (.bl false) S3
  | _ => .st) P X := nr
@[simp ↓] theorem e_truP {f : EM} {P : Bool → Sto → Prop} {kk : Kp (P, X)} : Rn (tTruP f ρ S) P X kk = Rn ((f ρ S).bind fun v S1 => match truOf Z0 v with | some c => .ok c S1 | none => .st) P X := nr
@[simp ↓] theorem e_iseqP {f : EM} {P : List Val → Sto → Prop} {kk : Kp (P, X)} : Rn (iSeqP f ρ S) P X kk = Rn ((f ρ S).bind fun v S1 => match itemsP v with | some xs => .ok xs S1 | none => .st) P X := nr
@[simp ↓] theorem e_irevP {f : EM} {P : List Val → Sto → Prop} {kk : Kp (P, X)} : Rn (iRevP f ρ S) P X kk = Rn ((f ρ S).bind fun v S1 => match revP v with | some xs => .ok xs S1 | none => .st) P X := nr
@[simp ↓] theorem e_ienumP {f : EM} {P : List Val → Sto → Prop} {kk : Kp (P, X)} : Rn (iEnumP f ρ S) P X kk = Rn ((f ρ S).bind fun v S1 => match enumP v with | some xs => .ok xs S1 | none => .st) P X := nr
@[simp ↓] theorem e_irange1P {a : EM} {P : List Val → Sto → Prop} {kk : Kp (P, X)} : Rn (iRange1P a ρ S) P X kk = Rn ((a ρ S).bind fun v S1 => match v with
  | .int j => if -4611686018427387904 ≤ j ∧ j < 4611686018427387904 then .ok (rangeL 0 j.toNat) S1 else .st
  | _ => .st) P X := nr
@[simp ↓] theorem e_irange2P {a b : EM} {P : List Val → Sto → Prop} {kk : Kp (P, X)} : Rn (iRange2P a b ρ S) P X kk = Rn ((a ρ S).bind fun v S1 => (b ρ S1).bind fun w S2 => match v, w with
  | .int i, .int j => if -4611686018427387904 ≤ i ∧ i < 4611686018427387904 ∧ -4611686018427387904 ≤ j ∧ j < 4611686018427387904 then .ok (rangeL i (j - i).toNat) S2 else .st
  | _, _ => .st) P X := nr
@[simp] theorem items_t {xs : List Val} : itemsP (.tup xs) = some xs := nr
@[simp] theorem items_l {xs : List Val} : itemsP (.lst xs) = some xs := nr
@[simp] theorem items_f {xs : List Val} : itemsP (.fz xs) = some xs := nr
@[simp] theorem rev_l {xs : List Val} : revP (.lst xs) = some xs.reverse := nr
@[simp] theorem enum_l {xs : List Val} : enumP (.lst xs) = some (zipE xs) := nr
@[simp ↓] theorem v_addLN {xs ys : List Val} {Z : Sto} : vAddN (.lst xs) (.lst ys) Z = if xs.length + ys.length ≤ sizeLine then .ok (.lst (xs ++ ys)) Z else .st := nr
@[simp ↓] theorem v_addL {xs ys : List Val} {Z : Sto} : vAdd false (.lst xs) (.lst ys) Z = if xs.length + ys.length ≤ sizeLine then .ok (.lst (xs ++ ys)) Z else .st := nr
/-! statements -/
@[simp ↓] theorem s_appP {j : Nat} {e : EM} {kk : Kp D} : Sn (sAppP j e ρ S) D kk = Sn (lsP (lk ρ j) fun xs => (e ρ S).toS ρ fun u S1 => if xs.length < sizeLine then .nx (ρ.set j (some (.lst (xs ++ [u])))) S1 else .st) D := nr
@[simp ↓] theorem s_extP {j : Nat} {e : EM} {kk : Kp D} : Sn (sExtP j e ρ S) D kk = Sn (lsP (lk ρ j) fun xs => (e ρ S).toS ρ fun u S1 => lsP (some u) fun ys => if xs.length + ys.length ≤ sizeLine then .nx (ρ.set j (some (.lst (xs ++ ys)))) S1 else .st) D := nr
@[simp ↓] theorem s_lsP {xs : List Val} {f : List Val → SRes} {kk : Kp D} : Sn (lsP (some (.lst xs)) f) D kk = Sn (f xs) D := nr
@[simp ↓] theorem s_setIxP {j : Nat} {i e : EM} {kk : Kp D} : Sn (sSetIxP j i e ρ S) D kk = Sn ((e ρ S).toS ρ fun u S1 => lsP (lk ρ j) fun xs => (i ρ S1).toS ρ fun w S2 => match w with
  | .int m => (match ixN xs.length m with
    | some n => .nx (ρ.set j (some (.lst (xs.set n u)))) S2
    | none => .st)
  | _ => .st) D := nr
@[simp ↓] theorem s_attrP {c i j : Nat} {e : EM} {kk : Kp D} : Sn (sAttrP c i j e ρ S) D kk = Sn ((e ρ S).toS ρ fun u S1 => match lk ρ j with
  | some (.ins c' vs) => if c' = c then (if i < vs.length then .nx (ρ.set j (some (.ins c (vs.set i u)))) S1 else if i = vs.length then .nx (ρ.set j (some (.ins c (vs ++ [u])))) S1 else .st) else .st
  | _ => .st) D := nr
@[simp ↓] theorem s_move {j i : Nat} {kk : Kp D} : Sn (sMove j i ρ S) D kk = Sn ((vr (lk ρ i) S).toS ρ fun v S1 => .nx ((ρ.set i none).set j (some v)) S1) D := nr
@[simp ↓] theorem s_cell {i : Nat} {e : EM} {kk : Kp D} : Sn (sCell i e ρ S) D kk = Sn ((e ρ S).toS ρ fun v S1 => lsP (some v) fun xs => .nx (ρ.set i (some (.loc S1.next))) (S1.alloc (.lst xs))) D := nr
@[simp ↓] theorem s_augP {i : Nat} {op : Val → Val → Sto → Res Val} {e : EM} {kk : Kp D} : Sn (sAugP i op e ρ S) D kk = Sn ((vr (lk ρ i) S).toS ρ fun v _ => (e ρ S).toS ρ fun w S1 => ((op v w Z0).onto S1).toS ρ fun z S2 => .nx (ρ.set i (some z)) S2) D := nr
@[simp ↓] theorem s_forP {it : IP} {tg : Tgt} {b : SM} {kk : Kp D} : Sn (sForP it tg b ρ S) D kk = Sn ((it ρ S).toS ρ fun xs S1 => forP tg b xs ρ S1) D := nr
theorem rn_runBP {i n : Nat} {b : SM} {vs : List Val} {kk : Kp (P, X)} : Rn (runBP i n b vs S) P X kk = Sn (b (vs.map Option.some ++ List.replicate (n - vs.length) none) S) ⟨fun ρ S => Rn (vr (lk ρ i) S) (fun u S => P (.tup [.non, u]) S) X0, P, fun _ _ => False, fun _ _ => False, fun c vs _ S => X c vs S⟩ := by
  unfold runBP
  cases b (vs.map Option.some ++ List.replicate (n - vs.length) none) S with
  | nx ρ S1 => show _ = Rn (vr (lk ρ i) S1) _ _; cases e : lk ρ i <;> simp [Rn, vr, e]
  | _ => rfl
end
/-! ### loops -/
section
variable {tg : Tgt} {b : SM} {N : Ev → Sto → Prop} {R : Val → Sto → Prop} {B C : Ev → Sto → Prop} {E : Nat → List Val → Ev → Sto → Prop}
theorem forP_nil {ρ : Ev} {S : Sto} {D : En} {kk : Kp D} : Sn (forP tg b [] ρ S) D kk = D.nx ρ S := nr
/-- a turn, the next turns -/
theorem forP_cons {v : Val} {vs : List Val} {ρ ρ1 : Ev} {S : Sto} (e : tg.set v ρ = some ρ1) (h : Sn (b ρ1 S) ⟨fun ρ S => Sn (forP tg b vs ρ S) ⟨N, R, B, C, E⟩, R, N, fun ρ S => Sn (forP tg b vs ρ S) ⟨N, R, B, C, E⟩, E⟩) : Sn (forP tg b (v :: vs) ρ S) ⟨N, R, B, C, E⟩ := by
  unfold forP
  rw [e]
  dsimp only
  cases eb : b ρ1 S <;> (rw [eb] at h; exact h)
theorem sn_forPM {α : Type} {f : α → Val} {xs : List α} {ρ : Ev} {S : Sto} (I : List α → Ev → Sto → Prop) (init : I xs ρ S)
    (step : ∀ v r ρ S, v ∈ xs → I (v :: r) ρ S → ∃ ρ1, tg.set (f v) ρ = some ρ1 ∧ Sn (b ρ1 S) ⟨I r, R, N, I r, E⟩) (fin : ∀ ρ S, I [] ρ S → N ρ S) : Sn (forP tg b (xs.map f) ρ S) ⟨N, R, B, C, E⟩ := by
  have : ∀ (ys : List α) (ρ : Ev) (S : Sto), (∀ y ∈ ys, y ∈ xs) → I ys ρ S → Sn (forP tg b (ys.map f) ρ S) ⟨N, R, B, C, E⟩ := by
    intro ys
    induction ys with
    | nil => exact fun ρ S _ h => fin ρ S h
    | cons y ys ih =>
      intro ρ S hy h
      obtain ⟨ρ1, e, q⟩ := step y ys ρ S (hy y List.mem_cons_self) h
      refine forP_cons e (q.imp ?_ ?_ ?_ ?_ ?_)
      · exact fun ρ S z => ih ρ S (fun z hz => hy z (List.mem_cons_of_mem _ hz)) z
      · exact fun _ _ z => z
      · exact fun _ _ z => z
      · exact fun ρ S z => ih ρ S (fun z hz => hy z (List.mem_cons_of_mem _ hz)) z
      · exact fun _ _ _ _ z => z
  exact this xs ρ S (fun _ h => h) init
theorem rangeL_map (lo : Int) (n : Nat) : rangeL lo n = (List.range n).map fun (i : Nat) => Val.int (lo + (i : Int)) := nr
theorem sn_forPR {lo : Int} {n : Nat} {ρ : Ev} {S : Sto} (I : Nat → Ev → Sto → Prop) (init : I 0 ρ S)
    (step : ∀ i ρ S, i < n → I i ρ S → ∃ ρ1, tg.set (.int (lo + (i : Int))) ρ = some ρ1 ∧ Sn (b ρ1 S) ⟨I (i + 1), R, N, I (i + 1), E⟩) (fin : ∀ ρ S, I n ρ S → N ρ S) :
    Sn (forP tg b (rangeL lo n) ρ S) ⟨N, R, B, C, E⟩ := by
  have : ∀ (m i : Nat) (ρ : Ev) (S : Sto), i + m = n → I i ρ S → Sn (forP tg b ((List.range' i m).map fun (i : Nat) => Val.int (lo + (i : Int))) ρ S) ⟨N, R, B, C, E⟩ := by
    intro m
    induction m with
    | zero => intro i ρ S hi h; rw [List.range'_zero, List.map_nil]; exact fin ρ S (by rw [← hi]; exact h)
    | succ m ih =>
      intro i ρ S hi h
      rw [List.range'_succ, List.map_cons]
      obtain ⟨ρ1, e, q⟩ := step i ρ S (by omega) h
      refine forP_cons e (q.imp ?_ ?_ ?_ ?_ ?_)
      · exact fun ρ S z => ih (i + 1) ρ S (by omega) z
      · exact fun _ _ z => z
      · exact fun _ _ z => z
      · exact fun ρ S z => ih (i + 1) ρ S (by omega) z
      · exact fun _ _ _ _ z => z
  rw [rangeL_map, List.range_eq_range']
  exact this n 0 ρ S (by omega) init
/-- a while by a measure -/
theorem sn_while {t : BM} {s : SM} (M : Ev → Sto → Nat) (I : Ev → Sto → Prop)
    (step : ∀ ρ S, I ρ S → Rn (t ρ S) (fun c S1 => (c = true → Sn (s ρ S1) ⟨fun ρ' S' => I ρ' S' ∧ M ρ' S' < M ρ S, R, N, fun ρ' S' => I ρ' S' ∧ M ρ' S' < M ρ S, E⟩) ∧ (c = false → N ρ S1)) (fun c vs S => E c vs ρ S)) :
    ∀ {n : Nat} {ρ : Ev} {S : Sto}, I ρ S → M ρ S < n → Sn (whileM n t s ρ S) ⟨N, R, B, C, E⟩ := by
  intro n
  induction n with
  | zero => exact fun _ h => absurd h (Nat.not_lt_zero _)
  | succ n ih =>
    intro ρ S hI hM
    have := step ρ S hI
    unfold whileM
    rw [sn_toS]
    refine this.imp (fun c S1 h => ?_) (fun _ _ _ z => z)
    cases c with
    | false => simpa using h.2 rfl
    | true =>
      have h := h.1 rfl
      simp only [if_true]
      cases eb : s ρ S1 with
      | nx ρ' S' => rw [eb] at h; exact ih h.1 (by have := h.2; omega)
      | ct ρ' S' => rw [eb] at h; exact ih h.1 (by have := h.2; omega)
      | bk => rw [eb] at h; exact h
      | rt => rw [eb] at h; exact h
      | ex => rw [eb] at h; exact h
      | st => rw [eb] at h; exact h
end
/-! ### list comprehensions -/
section
variable {it : IP} {tg : Tgt} {tst : BM} {elt : EM} {ws : List Nat} {ρ : Ev} {S : Sto} {P : Val → Sto → Prop} {X : XP}
/-- each item one value -/
theorem lcGoP_map {α : Type} {f g : α → Val} {ρ0 : Ev} : ∀ {xs : List α}, (∀ x ∈ xs, ∃ ρ1, tg.set (f x) ρ0 = some ρ1 ∧ elt ρ1 S = .ok (g x) S) → lcGoP tg tYesM elt ρ0 (xs.map f) S = .ok (xs.map g) S
  | [], _ => rfl
  | x :: xs, h => by
    obtain ⟨ρ1, e1, e2⟩ := h x List.mem_cons_self
    rw [List.map_cons, List.map_cons]
    unfold lcGoP
    rw [e1]
    show ((noEx (elt ρ1 S)).bind _ : Res (List Val)) = _
    rw [e2]
    show (lcGoP tg tYesM elt ρ0 (xs.map f) S).bind _ = _
    rw [lcGoP_map fun y hy => h y (List.mem_cons_of_mem _ hy)]; rfl
theorem eLcP_map {α : Type} {f g : α → Val} {xs : List α} (hit : it ρ S = .ok (xs.map f) S) (hl : xs.length ≤ sizeLine) (he : ∀ x ∈ xs, ∃ ρ1, tg.set (f x) (wipeE ρ ws) = some ρ1 ∧ elt ρ1 S = .ok (g x) S) : eLcP it tg tYesM elt ws ρ S = .ok (.lst (xs.map g)) S := by
  unfold eLcP
  rw [hit]
  show (lcGoP _ _ _ _ _ _).bind _ = _
  rw [lcGoP_map he]
  show (if (xs.map g).length ≤ sizeLine then _ else _) = _
  rw [if_pos (by simpa using hl)]
/-- .. with a test -/
theorem lcGoP_filter {α : Type} {f g : α → Val} {t : α → Bool} {ρ0 : Ev} : ∀ {xs : List α}, (∀ x ∈ xs, ∃ ρ1, tg.set (f x) ρ0 = some ρ1 ∧ tst ρ1 S = .ok (t x) S ∧ (t x = true → elt ρ1 S = .ok (g x) S)) → lcGoP tg tst elt ρ0 (xs.map f) S = .ok ((xs.filter t).map g) S
  | [], _ => rfl
  | x :: xs, h => by
    obtain ⟨ρ1, e1, e2, e3⟩ := h x List.mem_cons_self
    rw [List.map_cons]
    unfold lcGoP
    rw [e1]
    dsimp only
    rw [e2]
    have ih := lcGoP_filter (xs := xs) fun y hy => h y (List.mem_cons_of_mem _ hy)
    cases ht : t x with
    | false =>
      show lcGoP tg tst elt ρ0 (xs.map f) S = _
      rw [ih, List.filter_cons, ht]; rfl
    | true =>
      show ((noEx (elt ρ1 S)).bind _ : Res (List Val)) = _
      rw [e3 ht]
      show ((lcGoP tg tst elt ρ0 (xs.map f) S).bind _ : Res (List Val)) = _
      rw [ih, List.filter_cons, ht]; rfl
theorem eLcP_filter {α : Type} {f g : α → Val} {t : α → Bool} {xs : List α} (hit : it ρ S = .ok (xs.map f) S) (hl : xs.length ≤ sizeLine) (he : ∀ x ∈ xs, ∃ ρ1, tg.set (f x) (wipeE ρ ws) = some ρ1 ∧ tst ρ1 S = .ok (t x) S ∧ (t x = true → elt ρ1 S = .ok (g x) S)) : eLcP it tg tst elt ws ρ S = .ok (.lst ((xs.filter t).map g)) S := by
  unfold eLcP
  rw [hit]
  show (lcGoP _ _ _ _ _ _).bind _ = _
  rw [lcGoP_filter he]
  show (if ((xs.filter t).map g).length ≤ sizeLine then _ else _) = _
  rw [if_pos (by rw [List.length_map]; exact Nat.le_trans (List.length_filter_le _ _) hl)]
end
/-- an exact answer -/
theorem rn_eq {α : Type} {r : Res α} {a : α} {S : Sto} (h : Rn r (fun v S' => v = a ∧ S' = S) X0) : r = .ok a S := by
  obtain ⟨v, S', e, rfl, rfl⟩ := h.get
  exact e
theorem rn_eqx {α : Type} {r : Res α} {c : Nat} {vs : List Val} {S : Sto} (h : Rn r (fun _ _ => False) (fun c' vs' S' => c' = c ∧ vs' = vs ∧ S' = S)) : r = .ex c vs S := by
  cases r with
  | ok => exact h.elim
  | ex => obtain ⟨rfl, rfl, rfl⟩ := h; rfl
  | st => exact h.elim
theorem lf_fun {κ : List Kd} {F G : FM} (h : LF κ .v F G) {vs : List Val} {v : Val} {Z1 : Sto} (hv : EvR κ [] S0 (vs.map some) (vs.map some)) (e : G vs Z0 = .ok v Z1) : ∃ S1, F vs S0 = .ok v S1 := by
  have := h [] Z0 S0 vs vs hv { cr := fun p hp => (nomatch hp), inj := fun p hp => (nomatch hp), wf := fun k o h => (nomatch h), wz := fun k o h => (nomatch h) }
  rw [e] at this
  obtain ⟨w, S1, e1, _, _, q⟩ := this
  exact ⟨S1, by rw [e1, show w = v from q]⟩
end PM

/-! PP, part h: plain reasoning: equality of data -/
namespace PM
open PySem PySem.Spec L2
/-- data without truth values, of a bounded depth: what compares as it stands -/
def nc : Nat → Val → Bool
  | _, .non => true
  | _, .int _ => true
  | _, .str x => PyData.strOk x
  | k + 1, .tup xs => xs.all (nc k)
  | k + 1, .lst xs => xs.all (nc k)
  | _, _ => false
section
variable {k : Nat} {xs : List Val}
@[simp] theorem nc_non : nc k .non = true := by cases k <;> rfl
@[simp] theorem nc_int {i : Int} : nc k (.int i) = true := by cases k <;> rfl
@[simp] theorem nc_str {x : Str} : nc k (.str x) = PyData.strOk x := by cases k <;> rfl
@[simp] theorem nc_tup : nc (k + 1) (.tup xs) = xs.all (nc k) := rfl
@[simp] theorem nc_lst : nc (k + 1) (.lst xs) = xs.all (nc k) := rfl
end
mutual
theorem nc_dat : ∀ {k : Nat} {v : Val}, nc k v = true → ∃ d, v.dat = some d ∧ lay k d = true
  | _, .non, _ => ⟨_, dat_non, lay_none⟩
  | _, .int i, _ => ⟨_, dat_int, lay_int i⟩
  | _, .str x, h => ⟨_, dat_str, lay_str (by simpa using h)⟩
  | k + 1, .tup xs, h => by
    obtain ⟨ds, e, q⟩ := nc_dats (k := k) (vs := xs) (by simpa using h)
    exact ⟨.tuple ds, by rw [dat_tup, e]; rfl, lay_tuple q⟩
  | k + 1, .lst xs, h => by
    obtain ⟨ds, e, q⟩ := nc_dats (k := k) (vs := xs) (by simpa using h)
    exact ⟨.list ds, by rw [dat_lst, e]; rfl, lay_list q⟩
  | 0, .tup _, h => by cases h
  | 0, .lst _, h => by cases h
  | 0, .bl _, h => by cases h
  | _ + 1, .bl _, h => by cases h
  | 0, .ty _, h => by cases h
  | _ + 1, .ty _, h => by cases h
  | 0, .fz _, h => by cases h
  | _ + 1, .fz _, h => by cases h
  | 0, .dk _ _, h => by cases h
  | _ + 1, .dk _ _, h => by cases h
  | 0, .dt _ _, h => by cases h
  | _ + 1, .dt _ _, h => by cases h
  | 0, .ins _ _, h => by cases h
  | _ + 1, .ins _ _, h => by cases h
  | 0, .err _ _, h => by cases h
  | _ + 1, .err _ _, h => by cases h
  | 0, .cls _, h => by cases h
  | _ + 1, .cls _, h => by cases h
  | 0, .loc _, h => by cases h
  | _ + 1, .loc _, h => by cases h
theorem nc_dats : ∀ {k : Nat} {vs : List Val}, (∀ v ∈ vs, nc k v = true) → ∃ ds, Val.dats vs = some ds ∧ ∀ d ∈ ds, lay k d = true
  | _, [], _ => ⟨[], dats_nil, fun _ h => nomatch h⟩
  | k, v :: vs, h => by
    obtain ⟨d, e1, q1⟩ := nc_dat (h v List.mem_cons_self)
    obtain ⟨ds, e2, q2⟩ := nc_dats fun w hw => h w (List.mem_cons_of_mem _ hw)
    exact ⟨d :: ds, dats_cons e1 e2, fun z hz => by
      rcases List.mem_cons.mp hz with rfl | hz
      · exact q1
      · exact q2 z hz⟩
end
mutual
/-- the data tell the value -/
theorem nc_eqv : ∀ {j k : Nat} {v w : Val} {d e : PyData}, nc j v = true → nc k w = true → v.dat = some d → w.dat = some e → (PyData.eqv d e = true ↔ v = w)
  | j, k, v, w, d, e, hv, hw, e1, e2 => by
    cases v with
    | non =>
      rw [dat_non] at e1; cases e1
      cases w with
      | non => rw [dat_non] at e2; cases e2; simp [PyData.eqv]
      | int => rw [dat_int] at e2; cases e2; simp [PyData.eqv]
      | str => rw [dat_str] at e2; cases e2; simp [PyData.eqv]
      | tup => rw [dat_tup] at e2; obtain ⟨es, h2, rfl⟩ := Option.map_eq_some_iff.mp e2; simp [PyData.eqv]
      | lst => rw [dat_lst] at e2; obtain ⟨es, h2, rfl⟩ := Option.map_eq_some_iff.mp e2; simp [PyData.eqv]
      | _ => cases k <;> cases hw
    | int i =>
      rw [dat_int] at e1; cases e1
      cases w with
      | non => rw [dat_non] at e2; cases e2; simp [PyData.eqv]
      | int => rw [dat_int] at e2; cases e2; simp [PyData.eqv]
      | str => rw [dat_str] at e2; cases e2; simp [PyData.eqv]
      | tup => rw [dat_tup] at e2; obtain ⟨es, h2, rfl⟩ := Option.map_eq_some_iff.mp e2; simp [PyData.eqv]
      | lst => rw [dat_lst] at e2; obtain ⟨es, h2, rfl⟩ := Option.map_eq_some_iff.mp e2; simp [PyData.eqv]
      | _ => cases k <;> cases hw
    | str x =>
      rw [dat_str] at e1; cases e1
      cases w with
      | non => rw [dat_non] at e2; cases e2; simp [PyData.eqv]
      | int => rw [dat_int] at e2; cases e2; simp [PyData.eqv]
      | str => rw [dat_str] at e2; cases e2; simp [PyData.eqv]
      | tup => rw [dat_tup] at e2; obtain ⟨es, h2, rfl⟩ := Option.map_eq_some_iff.mp e2; simp [PyData.eqv]
      | lst => rw [dat_lst] at e2; obtain ⟨es, h2, rfl⟩ := Option.map_eq_some_iff.mp e2; simp [PyData.eqv]
      | _ => cases k <;> cases hw
    | tup xs =>
      rw [dat_tup] at e1; obtain ⟨ds, h1, rfl⟩ := Option.map_eq_some_iff.mp e1
      cases w with
      | tup ys =>
        rw [dat_tup] at e2; obtain ⟨es, h2, rfl⟩ := Option.map_eq_some_iff.mp e2
        cases j with
        | zero => cases hv
        | succ j =>
          cases k with
          | zero => cases hw
          | succ k =>
            have := nc_eqvs (by simpa using hv) (by simpa using hw) h1 h2
            unfold PyData.eqv
            rw [this]; simp
      | non => rw [dat_non] at e2; cases e2; simp [PyData.eqv]
      | int => rw [dat_int] at e2; cases e2; simp [PyData.eqv]
      | str => rw [dat_str] at e2; cases e2; simp [PyData.eqv]
      | lst => rw [dat_lst] at e2; obtain ⟨es, h2, rfl⟩ := Option.map_eq_some_iff.mp e2; simp [PyData.eqv]
      | _ => cases k <;> cases hw
    | lst xs =>
      rw [dat_lst] at e1; obtain ⟨ds, h1, rfl⟩ := Option.map_eq_some_iff.mp e1
      cases w with
      | lst ys =>
        rw [dat_lst] at e2; obtain ⟨es, h2, rfl⟩ := Option.map_eq_some_iff.mp e2
        cases j with
        | zero => cases hv
        | succ j =>
          cases k with
          | zero => cases hw
          | succ k =>
            have := nc_eqvs (by simpa using hv) (by simpa using hw) h1 h2
            unfold PyData.eqv
            rw [this]; simp
      | non => rw [dat_non] at e2; cases e2; simp [PyData.eqv]
      | int => rw [dat_int] at e2; cases e2; simp [PyData.eqv]
      | str => rw [dat_str] at e2; cases e2; simp [PyData.eqv]
      | tup => rw [dat_tup] at e2; obtain ⟨es, h2, rfl⟩ := Option.map_eq_some_iff.mp e2; simp [PyData.eqv]
      | _ => cases k <;> cases hw
    | _ => cases j <;> cases hv
theorem nc_eqvs : ∀ {j k : Nat} {vs ws : List Val} {ds es : List PyData}, (∀ v ∈ vs, nc j v = true) → (∀ w ∈ ws, nc k w = true) → Val.dats vs = some ds → Val.dats ws = some es → (PyData.eqvAll ds es = true ↔ vs = ws)
  | _, _, [], [], _, _, _, _, h1, h2 => by rw [dats_nil] at h1 h2; cases h1; cases h2; simp [PyData.eqvAll]
  | _, _, [], w :: ws, _, _, _, hw, h1, h2 => by
    rw [dats_nil] at h1; cases h1
    obtain ⟨d, q1, _⟩ := nc_dat (hw w List.mem_cons_self)
    obtain ⟨ds, q2, _⟩ := nc_dats fun z hz => hw z (List.mem_cons_of_mem _ hz)
    rw [dats_cons q1 q2] at h2; cases h2; simp [PyData.eqvAll]
  | _, _, v :: vs, [], _, _, hv, _, h1, h2 => by
    rw [dats_nil] at h2; cases h2
    obtain ⟨d, q1, _⟩ := nc_dat (hv v List.mem_cons_self)
    obtain ⟨ds, q2, _⟩ := nc_dats fun z hz => hv z (List.mem_cons_of_mem _ hz)
    rw [dats_cons q1 q2] at h1; cases h1; simp [PyData.eqvAll]
  | _, _, v :: vs, w :: ws, _, _, hv, hw, h1, h2 => by
    obtain ⟨d, q1, _⟩ := nc_dat (hv v List.mem_cons_self)
    obtain ⟨ds, q2, _⟩ := nc_dats fun z hz => hv z (List.mem_cons_of_mem _ hz)
    rw [dats_cons q1 q2] at h1; cases h1
    obtain ⟨e, q3, _⟩ := nc_dat (hw w List.mem_cons_self)
    obtain ⟨es, q4, _⟩ := nc_dats fun z hz => hw z (List.mem_cons_of_mem _ hz)
    rw [dats_cons q3 q4] at h2; cases h2
    unfold PyData.eqvAll
    rw [Bool.and_eq_true, nc_eqv (hv v List.mem_cons_self) (hw w List.mem_cons_self) q1 q3, nc_eqvs (fun z hz => hv z (List.mem_cons_of_mem _ hz)) (fun z hz => hw z (List.mem_cons_of_mem _ hz)) q2 q4]
    simp
end
theorem datS_nc {k : Nat} {v : Val} {S : Sto} (h : nc k v = true) : datS S v = v.dat := by
  unfold datS
  cases v <;> first | rfl | (cases k <;> cases h)
open Classical in
theorem v_eqN {v w : Val} {S : Sto} (hv : nc 60 v = true) (hw : nc 60 w = true) : vEq v w S = .ok (.bl (decide (v = w))) S := by
  obtain ⟨d, e1, q1⟩ := nc_dat hv
  obtain ⟨e, e2, q2⟩ := nc_dat hw
  unfold vEq
  rw [datS_nc hv, datS_nc hw, e1, e2]
  dsimp only
  rw [if_pos ⟨shaped_of q1 (by decide), shaped_of q2 (by decide)⟩]
  congr 2
  exact Bool.eq_iff_iff.mpr ((nc_eqv hv hw e1 e2).trans (by simp))
open Classical in
theorem v_neN {v w : Val} {S : Sto} (hv : nc 60 v = true) (hw : nc 60 w = true) : vNe v w S = .ok (.bl (!decide (v = w))) S := by
  obtain ⟨d, e1, q1⟩ := nc_dat hv
  obtain ⟨e, e2, q2⟩ := nc_dat hw
  unfold vNe
  rw [datS_nc hv, datS_nc hw, e1, e2]
  dsimp only
  rw [if_pos ⟨shaped_of q1 (by decide), shaped_of q2 (by decide)⟩]
  congr 3
  exact Bool.eq_iff_iff.mpr ((nc_eqv hv hw e1 e2).trans (by simp))
theorem v_eqR {v : Val} {S : Sto} (hv : nc 60 v = true) : vEq v v S = .ok (.bl true) S := by rw [v_eqN hv hv]; simp
theorem v_neR {v : Val} {S : Sto} (hv : nc 60 v = true) : vNe v v S = .ok (.bl false) S := by rw [v_neN hv hv]; simp
theorem any_eqv {k j : Nat} {v : Val} {d : PyData} (hv : nc k v = true) (e : v.dat = some d) : ∀ {ws : List Val} {es : List PyData}, (∀ w ∈ ws, nc j w = true) → Val.dats ws = some es → ((es.any fun z => PyData.eqv z d) = true ↔ v ∈ ws)
  | [], es, _, h => by rw [dats_nil] at h; cases h; simp
  | w :: ws, es, hw, h => by
    obtain ⟨d2, q1, _⟩ := nc_dat (hw w List.mem_cons_self)
    obtain ⟨ds, q2, _⟩ := nc_dats fun z hz => hw z (List.mem_cons_of_mem _ hz)
    rw [dats_cons q1 q2] at h; cases h
    rw [List.any_cons, Bool.or_eq_true, any_eqv hv e (fun z hz => hw z (List.mem_cons_of_mem _ hz)) q2, nc_eqv (hw w List.mem_cons_self) hv q1 e, List.mem_cons]
    exact or_congr_left eq_comm
open Classical in
/-- v in a list -/
theorem v_inL {ng : Bool} {v : Val} {ws : List Val} {S : Sto} (hv : nc 60 v = true) (hw : ∀ w ∈ ws, nc 59 w = true) : vInW ng v (.lst ws) S = .ok (.bl (ng != decide (v ∈ ws))) S := by
  obtain ⟨d, e1, q1⟩ := nc_dat hv
  have hl : nc 60 (.lst ws) = true := by rw [nc_lst]; exact List.all_eq_true.mpr hw
  obtain ⟨ds, e2, q2⟩ := nc_dats hw
  unfold vInW
  dsimp only
  rw [datS_nc hv, datS_nc hl, e1, dat_lst, e2]
  dsimp only [Option.map]
  rw [if_pos ⟨shaped_of q1 (by decide), shaped_of (lay_list q2) (by decide)⟩]
  have b : (ds.any fun z => PyData.eqv z d) = decide (v ∈ ws) := Bool.eq_iff_iff.mpr ((any_eqv hv e1 hw e2).trans (by simp))
  rw [b]
  cases ng <;> simp
/-- flat values -/
def fl : Val → Bool
  | .non => true | .int _ => true | .str x => PyData.strOk x | _ => false
theorem fl_nc {v : Val} (h : fl v = true) : nc 0 v = true := by cases v <;> first | rfl | (cases h; done) | exact h
theorem fl_flatD {v : Val} {d : PyData} (h : fl v = true) (e : v.dat = some d) : flatD d = true := by
  cases v <;> first | (rw [dat_non] at e; cases e; rfl) | (rw [dat_int] at e; cases e; rfl) | (rw [dat_str] at e; cases e; rfl) | cases h
open Classical in
theorem v_inT {ng : Bool} {v : Val} {ws : List Val} {S : Sto} (hv : fl v = true) (hw : ∀ w ∈ ws, fl w = true) : vInW ng v (.tup ws) S = .ok (.bl (ng != decide (v ∈ ws))) S := by
  obtain ⟨d, e1, q1⟩ := nc_dat (fl_nc hv)
  obtain ⟨ds, e2, q2⟩ := nc_dats fun w h => fl_nc (hw w h)
  have q3 : ds.all flatD = true := by
    clear q2
    induction ws generalizing ds with
    | nil => rw [dats_nil] at e2; cases e2; rfl
    | cons w ws ih =>
      obtain ⟨d2, p1, _⟩ := nc_dat (fl_nc (hw w List.mem_cons_self))
      obtain ⟨ds2, p2, _⟩ := nc_dats fun z hz => fl_nc (hw z (List.mem_cons_of_mem w hz))
      rw [dats_cons p1 p2] at e2; cases e2
      rw [List.all_cons, fl_flatD (hw w List.mem_cons_self) p1, ih (fun z hz => hw z (List.mem_cons_of_mem _ hz)) _ p2]; rfl
  unfold vInW
  dsimp only
  rw [datS_nc (fl_nc hv), e1, e2]
  dsimp only
  rw [if_pos ⟨fl_flatD hv e1, q3⟩]
  have b : (ds.any fun z => PyData.eqv z d) = decide (v ∈ ws) := Bool.eq_iff_iff.mpr ((any_eqv (fl_nc hv) e1 (fun w h => fl_nc (hw w h)) e2).trans (by simp))
  rw [b]
  cases ng <;> simp
theorem cut_takeI {α : Type} {xs : List α} {i : Int} (h : 0 ≤ i) : cutG xs none (some i) = xs.take i.toNat := by
  obtain ⟨n, rfl⟩ := Int.eq_ofNat_of_zero_le h
  exact cut_take
theorem cut_dropI {α : Type} {xs : List α} {i : Int} (h : 0 ≤ i) : cutG xs (some i) none = xs.drop i.toNat := by
  obtain ⟨n, rfl⟩ := Int.eq_ofNat_of_zero_le h
  exact cut_drop
theorem atI_I {α : Type} {xs : List α} {i : Int} (h : 0 ≤ i) : atI xs i = xs[i.toNat]? := by
  obtain ⟨n, rfl⟩ := Int.eq_ofNat_of_zero_le h
  exact atI_n
@[simp] theorem cut_s {α : Type} {xs : List α} {n : Nat} : cutG xs none (some ((n : Int) + 1)) = xs.take (n + 1) := cut_take (m := n + 1)
/-- branches on a truth value -/
def bK (v : Val) (A B : Prop) : Prop := match v with
  | .bl true => A
  | .bl false => B
  | _ => False
@[simp ↓ high] theorem bK_t {A B : Prop} : bK (.bl true) A B = A := nr
@[simp ↓ high] theorem bK_f {A B : Prop} : bK (.bl false) A B = B := nr
@[simp ↓] theorem bK_d {b : Bool} {A B : Prop} : bK (.bl b) A B = ((b = true → A) ∧ (b = false → B)) := by cases b <;> simp
section
variable {X : XP} {ρ : Ev} {S : Sto} {P : Val → Sto → Prop}
@[simp ↓ high] theorem e_and2 {a b : EM} {kk : Kp (P, X)} : Rn (eAnd a b ρ S) P X kk = Rn (a ρ S) (fun v S1 => bK v (Rn (b ρ S1) P X) (P (.bl false) S1)) X := by
  unfold eAnd; rw [rn_bind]; refine Rn_ext fun v S1 => ?_; cases v <;> first | rfl | (rename_i b; cases b <;> rfl)
@[simp ↓ high] theorem e_or2 {a b : EM} {kk : Kp (P, X)} : Rn (eOr a b ρ S) P X kk = Rn (a ρ S) (fun v S1 => bK v (P (.bl true) S1) (Rn (b ρ S1) P X)) X := by
  unfold eOr; rw [rn_bind]; refine Rn_ext fun v S1 => ?_; cases v <;> first | rfl | (rename_i b; cases b <;> rfl)
@[simp ↓ high] theorem e_chainP2 {o o' : Val → Val → Sto → Res Val} {a b c : EM} {kk : Kp (P, X)} : Rn (eChainP o o' a b c ρ S) P X kk = Rn (a ρ S) (fun v S1 => Rn (b ρ S1) (fun w S2 => Rn ((o v w Z0).onto S2) (fun k S3 => bK k (Rn (c ρ S3) (fun z S4 => Rn ((o' w z Z0).onto S4) P X) X) (P (.bl false) S3)) X) X) X := by
  unfold eChainP
  rw [rn_bind]; refine Rn_ext fun v S1 => ?_
  rw [rn_bind]; refine Rn_ext fun w S2 => ?_
  rw [rn_bind]; refine Rn_ext fun k S3 => ?_
  cases k <;> first | rfl | skip
  rename_i b
  cases b
  · rfl
  · show Rn (Res.bind _ _) P X = Rn _ _ _
    rw [rn_bind]
end
@[simp ↓] theorem v_isN0 {S : Sto} : vIsN .non .non S = .ok (.bl true) S := nr
@[simp ↓] theorem v_isNT {xs : List Val} {S : Sto} : vIsN (.tup xs) .non S = .ok (.bl false) S := nr
@[simp ↓] theorem v_isNL {xs : List Val} {S : Sto} : vIsN (.lst xs) .non S = .ok (.bl false) S := nr
@[simp ↓] theorem v_isNI {i : Int} {S : Sto} : vIsN (.int i) .non S = .ok (.bl false) S := nr
@[simp ↓] theorem v_isNO {c : Nat} {vs : List Val} {S : Sto} : vIsN (.ins c vs) .non S = .ok (.bl false) S := nr
@[simp ↓] theorem v_notN0 {S : Sto} : vNotN .non .non S = .ok (.bl false) S := nr
@[simp ↓] theorem v_notNT {xs : List Val} {S : Sto} : vNotN (.tup xs) .non S = .ok (.bl true) S := nr
@[simp ↓] theorem v_notNL {xs : List Val} {S : Sto} : vNotN (.lst xs) .non S = .ok (.bl true) S := nr
@[simp ↓] theorem v_notNI {i : Int} {S : Sto} : vNotN (.int i) .non S = .ok (.bl true) S := nr
@[simp ↓] theorem v_notNO {c : Nat} {vs : List Val} {S : Sto} : vNotN (.ins c vs) .non S = .ok (.bl true) S := nr
end PM

/-! PP, part i: tuples and lists of whole numbers -/
namespace PM
open PySem PySem.Spec L2
def iv (xs : List Int) : Val := .tup (xs.map Val.int)
def il (xs : List Int) : Val := .lst (xs.map Val.int)
def oi (o : Option Int) : Option Val := o.map Val.int
section
variable {S : Sto} {a b i j : Int} {l k : List Int} {bx : Bool}
@[simp] theorem oi_s : oi (some a) = some (.int a) := nr
@[simp] theorem oi_n : oi none = none := nr
@[simp ↓] theorem v_lenIv : vLen [iv l] S = .ok (.int (l.length : Nat)) S := by unfold iv; rw [v_lenT, List.length_map]
@[simp ↓] theorem v_lenIl : vLen [il l] S = .ok (.int (l.length : Nat)) S := by unfold il; rw [v_lenL, List.length_map]
@[simp ↓] theorem v_ixIv : vIx (iv l) (.int i) S = vr (oi (atI l i)) S := by unfold iv oi; rw [v_ixT, atI_map]
@[simp ↓] theorem v_ixIl : vIx (il l) (.int i) S = vr (oi (atI l i)) S := by unfold il oi; rw [v_ixL, atI_map]
theorem v_tT {xs ys : List Val} (h : xs.length + ys.length ≤ sizeLine) : vAdd bx (.tup xs) (.tup ys) S = .ok (.tup (xs ++ ys)) S := by rw [v_addT, if_pos h]
@[simp] theorem sizeLine_eq : sizeLine = 16777216 := by decide +kernel
@[simp ↓] theorem v_consIv (h : l.length ≤ 1000000) : vAdd bx (.tup [.int a]) (iv l) S = .ok (iv (a :: l)) S := by
  unfold iv; rw [v_addT, if_pos (by simp; omega)]; simp
@[simp ↓] theorem v_snocIv (h : l.length ≤ 1000000) : vAdd bx (iv l) (.tup [.int a]) S = .ok (iv (l ++ [a])) S := by
  unfold iv; rw [v_addT, if_pos (by simp; omega)]; simp
@[simp ↓] theorem v_addIv (h : l.length + k.length ≤ 1000000) : vAdd bx (iv l) (iv k) S = .ok (iv (l ++ k)) S := by
  unfold iv; rw [v_addT, if_pos (by simp; omega)]; simp
@[simp ↓] theorem v_addIl (h : l.length + k.length ≤ 1000000) : vAdd false (il l) (il k) S = .ok (il (l ++ k)) S := by
  unfold il; rw [v_addL, if_pos (by simp; omega)]; simp
@[simp ↓ high] theorem sn_guard {c : Prop} [Decidable c] {r : SRes} {D : En} {kk : Kp D} : Sn (if c then r else .st) D kk = (c ∧ Sn r D) := by
  by_cases h : c <;> simp [h, Sn]
@[simp] theorem truIv : truOf S (iv l) = some (!l.isEmpty) := by unfold iv; rw [truT]; cases l <;> rfl
@[simp] theorem truIl : truOf S (il l) = some (!l.isEmpty) := by unfold il; rw [truL]; cases l <;> rfl
theorem cutG_map {α β : Type} {f : α → β} {xs : List α} {lo hi : Option Int} : cutG (xs.map f) lo hi = (cutG xs lo hi).map f := by
  unfold cutG; rw [List.length_map, List.map_take, List.map_drop]
@[simp ↓] theorem v_cutIv {lo hi : Option Int} : vCut bx (iv l) lo hi S = .ok (iv (cutG l lo hi)) S := by unfold iv; rw [v_cutT, cutG_map]
@[simp ↓] theorem v_cutIl {lo hi : Option Int} : vCut false (il l) lo hi S = .ok (il (cutG l lo hi)) S := by unfold il; rw [v_cutL, cutG_map]; rfl
@[simp] theorem items_iv : itemsP (iv l) = some (l.map Val.int) := nr
@[simp] theorem items_il : itemsP (il l) = some (l.map Val.int) := nr
@[simp] theorem rev_il : revP (il l) = some (l.reverse.map Val.int) := by unfold il; rw [rev_l, List.map_reverse]
@[simp ↓] theorem v_tupIv : vTuple [iv l] S = .ok (iv l) S := nr
@[simp ↓] theorem v_tupIl : vTuple [il l] S = .ok (iv l) S := nr
@[simp ↓] theorem v_listIv : vList false [iv l] S = .ok (il l) S := nr
@[simp ↓] theorem v_listIl : vList false [il l] S = .ok (il l) S := nr
@[simp ↓] theorem v_revIl : vRevL false (il l) S = .ok (il l.reverse) S := by unfold il; rw [v_revL, List.map_reverse]; rfl
@[simp ↓] theorem v_isiIv {n : Tg} : vIsi [iv l, .ty n] S = .ok (.bl (isA .tup n)) S := nr
@[simp ↓] theorem v_isiIl {n : Tg} : vIsi [il l, .ty n] S = .ok (.bl (isA .lst n)) S := nr
@[simp] theorem nc_iv {k : Nat} : nc (k + 1) (iv l) = true := by unfold iv; rw [nc_tup, List.all_map]; simp [Function.comp_def]
@[simp] theorem nc_il {k : Nat} : nc (k + 1) (il l) = true := by unfold il; rw [nc_lst, List.all_map]; simp [Function.comp_def]
theorem map_int_inj : ∀ {l k : List Int}, l.map Val.int = k.map Val.int → l = k
  | [], [], _ => rfl
  | [], _ :: _, h => by cases h
  | _ :: _, [], h => by cases h
  | a :: l, b :: k, h => by
    rw [List.map_cons, List.map_cons] at h
    obtain ⟨h1, h2⟩ := List.cons.inj h
    cases h1
    rw [map_int_inj h2]
@[simp] theorem iv_inj : iv l = iv k ↔ l = k := ⟨fun h => map_int_inj (Val.tup.inj h), fun h => by rw [h]⟩
@[simp] theorem il_inj : il l = il k ↔ l = k := ⟨fun h => map_int_inj (Val.lst.inj h), fun h => by rw [h]⟩
@[simp] theorem iv_nil : Val.tup [] = iv [] := nr
@[simp] theorem il_nil : Val.lst [] = il [] := nr
@[simp ↓] theorem v_isNIv : vIsN (iv l) .non S = .ok (.bl false) S := nr
@[simp ↓] theorem v_notNIv : vNotN (iv l) .non S = .ok (.bl true) S := nr
@[simp] theorem noErr_iv : noErr (iv l) = true := by
  unfold iv noErr
  induction l with
  | nil => rfl
  | cons a l ih => rw [List.map_cons]; unfold noErrs; rw [ih]; rfl
@[simp ↓] theorem s_lsPil {f : List Val → SRes} {D : En} {kk : Kp D} : Sn (lsP (some (il l)) f) D kk = Sn (f (l.map Val.int)) D := nr
theorem lst_snoc : Val.lst (l.map Val.int ++ [Val.int a]) = il (l ++ [a]) := by unfold il; rw [List.map_append]; rfl
end
/-! great bounds, where omega meets a raw number -/
theorem bN {n k : Nat} (h : n ≤ 100000) (hk : 100000 ≤ k := by decide) : n ≤ k := Nat.le_trans h hk
theorem bNl {n k : Nat} (h : n ≤ 100000) (hk : 100000 < k := by decide) : n < k := Nat.lt_of_le_of_lt h hk
theorem bI {n k : Int} (h : n ≤ 100000) (hk : 100000 ≤ k := by decide) : n ≤ k := Int.le_trans h hk
theorem bIl {n k : Int} (h : n ≤ 100000) (hk : 100000 < k := by decide) : n < k := Int.lt_of_le_of_lt h hk
/-- the law's own def -/
theorem lf_law {F G : FM} (h : LF [.s] .v F G) {v : Val} (e : G [v] Z0 = .ok (.bl true) Z0) : ∃ S', F [v] S0 = .ok (.bl true) S' :=
  lf_fun h ⟨rfl, rfl, fun i kd hk => by
    cases i with
    | zero => simp at hk; subst hk; exact rfl
    | succ i => simp at hk, fun i j kd k _ hk ho _ => by
    cases i with
    | zero => simp at hk; subst hk; cases ho
    | succ i => simp at hk⟩ e
/-! try -/
section
variable {ρ : Ev} {S : Sto} {N : Ev → Sto → Prop} {R : Val → Sto → Prop} {B C : Ev → Sto → Prop} {E : Nat → List Val → Ev → Sto → Prop} {X : XP}
@[simp ↓] theorem sn_tryP {bd : SM} {i : Nat} {off : List Nat} {hs : List (Nat × SM)} {kk : Kp (⟨N, R, B, C, E⟩ : En)} :
    Sn (sTryP bd i off hs ρ S) ⟨N, R, B, C, E⟩ kk = Sn (bd ρ S) ⟨N, R, B, C, fun c vs ρ' S' => match hs.lookup c with
      | some s => Sn (suiteEndP i (s (ρ'.set i (some (.err c vs))) S')) ⟨N, R, B, C, E⟩
      | none => off.contains c = true ∧ E c vs ρ' S'⟩ := by
  unfold sTryP
  cases bd ρ S with
  | ex c vs ρ' S' =>
    rw [sn_ex]
    dsimp only
    cases hs.lookup c with
    | some s => rfl
    | none =>
      dsimp only
      by_cases h : off.contains c = true
      · rw [if_pos h]; simp only [h, true_and]; rfl
      · rw [if_neg h, sn_st]; simp only [h, Bool.false_eq_true, false_and]
  | _ => rfl
@[simp ↓] theorem sn_suiteP {r : SRes} {i : Nat} {kk : Kp (⟨N, R, B, C, E⟩ : En)} : Sn (suiteEndP i r) ⟨N, R, B, C, E⟩ kk = Sn r ⟨fun ρ S => (ρ.set i none).all oErr = true ∧ N (ρ.set i none) S, fun v S => noErr v = true ∧ R v S, fun _ _ => False, fun _ _ => False, fun _ _ _ _ => False⟩ := by
  cases r with
  | rt v S =>
    rw [sn_rt]; unfold suiteEndP; dsimp only
    by_cases h : noErr v = true
    · rw [if_pos h, sn_rt]; simp [h]
    · rw [if_neg h, sn_st]; simp [h]
  | nx ρ S =>
    rw [sn_nx]; unfold suiteEndP; dsimp only
    by_cases h : (ρ.set i none).all oErr = true
    · rw [if_pos h, sn_nx]; simp only [h, true_and]
    · rw [if_neg h, sn_st]; simp [h]
  | bk => rfl
  | ct => rfl
  | ex => rfl
  | st => rfl
@[simp ↓] theorem e_isErrP {i : Nat} {v : Val} {b : Bool} {P : Val → Sto → Prop} {kk : Kp (P, X)} : Rn (eIsErr i (eC v) b ρ S) P X kk = (∃ n, lk ρ i = some (.err n []) ∧ P (.bl b) S) := by
  by_cases q : ∃ n, lk ρ i = some (.err n [])
  · obtain ⟨n, q⟩ := q
    unfold eIsErr
    rw [lk_some.mp q]
    show P (.bl b) S = _
    rw [q]; simp
  · have : eIsErr i (eC v) b ρ S = .st := by
      unfold eIsErr
      split
      · rename_i n e; exact absurd ⟨n, lk_some.mpr e⟩ q
      · rfl
    rw [this, rn_st]
    refine propext ⟨False.elim, fun ⟨n, h, _⟩ => q ⟨n, h⟩⟩
end
theorem sz {n : Nat} (h : n ≤ 1000000) : n ≤ sizeLine := by have : sizeLine = 2 ^ 24 := rfl; omega
theorem szl {n : Nat} (h : n < 1000000) : n < sizeLine := by have : sizeLine = 2 ^ 24 := rfl; omega
end PM

set_option maxHeartbeats 1000000
/-! tuple(reversed(tuple)), at the library's level -/
namespace RT
open PySem PySem.Spec PyProof.Rows L2
theorem nolen_rt : typeLookup (.type "reversed") "__len__" = pure none := by rw [typeLookup_type, builtinLookup_eq_fast]; kernel_rfl
theorem hint_rt : typeLookup (.type "reversed") "__length_hint__" = pure (some (.builtin "reversed.__length_hint__")) := by rw [typeLookup_type, builtinLookup_eq_fast]; kernel_rfl
theorem slot_rt_hint : Slot "reversed" "__length_hint__" "reversed.__length_hint__" :=
  .of (owner := "reversed") (n := "__length_hint__") (by rw [typeLookup_type, builtinLookup_eq_fast]; kernel_rfl) (by decide +kernel) (by decide +kernel) (by decide +kernel)
    (by first | exact .inl (by decide +kernel) | exact .inr (by decide +kernel)) (by rw [isSubtype_type]; kernel_rfl)
theorem entry_rt_hint : entryFor table "reversed.__length_hint__" = some Builtin.«reversed.__length_hint__» := entryFor_of_tree (by kernel_rfl)
theorem args_rt_hint (a : Value) : argsOk "reversed.__length_hint__" ⟨[a], []⟩ := by
  unfold argsOk; rw [signature?_of (id := "reversed.__length_hint__") (n := ['_', '_', 't', 'n', 'i', 'h', '_', 'h', 't', 'g', 'n', 'e', 'l', '_', '_']) (o := ['d', 'e', 's', 'r', 'e', 'v', 'e', 'r']) (by kernel_rfl) owner_rt]; kernel_rfl
theorem tupAt {h h' : Heap} {a : Addr} {xs : Array Value} (x : IsTup h a xs) (e : ∀ o, h.get? a = some o → h'.get? a = some o) : IsTup h' a xs := let ⟨o, ho, r⟩ := x; ⟨o, e _ ho, r⟩
section
variable {prog : Program} {w : World} {A : Around} {E : Value → Shared → Prop} {s : Shared}
theorem hint_ok {it t : Addr} {items : Array Value} {Q : Bool → Shared → Prop} (hit : IsRt s.heap it t ((items.size : Int) - 1)) (ht : IsTup s.heap t items) (hsz : items.size ≤ sizeLine)
    (hQ : ∀ (b : Bool) (tk : Nat), s.toks ≤ tk → Q b { s with toks := tk }) : wpAny (model prog w) A (Builtin.List.listLengthHint (.ref it)) Q E s := by
  obtain ⟨o, ho, hc, hd⟩ := id hit
  have hl63 := line63
  rw [sizeLine_eq] at hsz
  unfold Builtin.List.listLengthHint
  refine wpAny_bind (wpAny_specialOf hit.typeIs nolen_rt ?_)
  show wpAny _ A (specialOf (Value.ref it) (Str.ofString "__length_hint__") >>= _) _ _ _
  refine wpAny_bind (wpAny_specialOf hit.typeIs hint_rt ?_)
  generalize hid : ("reversed.__length_hint__" : String) = id0
  wp_delta
  rw [show splitId id0 = some ("reversed", "__length_hint__") from by subst hid; decide +kernel]
  subst hid
  refine wpAny_bind (wpAny_isInstance (b := true) hit.typeIs (by rw [isSubtype_type]; kernel_rfl) ?_)
  rw [if_neg (by decide)]
  try dsimp only
  rw [if_neg (by decide +kernel)]
  refine wpAny_bind (wpAny_rule ?_)
  simp only [slot_rt_hint.bind]
  refine wpAny_bind (wpAny_pure ?_)
  refine wpAny_bind (wpAny_attempt (wpAny_call_entry slot_rt_hint hit.typeIs entry_rt_hint ?_ (args_rt_hint _)))
  unfold Builtin.«reversed.__length_hint__»
  refine wpAny_bind (wpAny_of_eq (a := Value.ref it) rfl ?_)
  refine wpAny_bind (wpAny_field ho hd (x := .ref t) rfl ?_)
  try dsimp only
  try rw [if_neg (by decide)]
  try dsimp only
  refine wpAny_bind (len_tuple ht (by omega) ?_)
  refine wpAny_bind (wpAny_of_eq (a := some ((items.size : Nat) : Int)) rfl ?_)
  try dsimp only
  refine wpAny_bind (wpAny_field (s := { s with toks := s.toks + 1 + 1 }) ho hd (x := rawInt ((items.size : Int) - 1)) rfl ?_)
  show wpAny _ _ (if (items.size : Int) < (items.size : Int) - 1 + 1 then _ else _) _ _ _
  rw [if_neg (by omega)]
  unfold retInt
  refine wpAny_bind (wpAny_mkInt ?_)
  refine wpAny_pure ⟨_, rfl, ?_⟩
  try dsimp only
  refine wpAny_bind (wpAny_of_eq (a := some ((items.size : Int) - 1 + 1)) rfl ?_)
  try dsimp only
  have h1 : Builtin.List.listFitsIndex ((items.size : Int) - 1 + 1) = true := by unfold Builtin.List.listFitsIndex; simp; omega
  rw [if_neg (by rw [h1]; decide), if_neg (by omega)]
  have h2 : Builtin.List.listTooLong ((items.size : Int) - 1 + 1).toNat = false := by unfold Builtin.List.listTooLong; rw [sizeLine_eq]; simp; omega
  rw [if_neg (by rw [h2]; decide)]
  exact wpAny_pure (hQ _ _ (by omega))
theorem Walks.tupRev {prog : Program} {w : World} {A : Around} (hh : A.handled = none) (I l : Addr) (hne : l ≠ I) (items : Array Value) (hsz : items.size ≤ sizeLine) :
    Walks prog w A I [I, l] [I] items.size (fun i v => items[items.size - 1 - i]? = some v) (fun i h => i ≤ items.size ∧ IsRt h I l ((items.size : Int) - 1 - (i : Int)) ∧ IsTup h l items) where
  sub := fun b hb => by simp at hb; simp [hb]
  frame := fun _ _ _ x hk => ⟨x.1, x.2.1.at fun o e => hk I (by simp) o e, tupAt x.2.2 fun o e => hk l (by simp) o e⟩
  item := fun i s Q E hi x hQ => by
    have e : (items.size : Int) - 1 - (i : Int) = ((items.size - 1 - i : Nat) : Int) := by omega
    have hit := x.2.1
    rw [e] at hit
    have hx : items[items.size - 1 - i]? = some (items[items.size - 1 - i]'(by omega)) := Array.getElem?_eq_getElem (by omega)
    refine next_rt_item hit x.2.2 hx hsz fun h' hit' hs' => ?_
    have e2 : ((items.size - 1 - i : Nat) : Int) - 1 = (items.size : Int) - 1 - ((i + 1 : Nat) : Int) := by omega
    rw [e2] at hit'
    exact hQ _ h' _ hx ⟨hi, hit', tupAt x.2.2 fun o eo => (hs'.2 l hne).trans eo⟩ fun b o hb eo => hs'.extBut b o (fun h => hb (by simp [h])) eo
  done := fun s Q E x hQ => by
    have e : (items.size : Int) - 1 - (items.size : Int) = -1 := by omega
    have hit := x.2.1
    rw [e] at hit
    exact next_rt_end hh hit fun h' he' => hQ h' s.toks fun b o hb eo => he' b o (fun h => hb (by simp [h])) eo
  self := fun _ _ _ _ x hQ => iter_rt x.2.1 hQ
theorem collect_revT {it l : Addr} {items : Array Value} {Q : List Value → Shared → Prop} (hh : A.handled = none) (hit : IsRt s.heap it l ((items.size : Int) - 1)) (hl : IsTup s.heap l items) (hne : l ≠ it) (hn : items.size ≤ sizeLine)
    (hQ : ∀ (h' : Heap) (tk : Nat) (acc : Array Value), (∀ b o, b ≠ it → s.heap.get? b = some o → h'.get? b = some o) → ItemsOf (fun i v => items[items.size - 1 - i]? = some v) acc items.size → Q acc.toList { s with heap := h', toks := tk }) :
    wpAny (model prog w) A (collect (.ref it)) Q E s := by
  have W := (Walks.tupRev (prog := prog) (w := w) (A := A.in1) hh it l hne items hn).toS
  obtain ⟨oi, hoi, _⟩ := id hit
  obtain ⟨ol, hol, _⟩ := id hl
  have hSi : s.heap.objs.size ≠ it := Nat.ne_of_gt (Heap.lt_size hoi)
  have hSl : s.heap.objs.size ≠ l := Nat.ne_of_gt (Heap.lt_size hol)
  have hSf : s.heap.objs.size ∉ [it, l] := by simp only [List.mem_cons, List.not_mem_nil, or_false, not_or]; exact ⟨hSi, hSl⟩
  unfold collect
  refine wpAny_bind (wpAny_runValue (codeAny_builtin F.entry_proto_collect ?_))
  rw [Around.under_plainId F.plain_proto_collect _]
  show wpAny _ A.in1 (newList [] >>= fun l' => again (.builtin "list.__iadd__" ⟨[l', .ref it], []⟩)) _ _ s
  refine wpAny_bind (wpAny_newObj_type ?_)
  refine wpAny_pure ⟨plainId_quiet F.plain_list_iadd _, codeAny_builtin F.entry_list_iadd ?_⟩
  rw [Around.under_plainId F.plain_list_iadd _]
  have hS₁ : (s.heap.push { cls := .type "list", data := .seq ([] : List Value).toArray }).get? s.heap.objs.size = some { cls := .type "list", data := .seq ([] : List Value).toArray } := Heap.get?_push_size _ rfl
  have hit1 : IsRt (s.heap.push { cls := .type "list", data := .seq ([] : List Value).toArray }) it l ((items.size : Int) - 1) := hit.at fun o e => Heap.get?_push_of_some _ e
  have hl1 : IsTup (s.heap.push { cls := .type "list", data := .seq ([] : List Value).toArray }) l items   := tupAt hl fun o e => Heap.get?_push_of_some _ e
  have hT : ({ s with heap := s.heap.push { cls := .type "list", data := .seq ([] : List Value).toArray } } : Shared).TypeIs (.ref it) "reversed" := IsRt.typeIs (s := { s with heap := s.heap.push { cls := .type "list", data := .seq ([] : List Value).toArray } }) hit1
  have h1 : Builtin.List.listSameRef (.ref s.heap.objs.size) (.ref it) = false := by simp [Builtin.List.listSameRef, hSi]
  show wpAny _ A.in1 (Builtin.List.listExtendWith (.ref s.heap.objs.size) (.ref it) (.ref s.heap.objs.size)) _ _ _
  unfold Builtin.List.listExtendWith
  refine wpAny_bind (wpAny_typeOf hT ?_)
  rw [if_neg (by rw [h1]; decide)]
  refine wpAny_bind (iter_rt (s := { s with heap := s.heap.push { cls := .type "list", data := .seq ([] : List Value).toArray } }) hit1 ?_)
  refine wpAny_bind (wpAny_holding ?_)
  refine hint_ok (s := { s with heap := s.heap.push { cls := .type "list", data := .seq ([] : List Value).toArray } }) hit1 hl1 hn fun room tk htk => ?_
  have e0 : ((items.size : Nat) : Int) - 1 - ((0 : Nat) : Int) = (items.size : Int) - 1 := by omega
  cases room with
  | false =>
    try dsimp only
    rw [if_neg (by decide +kernel)]
    refine wpAny_pure ⟨plainId_quiet F.plain_extend_loop _, codeAny_extend_loopS W hn _ hSf _ items.size 0 _ _ _ rfl (Nat.zero_le _) ⟨Nat.zero_le _, by rw [e0]; exact hit1, hl1⟩ hS₁ (ItemsOf.nil _) fun s' acc' c' hm hS' hacc => ?_⟩
    show wpAny _ A (load s.heap.objs.size >>= _) _ _ s'
    refine wpAny_bind (wpAny_load hS' ?_)
    refine wpAny_pure ?_
    rw [Moved.eq_with hm]
    refine hQ s'.heap s'.toks acc' (fun b o hb e => hm.heap b o (fun hmem => ?_) (Heap.get?_push_of_some _ e)) hacc
    rcases List.mem_cons.mp hmem with e' | hmem
    · exact absurd (Heap.lt_size e) (by rw [e']; exact Nat.lt_irrefl _)
    · exact hb (List.mem_singleton.mp hmem)
  | true =>
    try dsimp only
    rw [if_pos (by rfl)]
    refine wpAny_bind (wpAny_rule ?_)
    refine wpAny_bind ?_
    show wpAny _ A.in1 (updateSeq s.heap.objs.size (·.push .none) >>= fun _ => updateSeq s.heap.objs.size (·.pop)) _ _ _
    refine wpAny_bind (wpAny_updateSeq hS₁ rfl ?_)
    have hS₂ := Heap.get?_update_self (Obj.mapSeq (·.push Value.none)) hS₁ rfl
    refine wpAny_updateSeq hS₂ rfl ?_
    have hS₃ := Heap.get?_update_self (Obj.mapSeq (·.pop)) hS₂ rfl
    have oth : ∀ b o, b ≠ s.heap.objs.size → (s.heap.push { cls := .type "list", data := .seq ([] : List Value).toArray }).get? b = some o →
        (((s.heap.push { cls := .type "list", data := .seq ([] : List Value).toArray }).update s.heap.objs.size (Obj.mapSeq (·.push Value.none))).update s.heap.objs.size (Obj.mapSeq (·.pop))).get? b = some o :=
      fun b o hb e => (Heap.get?_update_other _ _ (Ne.symm hb)).trans ((Heap.get?_update_other _ _ (Ne.symm hb)).trans e)
    refine wpAny_pure ⟨plainId_quiet F.plain_extend_loop _, codeAny_extend_loopS W hn _ hSf _ items.size 0 _ _ _ rfl (Nat.zero_le _) ⟨Nat.zero_le _, by rw [e0]; exact (hit1.at fun o e => oth _ _ (Ne.symm hSi) e), (tupAt hl1 fun o e => oth _ _ (Ne.symm hSl) e)⟩ hS₃ (ItemsOf.nil _) fun s' acc' c' hm hS' hacc => ?_⟩
    show wpAny _ A (load s.heap.objs.size >>= _) _ _ s'
    refine wpAny_bind (wpAny_load hS' ?_)
    refine wpAny_pure ?_
    rw [Moved.eq_with hm]
    refine hQ s'.heap s'.toks acc' (fun b o hb e => hm.heap b o (fun hmem => ?_) (oth b o (Nat.ne_of_lt (Heap.lt_size e)) (Heap.get?_push_of_some _ e))) hacc
    rcases List.mem_cons.mp hmem with e' | hmem
    · exact absurd (Heap.lt_size e) (by rw [e']; exact Nat.lt_irrefl _)
    · exact hb (List.mem_singleton.mp hmem)
theorem code_tuple_new_revT {it l : Addr} {items : Array Value} {Q₁ : Value → Shared → Prop} (hh : A.handled = none) (hit : IsRt s.heap it l ((items.size : Int) - 1)) (hl : IsTup s.heap l items) (hne : l ≠ it) (hn : items.size ≤ sizeLine)
    (h : ∀ (h' : Heap) (tk : Nat) (acc : Array Value), (∀ b o, b ≠ it → s.heap.get? b = some o → h'.get? b = some o) → ItemsOf (fun i v => items[items.size - 1 - i]? = some v) acc items.size →
      Q₁ (.ref h'.objs.size) { s with heap := h'.push { cls := .type "tuple", data := .seq acc }, toks := tk }) :
    codeAny (model prog w) A (.call (.builtin "tuple.__new__") ⟨[.type "tuple", .ref it], []⟩) (wants Q₁ E) s := by
  refine codeAny_of_tree ?_
  show wpAny _ A.in1 (do checkBuiltinCall "tuple.__new__" ⟨[.type "tuple", .ref it], []⟩; again (.builtin "tuple.__new__" ⟨[.type "tuple", .ref it], []⟩)) _ _ s
  refine wpAny_bind (wpAny_of_eq (F.newCall_tuple_1 _) (wpAny_pure ⟨plainId_quiet F.plain_tuple_new _, codeAny_builtin F.entry_tuple_new ?_⟩))
  rw [Around.under_plainId F.plain_tuple_new _]
  have hsub := sub_tuple_self
  have hinit := init_tuple_lookup
  have hmh := madeHere_tuple
  have hTI : s.TypeIs (.ref it) "reversed" := hit.typeIs
  have hh1 : A.in1.handled = none := hh
  wp_walk using wpAny_typeOf hTI, collect_revT (A := A.in1) hh1 hit hl hne hn
  intro h' tk acc hk hacc
  show wpAny _ _ (Builtin.Tuple.tupleExact acc.toList.toArray >>= fun v => ret v) _ _ _
  unfold Builtin.Tuple.tupleExact
  refine wpAny_bind (wpAny_newObj_type ?_ (by show acc.toList.toArray.size ≤ sizeLine; simp only [Array.toArray_toList]; rw [hacc.1]; exact hn))
  refine wpAny_pure ?_
  have e : acc.toList.toArray = acc := by simp
  rw [e]
  exact h h' tk acc hk hacc
theorem call_tuple_revT {it l : Addr} {items : Array Value} {Q : Value → Shared → Prop} (hh : A.handled = none) (hit : IsRt s.heap it l ((items.size : Int) - 1)) (hl : IsTup s.heap l items) (hne : l ≠ it) (hn : items.size ≤ sizeLine)
    (hQ : ∀ (h' : Heap) (tk : Nat) (acc : Array Value), (∀ b o, b ≠ it → s.heap.get? b = some o → h'.get? b = some o) → ItemsOf (fun i v => items[items.size - 1 - i]? = some v) acc items.size →
      Q (.ref h'.objs.size) { s with heap := h'.push { cls := .type "tuple", data := .seq acc }, toks := tk }) :
    wpAny (model prog w) A (call (.type "tuple") [.ref it]) Q E s := by
  refine callType_codes (Q₁ := fun obj s₁ => s₁.TypeIs obj "tuple" ∧ Q obj s₁) F.called_tuple (F.typeCall_tuple_1 _) F.entry_object_init
    (code_tuple_new_revT (A := A.in1) hh hit hl hne hn fun h' tk acc hk hacc => ⟨⟨_, Heap.get?_push_size _ rfl, rfl⟩, hQ h' tk acc hk hacc⟩) fun obj s₁ h₁ => ?_
  exact ⟨h₁.1, F.args_object_init_2 obj _, object_init_meets F.called_tuple.init.lookup F.called_tuple.made (by decide) prog w A.in1 _ s₁ ⟨h₁.1, rfl, h₁.2⟩⟩
end
/-- tuple(reversed(x)), x a list or a tuple: a new tuple -/
def tTupRevA (K : PySem.W.Frag) (te : TE) : TE := fun σ H Q => te σ H fun v H1 => ∃ (a : Addr) (xs : List V), v = .ref a ∧ (SqL K H1 a xs ∨ SqT K H1 a xs) ∧ ∀ q, H1 q = none → Q (.ref q) (upd H1 q (.tup xs.reverse))
section
variable {X : Cx}
theorem pe_tupRevA {e : Expr} {te : TE} {p p2 pos pos2 : Pos} (hc : X.calm = true) (hg : Gl X "tuple") (hm : X.mg "tuple" = none) (hg2 : Gl X "reversed") (hm2 : X.mg "reversed" = none) (he : PE X e te)
    (hs : starEach [e] X.env = (false, eval e X.env) :: starEach [] X.env := by rfl)
    (hs2 : starEach [.Call (.Name "reversed" p2) [e] [] pos2] X.env = (false, eval (.Call (.Name "reversed" p2) [e] [] pos2) X.env) :: starEach [] X.env := by rfl) :
    PE X (.Call (.Name "tuple" p) [.Call (.Name "reversed" p2) [e] [] pos2] [] pos) (tTupRevA X.K te) := by
  refine ⟨fun pins s σ H Q I h => ?_⟩
  refine Call_ (ld_blt I hg hm boot_tuple (PyProof.Rows.callWith_type1 (args_cons (Call_ (ld_blt I hg2 hm2 PyProof.Rows.boot_reversed (PyProof.Rows.callWith_type1 (args_cons (thn (he.run pins s σ H _ I h) fun u s1 ⟨v, H1, I1, r1, q1⟩ => args_nil ?_) hs) hs rfl))) hs2) hs2 rfl))
  obtain ⟨a, xs, ev, hq, q⟩ := q1
  subst ev
  obtain rfl : u = Value.ref a := r1
  rcases hq with hq | hq
  · obtain ⟨its, rv, p', hz⟩ := I1.list hq
    refine call_reversed_list p'.isList (args_nil ?_)
    have k0 : ∀ b o, s1.heap.get? b = some o → (s1.heap.push (revObj a ((its.toArray.size : Int) - 1))).get? b = some o := fun b o e => Heap.get?_push_of_some _ e
    have I2 : Inv X pins σ H1 { s1 with heap := s1.heap.push (revObj a ((its.toArray.size : Int) - 1)) } := I1.kept (t' := s1.toks) k0
    obtain ⟨f0, f1, f2, f3, f4, f5⟩ := I1.fpOk (H' := H1) (b := s1.heap.objs.size) (Nat.le_refl _) (I1.hok.fresh (Nat.le_refl _))
    have hl := p'.isList
    obtain ⟨ol, hol, _⟩ := id hl
    have hne : a ≠ s1.heap.objs.size := Nat.ne_of_lt (Heap.lt_size hol)
    have hn : its.toArray.size ≤ sizeLine := by rw [List.size_toArray, ← rv.length]; exact hz
    refine call_tuple_rev (s := { s1 with heap := s1.heap.push (revObj a ((its.toArray.size : Int) - 1)) }) (I1.ok.hd hc) ⟨_, Heap.get?_push_size _ rfl, rfl, rfl⟩ (hl.push _) hne hn fun h' tk acc hk hi => ?_
    have I3 : Inv X pins σ H1 { s1 with heap := h', toks := tk } := I2.turned (t' := tk) (fun b o hb e => hk b o hb e) f0 f1 f3 f4 f5
    refine ⟨.ref h'.objs.size, upd H1 h'.objs.size (.tup xs.reverse), I3.laid (t' := tk) (fun c o e => Heap.get?_push_of_some _ e) (Nat.le_refl _) (show ObjOk X.prog X.w _ _ _ (.tup xs.reverse) from ⟨by rw [List.length_reverse]; exact hz, acc.toList, vals_rev rv hi, ?_⟩), rfl, q _ (I3.hok.fresh (Nat.le_refl _))⟩
    rw [Array.toArray_toList]
    exact IsTup.new _ _
  · obtain ⟨its, rv, p', hz⟩ := I1.tuple hq
    have hl := p'
    have hn63 := line63
    have hn : its.toArray.size ≤ sizeLine := by rw [List.size_toArray, ← rv.length]; exact hz
    refine call_reversed_tup p' (fun A E Q k => len_tuple p' (by simp only [List.size_toArray] at hn ⊢ <;> omega) k) (args_nil ?_)
    have k0 : ∀ b o, s1.heap.get? b = some o → (s1.heap.push (rtObj a ((its.toArray.size : Int) - 1))).get? b = some o := fun b o e => Heap.get?_push_of_some _ e
    have I2 : Inv X pins σ H1 { s1 with heap := s1.heap.push (rtObj a ((its.toArray.size : Int) - 1)), toks := s1.toks + 1 + 1 } := I1.kept (t' := s1.toks + 1 + 1) k0
    obtain ⟨f0, f1, f2, f3, f4, f5⟩ := I1.fpOk (H' := H1) (b := s1.heap.objs.size) (Nat.le_refl _) (I1.hok.fresh (Nat.le_refl _))
    obtain ⟨ol, hol, _⟩ := id hl
    have hne : a ≠ s1.heap.objs.size := Nat.ne_of_lt (Heap.lt_size hol)
    refine call_tuple_revT (s := { s1 with heap := s1.heap.push (rtObj a ((its.toArray.size : Int) - 1)), toks := s1.toks + 1 + 1 }) (I1.ok.hd hc) ⟨_, Heap.get?_push_size _ rfl, rfl, rfl⟩ (tupAt hl fun o e => Heap.get?_push_of_some _ e) hne hn fun h' tk acc hk hi => ?_
    have I3 : Inv X pins σ H1 { s1 with heap := h', toks := tk } := I2.turned (t' := tk) (fun b o hb e => hk b o hb e) f0 f1 f3 f4 f5
    refine ⟨.ref h'.objs.size, upd H1 h'.objs.size (.tup xs.reverse), I3.laid (t' := tk) (fun c o e => Heap.get?_push_of_some _ e) (Nat.le_refl _) (show ObjOk X.prog X.w _ _ _ (.tup xs.reverse) from ⟨by rw [List.length_reverse]; exact hz, acc.toList, vals_rev rv hi, ?_⟩), rfl, q _ (I3.hok.fresh (Nat.le_refl _))⟩
    rw [Array.toArray_toList]
    exact IsTup.new _ _
end
end RT

/-! PM, part s: tuple(reversed(a list or a tuple)) -/
namespace PM
open PySem PySem.Spec L2
def vTupRev (v : Val) (S : Sto) : Res Val := match v with
  | .tup xs => .ok (.tup xs.reverse) S
  | v => match lstOf S v with
    | some xs => .ok (.tup xs.reverse) S
    | none => .st
theorem vTupRev_l {v : Val} {S : Sto} (h : ∀ xs, v ≠ .tup xs) : vTupRev v S = (match lstOf S v with | some xs => .ok (.tup xs.reverse) S | none => .st) := by
  unfold vTupRev
  cases v <;> first | rfl | exact absurd rfl (h _)
theorem m_tupRev {T : Tbl} {X : Cx} {Ew : XW} {e : Expr} {f : EM} {p p2 pos pos2 : Pos} (hc : X.calm = true) (hg : Gl X "tuple") (hm : X.mg "tuple" = none) (hg2 : Gl X "reversed") (hm2 : X.mg "reversed" = none) (he : PEm T X Ew e f)
    (hs : starEach [e] X.env = (false, eval e X.env) :: starEach [] X.env := by rfl)
    (hs2 : starEach [.Call (.Name "reversed" p2) [e] [] pos2] X.env = (false, eval (.Call (.Name "reversed" p2) [e] [] pos2) X.env) :: starEach [] X.env := by rfl) :
    PEm T X Ew (.Call (.Name "tuple" p) [.Call (.Name "reversed" p2) [e] [] pos2] [] pos) (eUn vTupRev f) := by
  refine PE.to (RT.pe_tupRevA hc hg hm hg2 hm2 he hs hs2) fun σ H Q h => ?_
  obtain ⟨W, ρ, S, s, er, h⟩ := h
  refine ⟨W, ρ, S, s, er, RP.bind h fun W1 S1 H1 v l1 s1 h1 x vx => ?_⟩
  have fin : ∀ (PX : Hp → Value → Option Addr → Prop) (xs : List Val) (ys : List V), VRs X.K T W1 xs ys → RP X.K T W1 (.ok (.tup xs.reverse) S1) (VP X.K T Q) PX → ∀ q, H1 q = none → Q (.ref q) (upd H1 q (.tup ys.reverse)) := fun PX xs ys r h2 p hp =>
    h2 _ _ (.add (s1.free hp)) (s1.add hp) _ (.tup (.inl upd_same) (r.reverse.mono (.add (s1.free hp))))
  by_cases hT : ∃ xs, v = .tup xs
  · obtain ⟨xs, rfl⟩ := hT
    cases vx with
    | tup hy r => exact ⟨_, _, rfl, .inr (TQ_sq s1.sub hy), fin _ xs _ r h1⟩
  · rw [vTupRev_l fun xs h => hT ⟨xs, h⟩] at h1
    cases e : lstOf S1 v with
    | none => rw [e] at h1; exact False.elim h1
    | some xs =>
      rw [e] at h1
      obtain ⟨a, ys, rfl, hy, r⟩ := lstOf_ok s1 vx e
      exact ⟨a, ys, rfl, .inl hy, fin _ xs ys r h1⟩
theorem rs_tupRev : Rs1 vTupRev := fun c S v v' u Z1 h e => by
  by_cases hT : ∃ xs, v' = .tup xs
  · obtain ⟨xs, rfl⟩ := hT
    obtain rfl := vq_s h rfl; cases e; rfl
  · have hn : ∀ xs, v' ≠ .tup xs := fun xs h => hT ⟨xs, h⟩
    rw [vTupRev_l hn] at e
    rw [vTupRev_l (vq_nt h hn)]
    cases q : lstOf Z0 v' with
    | none => rw [q] at e; cases e
    | some xs => rw [q] at e; rw [lst_q h q]; cases e; rfl
theorem nx_tupRev : ∀ v S, NX (vTupRev v S) := by
  intro v S; unfold vTupRev; split
  · trivial
  · split <;> trivial
@[simp ↓] theorem v_tupRevT {xs : List Val} {S : Sto} : vTupRev (.tup xs) S = .ok (.tup xs.reverse) S := nr
@[simp ↓] theorem v_tupRevL {xs : List Val} {S : Sto} : vTupRev (.lst xs) S = .ok (.tup xs.reverse) S := nr
end PM

/-! PM, part r: reversed of a tuple or a list, x[::-1] of both -/
namespace L2
open PySem PySem.Spec PyProof.Rows HT
section
variable {prog : Program} {w : World} {A : Around} {E : Value → Shared → Prop} {s : Shared}
theorem adjust_rev (n : Nat) : Builtin.Slice.sliceAdjust none none (-1) (n : Int) = ((n : Int) - 1, -1) := by
  unfold Builtin.Slice.sliceAdjust
  simp
theorem places_rev (n : Nat) : Builtin.Slice.slicePlaces ((n : Int) - 1) (-1) (-1) = n := by
  unfold Builtin.Slice.slicePlaces
  have h1 : ¬ ((-1 : Int) > 0) := by omega
  simp only [h1, if_false]
  split
  · rw [show (- -1 : Int) = 1 by decide, Int.ediv_one]; omega
  · omega
theorem sliceApplied_rev {sl : Addr} {vl vu vs : Value} {n : Nat} {Q : Int × Int × Nat → Shared → Prop} (hs : s.heap.IsSliceOf sl vl vu vs) (pl : IsPart vl none) (pu : IsPart vu none) (ps : IsPart vs (some (-1)))
    (h : Q ((n : Int) - 1, -1, n) s) : wpAny (model prog w) A (Builtin.Slice.sliceApplied (.ref sl) (pure (n : Int))) Q E s := by
  obtain ⟨os, hos, hcs, hds⟩ := id hs
  unfold Builtin.Slice.sliceApplied Builtin.Slice.sliceFields
  refine wpAny_bind (wpAny_bind (wpAny_field hos hds (x := vl) rfl (wpAny_bind (wpAny_field hos hds (x := vu) rfl (wpAny_bind (wpAny_field hos hds (x := vs) rfl (wpAny_pure ?_)))))))
  refine wpAny_bind (slicePart_ ps ?_)
  show wpAny _ _ (if ((-1 : Int) == 0) = true then _ else _) _ _ s
  rw [if_neg (by decide)]
  refine wpAny_bind (slicePart_ pl (wpAny_bind (slicePart_ pu (wpAny_bind (wpAny_pure ?_)))))
  show wpAny _ _ (match Builtin.Slice.sliceAdjust none none (-1) (n : Int) with | (lo, hi) => pure (lo, (-1 : Int), Builtin.Slice.slicePlaces lo hi (-1))) _ _ s
  rw [adjust_rev n]
  show wpAny _ _ (pure ((n : Int) - 1, (-1 : Int), Builtin.Slice.slicePlaces ((n : Int) - 1) (-1) (-1))) _ _ s
  rw [places_rev]
  exact wpAny_pure h
theorem fm_congr {α β : Type} {f g : α → Option β} : ∀ {l : List α}, (∀ a ∈ l, f a = g a) → l.filterMap f = l.filterMap g
  | [], _ => rfl
  | a :: l, h => by rw [List.filterMap_cons, List.filterMap_cons, h a List.mem_cons_self, fm_congr fun b hb => h b (List.mem_cons_of_mem _ hb)]
theorem pick_rev (xs : Array Value) : ((List.range xs.size).filterMap fun (m : Nat) => xs[(((xs.size : Int) - 1) + (m : Int) * -1).toNat]?).toArray = xs.toList.reverse.toArray := by
  rw [← PySem.W.krv_pick, slicePick, PySem.W.krv_bounds]
  show _ = ((sliceRange ((xs.size : Int) - 1) (-1) (-1)).filterMap (xs[·]?)).toArray
  rw [PySem.W.krv_sliceRange, List.filterMap_map]
  congr 1
  refine fm_congr fun m hm => ?_
  have := List.mem_range.mp hm
  show xs[_]? = xs[xs.size - 1 - m]?
  congr 1
  omega
theorem getItem_tuple_rev {t sl : Addr} {items : Array Value} {vl vu vs : Value} {Q : Value → Shared → Prop} (ht : IsTup s.heap t items) (hs : s.heap.IsSliceOf sl vl vu vs) (pl : IsPart vl none) (pu : IsPart vu none) (ps : IsPart vs (some (-1)))
    (h : Q (.ref s.heap.objs.size) { s with heap := s.heap.push { cls := .type "tuple", data := .seq items.toList.reverse.toArray } })
    (hsz : items.size ≤ sizeLine) : wpAny (model prog w) A (getItem (.ref t) (.ref sl)) Q E s := by
  have htake : sizeOk (.seq items.toList.reverse.toArray) := by
    show items.toList.reverse.toArray.size ≤ sizeLine
    rw [List.size_toArray, List.length_reverse, Array.length_toList]; exact hsz
  obtain ⟨os, hos, hcs, hds⟩ := id hs
  have hTs : s.TypeIs (.ref sl) "slice" := ⟨os, hos, hcs⟩
  unfold getItem
  try with_reducible refine wpAny_holding ?_
  first | refine wpAny_bind (wpAny_pure ?_) | skip
  refine wpAny_bind (wpAny_sequenceKey ht.typeIs (by decide) ?_)
  refine wpAny_bind (wpAny_callSpecial?_slot (name := Str.ofString "__getitem__") ht.typeIs PyProof.Rows.slot_tuple_getitem
    (wpAny_call_entry PyProof.Rows.slot_tuple_getitem ht.typeIs entry_tuple_getitem ?_ (args_tuple_getitem _ _)))
  show wpAny _ _ (Builtin.Tuple.tupleItemsOf (.ref t) >>= _) _ _ s
  refine wpAny_bind (tupleItemsOf_ ht ?_)
  refine wpAny_bind (wpAny_typeOf hTs ?_)
  rw [if_pos (by decide)]
  refine wpAny_bind (sliceApplied_rev hs pl pu ps ?_)
  have hno : ¬ ((((items.size : Int) - 1) == 0 && (-1 : Int) == 1 && items.size == items.size) = true) := by
    intro q
    rw [Bool.and_eq_true, Bool.and_eq_true] at q
    have q1 := q.1.2
    revert q1; decide
  show wpAny _ _ (if (((items.size : Int) - 1) == 0 && (-1 : Int) == 1 && items.size == items.size) = true then _ else _) _ _ s
  rw [if_neg hno, pick_rev]
  first
    | exact wpAny_bind (m := Builtin.Tuple.tupleExact _) (wpAny_newObj_type (wpAny_pure ⟨_, rfl, wpAny_pure h⟩) htake)
    | exact wpAny_bind (m := Builtin.Tuple.tupleExact _) (wpAny_newObj_type (wpAny_bind (wpAny_pure (wpAny_pure ⟨_, rfl, wpAny_pure h⟩))) htake)
end
section
variable {X : Cx}
/-- x[::-1], x a list or a tuple -/
def tRevA (K : PySem.W.Frag) (te : TE) : TE := fun σ H Q => te σ H fun x H1 => ∃ a xs, x = .ref a ∧ ((SqL K H1 a xs ∧ ∀ p, H1 p = none → Q (.ref p) (upd H1 p (.lst xs.reverse))) ∨ (SqT K H1 a xs ∧ ∀ p, H1 p = none → Q (.ref p) (upd H1 p (.tup xs.reverse))))
theorem pe_revSl {e : Expr} {te : TE} {k : Nat} {p1 p2 p3 pos : Pos} (he : PE X e te) : PE X (.Subscript e (.Slice none none (some (.UnaryOp .USub (.Constant (.int 1) k p1) p2)) p3) pos) (tRevA X.K te) := by
  refine ⟨fun pins s σ H Q I h => ?_⟩
  refine Subscript_ (thn (he.run pins s σ H _ I h) fun v s1 ⟨x, H1, I1, r1, q1⟩ => ?_)
  obtain ⟨a, xs, ex, q⟩ := q1
  subst ex
  cases r1
  have hst : PO X (some (.UnaryOp .USub (.Constant (.int 1) k p1) p2)) (tPart (tUn (rU fun i => .int (-i)) (tC (.int 1)))) := po_some (pe_un un_neg pe_int)
  refine wpAny_Slice (thn (po_none.run pins s1 σ H1 (fun o H2 => o = none ∧ H2 = H1) I1 ⟨rfl, rfl⟩) fun vl s2 ⟨l, H2, I2, pl, el, e2⟩ => ?_)
  subst el e2
  refine thn (po_none.run pins s2 σ H2 (fun o H3 => o = none ∧ H3 = H2) I2 ⟨rfl, rfl⟩) fun vu s3 ⟨u, H3, I3, pu, eu, e3⟩ => ?_
  subst eu e3
  refine thn (hst.run pins s3 σ H3 (fun o H4 => o = some (-1) ∧ H4 = H3) I3 ⟨1, rfl, -1, rfl, rfl, rfl⟩) fun vs s4 ⟨o, H4, I4, ps, eo, e4⟩ => ?_
  subst eo e4
  have I5 : Inv X pins σ H4 { s4 with heap := s4.heap.push { cls := .type "slice", data := .fields #[vl, vu, vs] } } := I4.kept (t' := s4.toks) fun b ob q => Heap.get?_push_of_some _ q
  show wpAny (model X.prog X.w) X.A (subscriptTail e (.Slice none none (some (.UnaryOp .USub (.Constant (.int 1) k p1) p2)) p3) (.ref a) (.ref s4.heap.objs.size)) (EP X pins σ Q) X.xe { s4 with heap := s4.heap.push { cls := .type "slice", data := .fields #[vl, vu, vs] } }
  rcases q with ⟨hx, q⟩ | ⟨hx, q⟩
  · obtain ⟨its, r, ht, hz⟩ := I5.list hx
    have hlen := r.length
    refine tail_any (ops := [.ref a, .ref s4.heap.objs.size]) ht.isList.typeIs (PySem.slot_list_getitem.lookup) ?_ (by with_unfolding_all rfl)
    refine wpAny_getItem_list_slice ht.isList (Heap.IsSliceOf.new _ vl vu vs) pl pu ps (by decide) ?_ (by rw [List.size_toArray]; omega)
    rw [PySem.W.krv_pick]
    refine ⟨.ref _, _, I5.laid (t' := s4.toks) (o := .lst xs.reverse) (fun b ob q => Heap.get?_push_of_some _ q) (Nat.le_refl _) ?_, rfl, q _ (I5.hok.fresh (Nat.le_refl _))⟩
    exact ⟨by rw [List.length_reverse]; exact hz, _, 0, r.reverse, Heap.get?_push_size _ rfl⟩
  · obtain ⟨its, r, ht, hz⟩ := I5.tuple hx
    have hlen := r.length
    refine tail_any (ops := [.ref a, .ref s4.heap.objs.size]) ht.typeIs (PyProof.Rows.slot_tuple_getitem.lookup) ?_ (by with_unfolding_all rfl)
    refine getItem_tuple_rev ht (Heap.IsSliceOf.new _ vl vu vs) pl pu ps ?_ (by rw [List.size_toArray]; omega)
    refine ⟨.ref _, _, I5.laid (t' := s4.toks) (o := .tup xs.reverse) (fun b ob q => Heap.get?_push_of_some _ q) (Nat.le_refl _) ?_, rfl, q _ (I5.hok.fresh (Nat.le_refl _))⟩
    exact ⟨by rw [List.length_reverse]; exact hz, _, r.reverse, IsTup.new _ _⟩
end
end L2
namespace PM
open PySem PySem.Spec L2
/-- x[::-1] -/
def vRevA (bx : Bool) (v : Val) (S : Sto) : Res Val := match v with
  | .tup xs => .ok (.tup xs.reverse) S
  | v => match lstOf S v with
    | some xs => mkL bx xs.reverse S
    | none => .st
theorem m_revA {T : Tbl} {X : Cx} {Ew : XW} {e : Expr} {f : EM} {pos : Pos} {bx : Bool} {k : Nat} {p1 p2 p3 : Pos} (he : PEm T X Ew e f) : PEm T X Ew (.Subscript e (.Slice none none (some (.UnaryOp .USub (.Constant (.int 1) k p1) p2)) p3) pos) (eUn (vRevA bx) f) := by
  refine PE.to (pe_revSl he) fun σ H Q h => ?_
  obtain ⟨W, ρ, S, s, er, h⟩ := h
  refine ⟨W, ρ, S, s, er, RP.bind h fun W1 S1 H1 v l1 s1 h1 x vx => ?_⟩
  by_cases hT : ∃ xs, v = .tup xs
  · obtain ⟨xs, rfl⟩ := hT
    cases vx with
    | tup hy r =>
      refine ⟨_, _, rfl, .inr ⟨TQ_sq s1.sub hy, fun p hp => ?_⟩⟩
      have h2 : RP X.K T W1 (.ok (.tup xs.reverse) S1) (VP X.K T Q) _ := h1
      exact h2 _ _ (.add (s1.free hp)) (s1.add hp) _ (.tup (.inl upd_same) (r.reverse.mono (.add (s1.free hp))))
  · have e1 : vRevA bx v S1 = (match lstOf S1 v with | some xs => mkL bx xs.reverse S1 | none => .st) := by
      unfold vRevA
      cases v <;> first | rfl | exact absurd ⟨_, rfl⟩ hT
    rw [e1] at h1
    cases e : lstOf S1 v with
    | none => rw [e] at h1; exact False.elim h1
    | some xs =>
      rw [e] at h1
      obtain ⟨a, ys, rfl, hy, r⟩ := lstOf_ok s1 vx e
      exact ⟨a, ys, rfl, .inl ⟨hy, fun p hp => mkL_ok s1 r.reverse hp h1⟩⟩
theorem vRevA_l {bx : Bool} {v : Val} {S : Sto} (h : ∀ xs, v ≠ .tup xs) : vRevA bx v S = (match lstOf S v with | some xs => mkL bx xs.reverse S | none => .st) := by
  unfold vRevA
  cases v <;> first | rfl | exact absurd rfl (h _)
theorem rs_revA : Rs1 (vRevA false) := fun c S v v' u Z1 h e => by
  by_cases hT : ∃ xs, v' = .tup xs
  · obtain ⟨xs, rfl⟩ := hT
    obtain rfl := vq_s h rfl; cases e; rfl
  · have hn : ∀ xs, v' ≠ .tup xs := fun xs h => hT ⟨xs, h⟩
    rw [vRevA_l hn] at e
    rw [vRevA_l (vq_nt h hn)]
    cases q : lstOf Z0 v' with
    | none => rw [q] at e; cases e
    | some xs => rw [q] at e; rw [lst_q h q]; cases e; rfl
def vRevN (v : Val) (S : Sto) : Res Val := match lstOf S v with
  | some xs => .ok (.lst xs.reverse) S
  | none => .st
theorem rn_revA : RsN1 (vRevA true) vRevN := fun c S v v' u Z1 h e => by
  unfold vRevN at e
  cases q : lstOf Z0 v' with
  | none => rw [q] at e; cases e
  | some xs =>
    rw [q] at e; cases e
    have l := lst_q h q
    have hn : ∀ ys, v ≠ .tup ys := by rintro ys rfl; cases l
    rw [vRevA_l hn, l]; exact ⟨_, rfl, rfl⟩
theorem nx_revA : ∀ v S, NX (vRevA false v S) := by
  intro v S; unfold vRevA; split
  · trivial
  · split <;> trivial
theorem nx_revN : ∀ v S, NX (vRevN v S) := by intro v S; unfold vRevN; split <;> trivial
@[simp ↓] theorem v_revAT {xs : List Val} {S : Sto} {bx : Bool} : vRevA bx (.tup xs) S = .ok (.tup xs.reverse) S := nr
@[simp ↓] theorem v_revAL {xs : List Val} {S : Sto} : vRevA false (.lst xs) S = .ok (.lst xs.reverse) S := nr
@[simp ↓] theorem v_revNL {xs : List Val} {S : Sto} : vRevN (.lst xs) S = .ok (.lst xs.reverse) S := nr
def iRevT (f : EM) : IM := fun ρ S => (f ρ S).bind fun v S1 => match v with
  | .tup xs => .ok ⟨xs.reverse, fun _ => True⟩ S1
  | .lst xs => .ok ⟨xs.reverse, fun _ => True⟩ S1
  | .fz xs => .ok ⟨xs.reverse, fun _ => True⟩ S1
  | _ => .st
section
variable {K : PySem.W.Frag} {T : Tbl} {W : Wd}
theorem itvT_ok {a : Addr} {xs : List Val} {ys : List V} (hy0 : SqT K W.I a ys) (r0 : VRs K T W xs ys) : ItOk K T W ⟨xs.reverse, fun _ => True⟩ (RT.ItvT K a ys.length) := by
  intro W' S' H' l s' hs i
  have hy : SqT K H' a ys := SqT_mono (fun b o h => s'.sub b o (l.sub b o h)) hy0
  have r := r0.mono l
  have hn := r.length
  refine ⟨fun v hv => ?_, fun hq => ?_⟩
  · have hi : i < xs.length := by
      have := (List.getElem?_eq_some_iff.mp hv).1
      simpa using this
    have hv' : xs.reverse[i]? = some v := hv
    rw [List.getElem?_reverse hi] at hv'
    obtain ⟨y, e, vy⟩ := r.get hv'
    rw [hn] at e
    refine ⟨⟨by omega, ys, y, hy, e⟩, fun x H'' q => ?_⟩
    obtain ⟨rfl, q⟩ := q
    have := q ys hy
    rw [e] at this
    cases this
    exact ⟨W', .refl _, s', vy⟩
  · have := List.getElem?_eq_none_iff.mp (show xs.reverse[i]? = none from hq)
    show ys.length ≤ i
    simp at this; omega
end
section
variable {T : Tbl} {X : Cx} {Ew : XW} {tg e : Expr} {f : EM} {p pos : Pos}
theorem i_revT (hg : Gl X "reversed") (hm : X.mg "reversed" = none) (ha : PEm T X Ew e f) (hs : starEach [e] X.env = (false, eval e X.env) :: starEach [] X.env := by rfl) : PIm T X Ew tg (.Call (.Name "reversed" p) [e] [] pos) (iRevT f) := by
  refine PI.to (RT.pi_revA hg hm ha hs) fun σ H R h => ?_
  obtain ⟨W, ρ, S, s, er, h⟩ := h
  refine ⟨W, ρ, S, s, er, RP.bind h fun W1 S1 H1 v l1 s1 h1 x vx => ?_⟩
  cases v with
  | tup xs =>
    cases vx with
    | tup hy r => exact ⟨_, _, rfl, .inr ⟨TQ_sq s1.sub hy, h1.now s1 _ (itvT_ok hy.sq r)⟩⟩
  | lst xs =>
    obtain ⟨a, rfl, ⟨ys, hy, hl⟩, q⟩ := list_src s1 vx (.inl ⟨rfl, rfl⟩)
    exact ⟨a, ys, rfl, .inl ⟨hy, h1.now s1 _ (itv_ok hl q)⟩⟩
  | fz xs =>
    obtain ⟨a, rfl, ⟨ys, hy, hl⟩, q⟩ := list_src s1 vx (.inr (.inl ⟨rfl, rfl⟩))
    exact ⟨a, ys, rfl, .inl ⟨hy, h1.now s1 _ (itv_ok hl q)⟩⟩
  | _ => exact False.elim h1
end
/-! its lift -/
def revTP (v : Val) : Option (List Val) := match v with
  | .tup xs => some xs.reverse | .lst xs => some xs.reverse | .fz xs => some xs.reverse | _ => none
def iRevTP (f : EM) : IP := fun ρ S => (f ρ S).bind fun v S1 => match revTP v with
  | some xs => .ok xs S1
  | none => .st
theorem li_revT {κ : List Kd} {e p : EM} (h : LE RV κ e p) : LI κ (iRevT e) (iRevTP p) := fun c Z S ρ ρ' er st => (h c Z S ρ ρ' S.next er st (Nat.le_refl _)).bind fun v v' S1 Z1 x s1 q => by
  obtain rfl : v = v' := q
  cases v <;> first | (exact .ok s1 ⟨rfl, .inl fun _ => trivial⟩) | trivial
section
variable {X : XP} {ρ : Ev} {S : Sto}
@[simp ↓] theorem e_irevTP {f : EM} {P : List Val → Sto → Prop} {kk : Kp (P, X)} : Rn (iRevTP f ρ S) P X kk = Rn ((f ρ S).bind fun v S1 => match revTP v with | some xs => .ok xs S1 | none => .st) P X := nr
@[simp] theorem revT_t {xs : List Val} : revTP (.tup xs) = some xs.reverse := nr
@[simp] theorem revT_l {xs : List Val} : revTP (.lst xs) = some xs.reverse := nr
end
end PM

namespace BK
open PySem PySem.Spec L2 PM
noncomputable def G__law_draws : FM := runB 7
  (sSeq (sSet 2 (eLst false aNil))
    (sSeq (sSet 3 (eC (.int 7)))
    (sSeq (sForP (iSeqP (eCutP (eVar 0) oNone (oSome (eC (.int 63))))) (.name 4)
    (sSeq (sSet 5 (eBIP vAbs (aCons (eVar 4) aNil)))
    (sSeq (sSet 3 (eBinP vMod (eBIP vInt (aCons (eBinP (vAdd false) (eBinP (vAdd false) (eBinP vMul (eVar 3) (eC (.int 48271))) (eVar 5)) (eC (.int 11))) aNil)) (eC (.int 2147483647))))
    (sIf (tB (eBinP vGe (eVar 5) (eBinP vPow (eC (.int 10)) (eC (.int 18))))) (sForP (iRange1P (eC (.int 60))) (.name 6)
    (sIf (tB (eBinP vGt (eVar 5) (eC (.int 0)))) (sSeq (sAppP 2 (eBinP vMod (eBIP vInt (aCons (eVar 5) aNil)) (eC (.int 1009))))
    (sSet 5 (eBinP vFdiv (eVar 5) (eC (.int 1009)))))
    sNext))
    (sAppP 2 (eBinP vMod (eBinP vFdiv (eBIP vInt (aCons (eBinP (vAdd false) (eBinP vMul (eVar 3) (eC (.int 16807))) (eC (.int 5))) aNil)) (eC (.int 3))) (eC (.int 65521))))))))
    (sSeq (sForP (iRange1P (eVar 1)) (.name 6)
    (sIf (tB (eBinP vLt (eBIP vLen (aCons (eVar 2) aNil)) (eVar 1))) (sSeq (sSet 3 (eBinP vMod (eBIP vInt (aCons (eBinP (vAdd false) (eBinP (vAdd false) (eBinP vMul (eVar 3) (eC (.int 69621))) (eVar 6)) (eC (.int 1))) aNil)) (eC (.int 2147483647))))
    (sAppP 2 (eBinP vMod (eBinP vFdiv (eBIP vInt (aCons (eVar 3) aNil)) (eC (.int 7))) (eC (.int 65521)))))
    sNext))
    (sRet (eCutP (eVar 2) oNone (oSome (eVar 1))))))))
noncomputable def G__law_machine : FM := runB 7
  (sSeq (sSet 3 (eLst false aNil))
    (sSeq (sForP (iRange1P (eBinP vMul (eVar 1) (eVar 2))) (.name 4)
    (sSeq (sSet 5 (eBinP vIx (eVar 0) (eVar 4)))
    (sSeq (sSet 6 (eTup (aCons (eBinP vMod (eBIP vInt (aCons (eVar 5) aNil)) (eVar 1)) (aCons (eBinP vIx (eLst false (aCons (eUnP vNeg (eC (.int 1))) (aCons (eC (.int 1)) aNil))) (eBinP vMod (eBIP vInt (aCons (eBinP vFdiv (eVar 5) (eC (.int 4))) aNil)) (eC (.int 2)))) (aCons (eBinP vMod (eBIP vInt (aCons (eBinP vFdiv (eVar 5) (eC (.int 8))) aNil)) (eVar 2)) aNil)))))
    (sAppP 3 (eBinP vIx (eLst false (aCons (eVar 6) (aCons (eC .non) aNil))) (eBIP vInt (aCons (eBinP vEq (eBinP vMod (eBIP vInt (aCons (eBinP vFdiv (eVar 5) (eC (.int 40))) aNil)) (eC (.int 4))) (eC (.int 0))) aNil)))))))
    (sRet (eVar 3))))
noncomputable def G_is_integer : FM := runB 3
  (sRet (eAnd (eBIP vIsi (aCons (eVar 0) (aCons (eC (.ty .int)) aNil))) (eAnd (eNot (eBIP vIsi (aCons (eVar 0) (aCons (eC (.ty .bl)) aNil)))) (eChainP vLe vLe (eVar 1) (eVar 0) (eVar 2)))))
noncomputable def G_Tape__is_row : FM := runB 2
  (sSeq (sIf (tOrM (tNotM (tTruP (eBIP vIsi (aCons (eVar 1) (aCons (eC (.ty .tup)) aNil))))) (tB (eBinP vNe (eBIP vLen (aCons (eVar 1) aNil)) (eC (.int 3))))) (sRet (eC (.bl false)))
    sNext)
    (sSeq (sIf (tOrM (tNotM (tTruP (eCallN 3 G_is_integer (aCons (eBinP vIx (eVar 1) (eC (.int 1))) (aCons (eUnP vNeg (eC (.int 1))) (aCons (eC (.int 1)) aNil)))))) (tB (eBinP vEq (eBinP vIx (eVar 1) (eC (.int 1))) (eC (.int 0))))) (sRet (eC (.bl false)))
    sNext)
    (sRet (eAnd (eCallN 3 G_is_integer (aCons (eBinP vIx (eVar 1) (eC (.int 0))) (aCons (eC (.int 0)) (aCons (eBinP vSub (eAttrP 3 0 (eVar 0)) (eC (.int 1))) aNil)))) (eCallN 3 G_is_integer (aCons (eBinP vIx (eVar 1) (eC (.int 2))) (aCons (eC (.int 0)) (aCons (eBinP vSub (eAttrP 3 1 (eVar 0)) (eC (.int 1))) aNil))))))))
noncomputable def G_Tape___init__ : FM := runBP 0 5
  (sSeq (sIf (tOrM (tNotM (tTruP (eCallN 3 G_is_integer (aCons (eVar 1) (aCons (eC (.int 2)) (aCons (eC (.int 8)) aNil)))))) (tNotM (tTruP (eCallN 3 G_is_integer (aCons (eVar 2) (aCons (eC (.int 1)) (aCons (eC (.int 40)) aNil))))))) sNever
    sNext)
    (sSeq (sIf (tB (eBinP vNe (eBIP vLen (aCons (eVar 3) aNil)) (eBinP vMul (eVar 1) (eVar 2)))) sNever
    sNext)
    (sSeq (sAttrP 3 0 0 (eVar 1))
    (sSeq (sAttrP 3 1 0 (eVar 2))
    (sSeq (sForP (iSeqP (eVar 3)) (.name 4)
    (sIf (tAndM (tB (eBinP vNotN (eVar 4) (eC .non))) (tNotM (tTruP (eMethP 2 3 G_Tape__is_row (eVar 0) (aCons (eVar 4) aNil))))) sNever
    sNext))
    (sAttrP 3 2 0 (eBIP (vList false) (aCons (eVar 3) aNil))))))))
noncomputable def G__law_trimmed : FM := runB 2
  (sSeq (sForP (iRange1P (eBIP vLen (aCons (eVar 0) aNil))) (.name 1)
    (sIf (tAndM (tB (eBinP vGt (eBIP vLen (aCons (eVar 0) aNil)) (eC (.int 0)))) (tB (eBinP vEq (eBinP vIx (eVar 0) (eUnP vNeg (eC (.int 1)))) (eC (.int 0))))) (sSet 0 (eCutP (eVar 0) oNone (oSome (eUnP vNeg (eC (.int 1))))))
    sNext))
    (sRet (eVar 0)))
noncomputable def G__law_configuration : FM := runB 7
  (sSeq (sSet 4 (eBIP vTuple (aCons (eLcP (iRange1P (eBinP vMod (eBIP vInt (aCons (eBinP vIx (eVar 0) (eC (.int 0))) aNil)) (eBinP (vAdd false) (eVar 3) (eC (.int 1))))) (.name 6) tYesM (eBinP vMod (eBIP vInt (aCons (eBinP vIx (eVar 0) (eBinP (vAdd false) (eC (.int 1)) (eVar 6))) aNil)) (eVar 1)) [6]) aNil)))
    (sSeq (sSet 5 (eBIP vTuple (aCons (eLcP (iRange1P (eBinP vMod (eBIP vInt (aCons (eBinP vFdiv (eBinP vIx (eVar 0) (eC (.int 0))) (eC (.int 7))) aNil)) (eBinP (vAdd false) (eVar 3) (eC (.int 1))))) (.name 6) tYesM (eBinP vMod (eBIP vInt (aCons (eBinP vIx (eVar 0) (eBinP (vAdd false) (eC (.int 5)) (eVar 6))) aNil)) (eVar 1)) [6]) aNil)))
    (sRet (eTup (aCons (eBinP vMod (eBIP vInt (aCons (eBinP vIx (eVar 0) (eC (.int 9))) aNil)) (eVar 2)) (aCons (eCallN 1 G__law_trimmed (aCons (eVar 4) aNil)) (aCons (eBinP vMod (eBIP vInt (aCons (eBinP vIx (eVar 0) (eC (.int 10))) aNil)) (eVar 1)) (aCons (eCallN 1 G__law_trimmed (aCons (eVar 5) aNil)) aNil))))))))
noncomputable def G__law_step : FM := runB 8
  (sSeq (sAsg (.tup [(.name 3), (.name 4), (.name 5), (.name 6)]) (eVar 2))
    (sSeq (sSet 7 (eBinP vIx (eVar 0) (eBinP (vAdd false) (eBinP vMul (eVar 3) (eVar 1)) (eVar 5))))
    (sSeq (sIf (tB (eBinP vIsN (eVar 7) (eC .non))) (sRet (eC .non))
    sNext)
    (sSeq (sIf (tB (eBinP vEq (eBinP vIx (eVar 7) (eC (.int 1))) (eC (.int 1)))) (sRet (eTup (aCons (eBinP vIx (eVar 7) (eC (.int 2))) (aCons (eCallN 1 G__law_trimmed (aCons (eBinP (vAdd false) (eTup (aCons (eBinP vIx (eVar 7) (eC (.int 0))) aNil)) (eVar 4)) aNil)) (aCons (eBinP vIx (eBinP (vAdd false) (eVar 6) (eTup (aCons (eC (.int 0)) aNil))) (eC (.int 0))) (aCons (eCutP (eVar 6) (oSome (eC (.int 1))) oNone) aNil))))))
    sNext)
    (sRet (eTup (aCons (eBinP vIx (eVar 7) (eC (.int 2))) (aCons (eCutP (eVar 4) (oSome (eC (.int 1))) oNone) (aCons (eBinP vIx (eBinP (vAdd false) (eVar 4) (eTup (aCons (eC (.int 0)) aNil))) (eC (.int 0))) (aCons (eCallN 1 G__law_trimmed (aCons (eBinP (vAdd false) (eTup (aCons (eBinP vIx (eVar 7) (eC (.int 0))) aNil)) (eVar 6)) aNil)) aNil))))))))))
noncomputable def G_Tape_row : FM := runB 3
  (sSeq (sIf (tOrM (tNotM (tTruP (eCallN 3 G_is_integer (aCons (eVar 1) (aCons (eC (.int 0)) (aCons (eBinP vSub (eAttrP 3 1 (eVar 0)) (eC (.int 1))) aNil)))))) (tNotM (tTruP (eCallN 3 G_is_integer (aCons (eVar 2) (aCons (eC (.int 0)) (aCons (eBinP vSub (eAttrP 3 0 (eVar 0)) (eC (.int 1))) aNil))))))) sNever
    sNext)
    (sRet (eBinP vIx (eAttrP 3 2 (eVar 0)) (eBinP (vAdd false) (eBinP vMul (eVar 1) (eAttrP 3 0 (eVar 0))) (eVar 2)))))
noncomputable def G_trimmed : FM := runB 2
  (sSeq (sSet 1 (eBIP vLen (aCons (eVar 0) aNil)))
    (sSeq (whileM wMax (tAndM (tB (eBinP vGt (eVar 1) (eC (.int 0)))) (tB (eBinP vEq (eBinP vIx (eVar 0) (eBinP vSub (eVar 1) (eC (.int 1)))) (eC (.int 0)))))
    (sAugP 1 vSub (eC (.int 1))))
    (sRet (eBIP vTuple (aCons (eCutP (eVar 0) oNone (oSome (eVar 1))) aNil)))))
noncomputable def G_Tape_step : FM := runB 11
  (sSeq (sAsg (.tup [(.name 2), (.name 3), (.name 4), (.name 5)]) (eVar 1))
    (sSeq (sSet 6 (eMethP 3 3 G_Tape_row (eVar 0) (aCons (eVar 2) (aCons (eVar 4) aNil))))
    (sSeq (sIf (tB (eBinP vIsN (eVar 6) (eC .non))) (sRet (eC .non))
    sNext)
    (sSeq (sAsg (.tup [(.name 7), (.name 8), (.name 9)]) (eVar 6))
    (sSeq (sIf (tB (eBinP vEq (eVar 8) (eC (.int 1)))) (sSeq (sSet 3 (eCallN 1 G_trimmed (aCons (eBinP (vAdd false) (eTup (aCons (eVar 7) aNil)) (eVar 3)) aNil)))
    (sSeq (sSet 10 (eIf (tTruP (eVar 5)) (eBinP vIx (eVar 5) (eC (.int 0))) (eC (.int 0))))
    (sRet (eTup (aCons (eVar 9) (aCons (eVar 3) (aCons (eVar 10) (aCons (eCutP (eVar 5) (oSome (eC (.int 1))) oNone) aNil))))))))
    sNext)
    (sSeq (sSet 5 (eCallN 1 G_trimmed (aCons (eBinP (vAdd false) (eTup (aCons (eVar 7) aNil)) (eVar 5)) aNil)))
    (sSeq (sSet 10 (eIf (tTruP (eVar 3)) (eBinP vIx (eVar 3) (eC (.int 0))) (eC (.int 0))))
    (sRet (eTup (aCons (eVar 9) (aCons (eCutP (eVar 3) (oSome (eC (.int 1))) oNone) (aCons (eVar 10) (aCons (eVar 5) aNil)))))))))))))
noncomputable def G_past_of : FM := runB 6
  (sSeq (sSet 3 (eLst false aNil))
    (sSeq (sForP (iRange1P (eVar 2)) (.name 4)
    (sSeq (sSet 5 (eMethP 2 3 G_Tape_step (eVar 0) (aCons (eVar 1) aNil)))
    (sSeq (sIf (tB (eBinP vIsN (eVar 5) (eC .non))) sBreak
    sNext)
    (sSeq (sAppP 3 (eTup (aCons (eBinP vIx (eVar 1) (eC (.int 0))) (aCons (eBinP vIx (eVar 1) (eC (.int 2))) aNil))))
    (sSet 1 (eVar 5))))))
    (sRet (eBIP vTuple (aCons (eVar 3) aNil)))))
noncomputable def G_moved : FM := runB 5
  (sSeq (sAsg (.tup [(.name 2), (.name 3), (.name 4)]) (eVar 0))
    (sSeq (sIf (tB (eBinP vEq (eVar 1) (eC (.int 1)))) (sRet (eTup (aCons (eCallN 1 G_trimmed (aCons (eBinP (vAdd false) (eTup (aCons (eVar 3) aNil)) (eVar 2)) aNil)) (aCons (eIf (tTruP (eVar 4)) (eBinP vIx (eVar 4) (eC (.int 0))) (eC (.int 0))) (aCons (eCutP (eVar 4) (oSome (eC (.int 1))) oNone) aNil)))))
    sNext)
    (sSeq (sIf (tB (eBinP vEq (eVar 1) (eUnP vNeg (eC (.int 1))))) (sRet (eTup (aCons (eCutP (eVar 2) (oSome (eC (.int 1))) oNone) (aCons (eIf (tTruP (eVar 2)) (eBinP vIx (eVar 2) (eC (.int 0))) (eC (.int 0))) (aCons (eCallN 1 G_trimmed (aCons (eBinP (vAdd false) (eTup (aCons (eVar 3) aNil)) (eVar 4)) aNil)) aNil)))))
    sNext)
    (sRet (eVar 0)))))
noncomputable def G_undone : FM := runB 9
  (sSeq (sAsg (.tup [(.name 3), (.name 4), (.name 5), (.name 6)]) (eVar 1))
    (sSeq (sSet 7 (eMethP 3 3 G_Tape_row (eVar 0) (aCons (eBinP vIx (eVar 2) (eC (.int 0))) (aCons (eBinP vIx (eVar 2) (eC (.int 1))) aNil))))
    (sSeq (sIf (tOrM (tB (eBinP vIsN (eVar 7) (eC .non))) (tB (eBinP vNe (eBinP vIx (eVar 7) (eC (.int 2))) (eVar 3)))) (sRaise 8)
    sNext)
    (sSeq (sSet 8 (eCallN 2 G_moved (aCons (eTup (aCons (eVar 4) (aCons (eVar 5) (aCons (eVar 6) aNil)))) (aCons (eUnP vNeg (eBinP vIx (eVar 7) (eC (.int 1)))) aNil))))
    (sSeq (sIf (tB (eBinP vNe (eBinP vIx (eVar 8) (eC (.int 1))) (eBinP vIx (eVar 7) (eC (.int 0))))) (sRaise 8)
    sNext)
    (sRet (eTup (aCons (eBinP vIx (eVar 2) (eC (.int 0))) (aCons (eBinP vIx (eVar 8) (eC (.int 0))) (aCons (eBinP vIx (eVar 2) (eC (.int 1))) (aCons (eBinP vIx (eVar 8) (eC (.int 2))) aNil)))))))))))
noncomputable def G_trail : FM := runB 5
  (sSeq (sSet 3 (eLst false (aCons (eVar 1) aNil)))
    (sSeq (sForP (iRevTP (eVar 2)) (.name 4)
    (sAppP 3 (eCallXN 3 G_undone (aCons (eVar 0) (aCons (eBinP vIx (eVar 3) (eUnP vNeg (eC (.int 1)))) (aCons (eVar 4) aNil))))))
    (sRet (eUnP (vRevA false) (eVar 3)))))
noncomputable def G__law_found : FM := runB 5
  (sSeq (sTryP (sSeq (sIf (tB (eBinP vEq (eVar 0) (eC (.str "undone")))) (sRet (eCallXN 3 G_undone (aCons (eVar 1) (aCons (eVar 2) (aCons (eVar 3) aNil)))))
    sNext)
    (sRet (eCallXN 3 G_trail (aCons (eVar 1) (aCons (eVar 2) (aCons (eVar 3) aNil)))))) 4 [] [(8, (sIf (tAndM (tTruP (eIsErr 4 (eC (.cls 8)) true)) (tAndM (tTruP (eIsErr 4 (eC (.ty .ve)) true)) (tNotM (tTruP (eIsErr 4 (eC (.cls 1)) false))))) (sRet (eTup (aCons (eC (.str "refused")) aNil)))
    sNext))])
    (sRet (eC (.str "other"))))
noncomputable def G__law_before : FM := runB 10
  (sSeq (sAsg (.tup [(.name 4), (.name 5), (.name 6), (.name 7)]) (eVar 2))
    (sSeq (sSet 8 (eBinP vIx (eVar 0) (eBinP (vAdd false) (eBinP vMul (eBinP vIx (eVar 3) (eC (.int 0))) (eVar 1)) (eBinP vIx (eVar 3) (eC (.int 1))))))
    (sSeq (sIf (tOrM (tB (eBinP vIsN (eVar 8) (eC .non))) (tB (eBinP vNe (eBinP vIx (eVar 8) (eC (.int 2))) (eVar 4)))) (sRet (eTup (aCons (eC (.str "refused")) aNil)))
    sNext)
    (sSeq (sIf (tB (eBinP vEq (eBinP vIx (eVar 8) (eC (.int 1))) (eC (.int 1)))) (sSeq (sSet 9 (eTup (aCons (eBinP vIx (eVar 3) (eC (.int 0))) (aCons (eCutP (eVar 5) (oSome (eC (.int 1))) oNone) (aCons (eBinP vIx (eVar 3) (eC (.int 1))) (aCons (eCallN 1 G__law_trimmed (aCons (eBinP (vAdd false) (eTup (aCons (eVar 6) aNil)) (eVar 7)) aNil)) aNil))))))
    (sIf (tB (eBinP vNe (eBinP vIx (eBinP (vAdd false) (eVar 5) (eTup (aCons (eC (.int 0)) aNil))) (eC (.int 0))) (eBinP vIx (eVar 8) (eC (.int 0))))) (sRet (eTup (aCons (eC (.str "refused")) aNil)))
    sNext))
    (sSeq (sSet 9 (eTup (aCons (eBinP vIx (eVar 3) (eC (.int 0))) (aCons (eCallN 1 G__law_trimmed (aCons (eBinP (vAdd false) (eTup (aCons (eVar 6) aNil)) (eVar 5)) aNil)) (aCons (eBinP vIx (eVar 3) (eC (.int 1))) (aCons (eCutP (eVar 7) (oSome (eC (.int 1))) oNone) aNil))))))
    (sIf (tB (eBinP vNe (eBinP vIx (eBinP (vAdd false) (eVar 7) (eTup (aCons (eC (.int 0)) aNil))) (eC (.int 0))) (eBinP vIx (eVar 8) (eC (.int 0))))) (sRet (eTup (aCons (eC (.str "refused")) aNil)))
    sNext)))
    (sRet (eVar 9))))))
noncomputable def G__law_trail : FM := runB 7
  (sSeq (sSet 4 (eLst false (aCons (eVar 2) aNil)))
    (sSeq (sForP (iSeqP (eUnP (vRevA false) (eVar 3))) (.name 5)
    (sSeq (sSet 6 (eCallN 4 G__law_before (aCons (eVar 0) (aCons (eVar 1) (aCons (eBinP vIx (eVar 4) (eC (.int 0))) (aCons (eVar 5) aNil))))))
    (sSeq (sIf (tB (eBinP vEq (eVar 6) (eTup (aCons (eC (.str "refused")) aNil)))) (sRet (eTup (aCons (eC (.str "refused")) aNil)))
    sNext)
    (sSet 4 (eBinP (vAdd false) (eLst false (aCons (eVar 6) aNil)) (eVar 4))))))
    (sRet (eVar 4))))
noncomputable def G_law : FM := runB 17
  (sSeq (sSet 1 (eCallN 2 G__law_draws (aCons (eVar 0) (aCons (eC (.int 70)) aNil))))
    (sSeq (sPar 2 3 (aCons (eBinP (vAdd false) (eC (.int 2)) (eBinP vMod (eBIP vInt (aCons (eBinP vIx (eVar 1) (eC (.int 40))) aNil)) (eC (.int 3)))) (aCons (eBinP (vAdd false) (eC (.int 1)) (eBinP vMod (eBIP vInt (aCons (eBinP vIx (eVar 1) (eC (.int 41))) aNil)) (eC (.int 4)))) aNil)))
    (sSeq (sSet 4 (eCallN 3 G__law_machine (aCons (eVar 1) (aCons (eVar 2) (aCons (eVar 3) aNil)))))
    (sSeq (sSet 5 (eMakeP 4 3 G_Tape___init__ (aCons (eVar 2) (aCons (eVar 3) (aCons (eVar 4) aNil)))))
    (sSeq (sSet 6 (eCallN 4 G__law_configuration (aCons (eCutP (eVar 1) (oSome (eC (.int 20))) oNone) (aCons (eVar 2) (aCons (eVar 3) (aCons (eC (.int 3)) aNil))))))
    (sSeq (sSet 7 (eBinP vMod (eBIP vInt (aCons (eBinP vIx (eVar 1) (eC (.int 42))) aNil)) (eC (.int 13))))
    (sSeq (sPar 8 9 (aCons (eLst false (aCons (eVar 6) aNil)) (aCons (eTup aNil) aNil)))
    (sSeq (sForP (iRange1P (eVar 7)) (.name 10)
    (sSeq (sSet 11 (eCallN 3 G__law_step (aCons (eVar 4) (aCons (eVar 2) (aCons (eBinP vIx (eVar 8) (eUnP vNeg (eC (.int 1)))) aNil)))))
    (sIf (tB (eBinP vNotN (eVar 11) (eC .non))) (sSeq (sSet 9 (eBinP (vAdd false) (eVar 9) (eTup (aCons (eTup (aCons (eBinP vIx (eBinP vIx (eVar 8) (eUnP vNeg (eC (.int 1)))) (eC (.int 0))) (aCons (eBinP vIx (eBinP vIx (eVar 8) (eUnP vNeg (eC (.int 1)))) (eC (.int 2))) aNil))) aNil))))
    (sAppP 8 (eVar 11)))
    sNext)))
    (sSeq (sIf (tOrM (tB (eBinP vNe (eCallN 3 G_past_of (aCons (eVar 5) (aCons (eVar 6) (aCons (eC (.int 0)) aNil)))) (eTup aNil))) (tOrM (tB (eBinP vNe (eCallN 3 G_past_of (aCons (eVar 5) (aCons (eVar 6) (aCons (eVar 7) aNil)))) (eVar 9))) (tOrM (tB (eBinP vNe (eCallN 3 G_trail (aCons (eVar 5) (aCons (eBinP vIx (eVar 8) (eUnP vNeg (eC (.int 1)))) (aCons (eVar 9) aNil)))) (eVar 8))) (tB (eBinP vNe (eCallN 3 G_trail (aCons (eVar 5) (aCons (eVar 6) (aCons (eTup aNil) aNil)))) (eLst false (aCons (eVar 6) aNil))))))) (sRet (eC (.bl false)))
    sNext)
    (sSeq (sForP (iRange1P (eVar 3)) (.name 12)
    (sForP (iRange1P (eVar 2)) (.name 13)
    (sIf (tB (eBinP vNe (eCallN 4 G__law_found (aCons (eC (.str "undone")) (aCons (eVar 5) (aCons (eBinP vIx (eVar 8) (eUnP vNeg (eC (.int 1)))) (aCons (eTup (aCons (eVar 12) (aCons (eVar 13) aNil))) aNil))))) (eCallN 4 G__law_before (aCons (eVar 4) (aCons (eVar 2) (aCons (eBinP vIx (eVar 8) (eUnP vNeg (eC (.int 1)))) (aCons (eTup (aCons (eVar 12) (aCons (eVar 13) aNil))) aNil))))))) (sRet (eC (.bl false)))
    sNext)))
    (sSeq (sSet 14 (eBinP vMod (eBIP vInt (aCons (eBinP vIx (eVar 1) (eC (.int 43))) aNil)) (eBinP (vAdd false) (eBIP vLen (aCons (eVar 9) aNil)) (eC (.int 1)))))
    (sSeq (sSet 15 (eTup (aCons (eBinP vMod (eBIP vInt (aCons (eBinP vIx (eVar 1) (eC (.int 44))) aNil)) (eVar 3)) (aCons (eBinP vMod (eBIP vInt (aCons (eBinP vIx (eVar 1) (eC (.int 45))) aNil)) (eVar 2)) aNil))))
    (sSeq (sForP (iSeqP (eLst false (aCons (eBinP (vAdd false) (eBinP (vAdd false) (eCutP (eVar 9) oNone (oSome (eVar 14))) (eTup (aCons (eVar 15) aNil))) (eCutP (eVar 9) (oSome (eVar 14)) oNone)) (aCons (eBinP (vAdd false) (eBinP (vAdd false) (eCutP (eVar 9) oNone (oSome (eVar 14))) (eTup (aCons (eVar 15) aNil))) (eCutP (eVar 9) (oSome (eBinP (vAdd false) (eVar 14) (eC (.int 1)))) oNone)) (aCons (eBinP (vAdd false) (eCutP (eVar 9) oNone (oSome (eVar 14))) (eCutP (eVar 9) (oSome (eBinP (vAdd false) (eVar 14) (eC (.int 1)))) oNone)) aNil))))) (.name 16)
    (sIf (tB (eBinP vNe (eCallN 4 G__law_found (aCons (eC (.str "trail")) (aCons (eVar 5) (aCons (eBinP vIx (eVar 8) (eUnP vNeg (eC (.int 1)))) (aCons (eVar 16) aNil))))) (eCallN 4 G__law_trail (aCons (eVar 4) (aCons (eVar 2) (aCons (eBinP vIx (eVar 8) (eUnP vNeg (eC (.int 1)))) (aCons (eVar 16) aNil))))))) (sRet (eC (.bl false)))
    sNext))
    (sRet (eC (.bl true))))))))))))))))
end BK

namespace BK
open PySem PySem.Spec L2 PM
noncomputable def G__law_take : FM := runB 2
  (sSeq (sIf (tB (eBinP vLt (eBin vIx (eVar 1) (eC (.int 0))) (eBIP vLen (aCons (eVar 0) aNil)))) (sSeq (sSetIx (eVar 1) (eC (.int 0)) (eBinP (vAdd false) (eBin vIx (eVar 1) (eC (.int 0))) (eC (.int 1))))
    (sRet (eBinP vIx (eVar 0) (eBinP vSub (eBin vIx (eVar 1) (eC (.int 0))) (eC (.int 1))))))
    sNext)
    (sRet (eC (.int 0))))
noncomputable def G__law_machine_2 : FM := runB 9
  (sSeq (sSet 4 (eLst false aNil))
    (sSeq (sSet 5 (eBinP vMod (eCallN 2 G__law_take (aCons (eVar 0) (aCons (eVar 1) aNil))) (eC (.int 4))))
    (sSeq (sForP (iRange1P (eBinP vMul (eVar 2) (eVar 3))) (.name 6)
    (sIf (tB (eBinP vLt (eVar 6) (eC (.int 400)))) (sSeq (sSet 7 (eBinP (vAdd false) (eCallN 2 G__law_take (aCons (eVar 0) (aCons (eVar 1) aNil))) (eBinP vMul (eC (.int 17)) (eBinP vFdiv (eVar 6) (eC (.int 24))))))
    (sSeq (sSet 8 (eTup (aCons (eBinP vMod (eVar 7) (eVar 2)) (aCons (eBinP vIx (eTup (aCons (eUnP vNeg (eC (.int 1))) (aCons (eC (.int 1)) aNil))) (eBinP vMod (eBinP vFdiv (eVar 7) (eC (.int 4))) (eC (.int 2)))) (aCons (eBinP vMod (eBinP vFdiv (eVar 7) (eC (.int 8))) (eVar 3)) aNil)))))
    (sSeq (sIf (tAndM (tB (eBinP vEq (eVar 5) (eC (.int 1)))) (tB (eBinP vGt (eVar 6) (eC (.int 0))))) (sSet 8 (eTup (aCons (eBinP vMod (eVar 7) (eVar 2)) (aCons (eC (.int 1)) (aCons (eBinP vMod (eBinP vFdiv (eVar 7) (eC (.int 8))) (eVar 3)) aNil)))))
    sNext)
    (sSeq (sIf (tAndM (tB (eBinP vEq (eBinP vMod (eBinP vFdiv (eVar 7) (eC (.int 50))) (eC (.int 7))) (eC (.int 0)))) (tB (eBinP vNe (eVar 5) (eC (.int 2))))) (sSet 8 (eC .non))
    sNext)
    (sAppP 4 (eVar 8))))))
    sNext))
    (sRet (eVar 4)))))
noncomputable def G__law_trim : FM := runB 3
  (sSeq (sSet 1 (eBIP vLen (aCons (eLcP (iRange1P (eBIP vLen (aCons (eVar 0) aNil))) (.name 2) (tB (eBinP vGt (eBIP (vBest max) (aCons (eBinP (vAdd false) (eTup (aCons (eC (.int 0)) aNil)) (eCutP (eVar 0) (oSome (eVar 2)) oNone)) aNil)) (eC (.int 0)))) (eVar 2) [2]) aNil)))
    (sRet (eCutP (eVar 0) oNone (oSome (eVar 1)))))
noncomputable def G__law_side : FM := runB 6
  (sSeq (sSet 4 (eTup aNil))
    (sSeq (sForP (iRange1P (eBinP vMod (eCallN 2 G__law_take (aCons (eVar 0) (aCons (eVar 1) aNil))) (eBinP (vAdd false) (eVar 3) (eC (.int 1))))) (.name 5)
    (sSet 4 (eBinP (vAdd false) (eVar 4) (eTup (aCons (eBinP vMod (eCallN 2 G__law_take (aCons (eVar 0) (aCons (eVar 1) aNil))) (eVar 2)) aNil)))))
    (sRet (eCallN 1 G__law_trim (aCons (eVar 4) aNil)))))
noncomputable def G__law_configuration_2 : FM := runB 7
  (sSeq (sSet 5 (eCallN 4 G__law_side (aCons (eVar 0) (aCons (eVar 1) (aCons (eVar 2) (aCons (eVar 4) aNil))))))
    (sSeq (sSet 6 (eCallN 4 G__law_side (aCons (eVar 0) (aCons (eVar 1) (aCons (eVar 2) (aCons (eVar 4) aNil))))))
    (sRet (eTup (aCons (eBinP vMod (eCallN 2 G__law_take (aCons (eVar 0) (aCons (eVar 1) aNil))) (eVar 3)) (aCons (eVar 5) (aCons (eBinP vMod (eCallN 2 G__law_take (aCons (eVar 0) (aCons (eVar 1) aNil))) (eVar 2)) (aCons (eVar 6) aNil))))))))
noncomputable def G__law_step_2 : FM := runB 6
  (sSeq (sSet 3 (eBinP vIx (eVar 0) (eBinP (vAdd false) (eBinP vMul (eBinP vIx (eVar 2) (eC (.int 0))) (eVar 1)) (eBinP vIx (eVar 2) (eC (.int 2))))))
    (sSeq (sIf (tB (eBinP vIsN (eVar 3) (eC .non))) (sRet (eC .non))
    sNext)
    (sSeq (sSet 4 (eBinP (vAdd false) (eBinP (vAdd false) (eUnP vTupRev (eBinP vIx (eVar 2) (eC (.int 1)))) (eTup (aCons (eBinP vIx (eVar 3) (eC (.int 0))) aNil))) (eBinP vIx (eVar 2) (eC (.int 3)))))
    (sSeq (sSet 5 (eBinP (vAdd false) (eBIP vLen (aCons (eBinP vIx (eVar 2) (eC (.int 1))) aNil)) (eBinP vIx (eVar 3) (eC (.int 1)))))
    (sSeq (sIf (tB (eBinP vLt (eVar 5) (eC (.int 0)))) (sSeq (sSet 4 (eBinP (vAdd false) (eTup (aCons (eC (.int 0)) aNil)) (eVar 4)))
    (sSet 5 (eC (.int 0))))
    sNext)
    (sSeq (sIf (tB (eBinP vEq (eVar 5) (eBIP vLen (aCons (eVar 4) aNil)))) (sSet 4 (eBinP (vAdd false) (eVar 4) (eTup (aCons (eC (.int 0)) aNil))))
    sNext)
    (sRet (eTup (aCons (eBinP vIx (eVar 3) (eC (.int 2))) (aCons (eCallN 1 G__law_trim (aCons (eUnP vTupRev (eCutP (eVar 4) oNone (oSome (eVar 5)))) aNil)) (aCons (eBinP vIx (eVar 4) (eVar 5)) (aCons (eCallN 1 G__law_trim (aCons (eCutP (eVar 4) (oSome (eBinP (vAdd false) (eVar 5) (eC (.int 1)))) oNone) aNil)) aNil))))))))))))
noncomputable def G_Tape_begin : FM := runB 3
  (sSeq (sForP (iSeqP (eVar 1)) (.name 2)
    (sIf (tNotM (tTruP (eCallN 3 G_is_integer (aCons (eVar 2) (aCons (eC (.int 0)) (aCons (eBinP vSub (eAttrP 3 0 (eVar 0)) (eC (.int 1))) aNil)))))) sNever
    sNext))
    (sSeq (sIf (tB (eBinP vEq (eBIP vLen (aCons (eVar 1) aNil)) (eC (.int 0)))) (sRet (eTup (aCons (eC (.int 0)) (aCons (eTup aNil) (aCons (eC (.int 0)) (aCons (eTup aNil) aNil))))))
    sNext)
    (sRet (eTup (aCons (eC (.int 0)) (aCons (eTup aNil) (aCons (eBinP vIx (eVar 1) (eC (.int 0))) (aCons (eCallN 1 G_trimmed (aCons (eCutP (eVar 1) (oSome (eC (.int 1))) oNone) aNil)) aNil))))))))
noncomputable def G__law_numbers : FM := runB 7
  (sSeq (sSet 2 (eLst false aNil))
    (sSeq (sForP (iRange1P (eBIP vLen (aCons (eVar 0) aNil))) (.name 3)
    (sSeq (sSet 4 (eBIP vAbs (aCons (eBinP vIx (eVar 0) (eVar 3)) aNil)))
    (sIf (tB (eBinP vGe (eVar 4) (eBinP vPow (eC (.int 10)) (eC (.int 18))))) (sForP (iRange1P (eC (.int 60))) (.name 5)
    (sIf (tAndM (tB (eBinP vGt (eVar 4) (eC (.int 0)))) (tB (eBinP vLt (eBIP vLen (aCons (eVar 2) aNil)) (eVar 1)))) (sSeq (sAppP 2 (eBinP vMod (eVar 4) (eC (.int 1000))))
    (sSet 4 (eBinP vFdiv (eVar 4) (eC (.int 1000)))))
    sNext))
    (sForP (iRange1P (eC (.int 5))) (.name 5)
    (sSeq (sSet 6 (eBinP vMod (eBIP vInt (aCons (eBinP (vAdd false) (eBinP (vAdd false) (eBinP (vAdd false) (eBinP vMul (eVar 4) (eC (.int 48271))) (eBinP vMul (eVar 3) (eC (.int 69621)))) (eBinP vMul (eVar 5) (eC (.int 16807)))) (eC (.int 11))) aNil)) (eC (.int 2147483647))))
    (sSeq (sSet 6 (eBinP vMod (eBIP vInt (aCons (eBinP (vAdd false) (eBinP vMul (eVar 6) (eVar 6)) (eVar 5)) aNil)) (eC (.int 2147483629))))
    (sAppP 2 (eBinP vMod (eBinP vFdiv (eVar 6) (eC (.int 7))) (eC (.int 1000))))))))))
    (sRet (eCutP (eVar 2) oNone (oSome (eVar 1))))))
noncomputable def G_Tape_run : FM := runB 5
  (sSeq (sSet 3 (eC (.int 0)))
    (sSeq (whileM wMax (tB (eBinP vLt (eVar 3) (eVar 2)))
    (sSeq (sSet 4 (eMethP 2 3 G_Tape_step (eVar 0) (aCons (eVar 1) aNil)))
    (sSeq (sIf (tB (eBinP vIsN (eVar 4) (eC .non))) sBreak
    sNext)
    (sSeq (sSet 1 (eVar 4))
    (sAugP 3 vAddI (eC (.int 1)))))))
    (sRet (eTup (aCons (eVar 1) (aCons (eVar 3) aNil))))))
noncomputable def G_Tape_stopped : FM := runB 2
  (sRet (eBinP vIsN (eMethP 3 3 G_Tape_row (eVar 0) (aCons (eBinP vIx (eVar 1) (eC (.int 0))) (aCons (eBinP vIx (eVar 1) (eC (.int 2))) aNil))) (eC .non)))
noncomputable def G_Tape_table__bx : FM := runB 1
  (sRet (eBIP (vList false) (aCons (eAttrP 3 2 (eVar 0)) aNil)))
noncomputable def G__law_run : FM := runB 7
  (sSeq (sSet 4 (eC (.int 0)))
    (sSeq (sForP (iRange1P (eVar 3)) (.name 5)
    (sSeq (sSet 6 (eCallN 3 G__law_step_2 (aCons (eVar 0) (aCons (eVar 1) (aCons (eVar 2) aNil)))))
    (sSeq (sIf (tB (eBinP vIsN (eVar 6) (eC .non))) (sRet (eTup (aCons (eVar 2) (aCons (eVar 4) aNil))))
    sNext)
    (sSeq (sSet 2 (eVar 6))
    (sSet 4 (eBinP (vAdd false) (eVar 4) (eC (.int 1))))))))
    (sRet (eTup (aCons (eVar 2) (aCons (eVar 4) aNil))))))
noncomputable def GH__law_same (r : FM) : FM := runB 3
  (sSeq (sIf (tTruP (eBIP vIsi (aCons (eVar 1) (aCons (eC (.ty .tup)) aNil)))) (sSeq (sIf (tOrM (tNotM (tTruP (eBIP vIsi (aCons (eVar 0) (aCons (eC (.ty .tup)) aNil))))) (tB (eBinP vNe (eBIP vLen (aCons (eVar 0) aNil)) (eBIP vLen (aCons (eVar 1) aNil))))) (sRet (eC (.bl false)))
    sNext)
    (sSeq (sForP (iRange1P (eBIP vLen (aCons (eVar 1) aNil))) (.name 2)
    (sIf (tNotM (tTruP (eCallN 2 r (aCons (eBinP vIx (eVar 0) (eVar 2)) (aCons (eBinP vIx (eVar 1) (eVar 2)) aNil))))) (sRet (eC (.bl false)))
    sNext))
    (sRet (eC (.bl true)))))
    sNext)
    (sSeq (sIf (tB (eBinP vIsN (eVar 1) (eC .non))) (sRet (eBinP vIsN (eVar 0) (eC .non)))
    sNext)
    (sSeq (sIf (tTruP (eBIP vIsi (aCons (eVar 1) (aCons (eC (.ty .str)) aNil)))) (sRet (eAnd (eBIP vIsi (aCons (eVar 0) (aCons (eC (.ty .str)) aNil))) (eBinP vEq (eVar 0) (eVar 1))))
    sNext)
    (sRet (eAnd (eBIP vIsi (aCons (eVar 0) (aCons (eC (.ty .int)) aNil))) (eAnd (eNot (eBIP vIsi (aCons (eVar 0) (aCons (eC (.ty .bl)) aNil)))) (eBinP vEq (eVar 0) (eVar 1))))))))
noncomputable def G__law_same : Nat → FM
  | 0 => fun _ _ => .st
  | i + 1 => GH__law_same (G__law_same i)
theorem Gs__law_same (i : Nat) : G__law_same (i + 1) = GH__law_same (G__law_same i) := rfl
noncomputable def G__law_right : FM := runB 8
  (sSeq (sIf (tNotM (tTruP (eCallN 2 (G__law_same 5) (aCons (eTup (aCons (eAttrP 3 0 (eVar 0)) (aCons (eAttrP 3 1 (eVar 0)) aNil))) (aCons (eVar 1) aNil))))) (sRet (eC (.bl false)))
    sNext)
    (sSeq (sSet 5 (eMethP 1 3 G_Tape_table__bx (eVar 0) aNil))
    (sSeq (sIf (tOrM (tNotM (tTruP (eBIP vIsi (aCons (eVar 5) (aCons (eC (.ty .lst)) aNil))))) (tNotM (tTruP (eCallN 2 (G__law_same 5) (aCons (eBIP vTuple (aCons (eVar 5) aNil)) (aCons (eBIP vTuple (aCons (eVar 2) aNil)) aNil)))))) (sRet (eC (.bl false)))
    sNext)
    (sSeq (sAppP 5 (eC .non))
    (sSeq (sForP (iRange1P (eBIP vLen (aCons (eVar 2) aNil))) (.name 6)
    (sIf (tNotM (tTruP (eCallN 2 (G__law_same 5) (aCons (eMethP 3 3 G_Tape_row (eVar 0) (aCons (eBinP vFdiv (eVar 6) (eBinP vIx (eVar 1) (eC (.int 0)))) (aCons (eBinP vMod (eVar 6) (eBinP vIx (eVar 1) (eC (.int 0)))) aNil))) (aCons (eBinP vIx (eVar 2) (eVar 6)) aNil))))) (sRet (eC (.bl false)))
    sNext))
    (sSeq (sSet 7 (eCallN 3 G__law_step_2 (aCons (eVar 2) (aCons (eBinP vIx (eVar 1) (eC (.int 0))) (aCons (eVar 3) aNil)))))
    (sSeq (sIf (tOrM (tNotM (tTruP (eCallN 2 (G__law_same 5) (aCons (eMethP 2 3 G_Tape_step (eVar 0) (aCons (eVar 3) aNil)) (aCons (eVar 7) aNil))))) (tNotM (tTruP (eBIP vIsi (aCons (eMethP 2 3 G_Tape_stopped (eVar 0) (aCons (eVar 3) aNil)) (aCons (eC (.ty .bl)) aNil)))))) (sRet (eC (.bl false)))
    sNext)
    (sSeq (sIf (tB (eBinP vNe (eMethP 2 3 G_Tape_stopped (eVar 0) (aCons (eVar 3) aNil)) (eBinP vIsN (eVar 7) (eC .non)))) (sRet (eC (.bl false)))
    sNext)
    (sSeq (sIf (tNotM (tTruP (eCallN 2 (G__law_same 5) (aCons (eMethP 3 3 G_Tape_run (eVar 0) (aCons (eVar 3) (aCons (eVar 4) aNil))) (aCons (eCallN 4 G__law_run (aCons (eVar 2) (aCons (eBinP vIx (eVar 1) (eC (.int 0))) (aCons (eVar 3) (aCons (eVar 4) aNil))))) aNil))))) (sRet (eC (.bl false)))
    sNext)
    (sRet (eC (.bl true))))))))))))
noncomputable def G__law_sizes : FM := runB 4
  (sSeq (sSet 2 (eCallN 2 G__law_take (aCons (eVar 0) (aCons (eVar 1) aNil))))
    (sSeq (sSet 3 (eCallN 2 G__law_take (aCons (eVar 0) (aCons (eVar 1) aNil))))
    (sSeq (sIf (tB (eBinP vEq (eBinP vMod (eBinP vFdiv (eVar 2) (eC (.int 3))) (eC (.int 12))) (eC (.int 11)))) (sRet (eTup (aCons (eBinP (vAdd false) (eC (.int 5)) (eBinP vMod (eVar 2) (eC (.int 4)))) (aCons (eBinP vIx (eTup (aCons (eC (.int 40)) (aCons (eBinP (vAdd false) (eC (.int 7)) (eBinP vMod (eVar 3) (eC (.int 14)))) (aCons (eBinP (vAdd false) (eC (.int 7)) (eBinP vMod (eVar 3) (eC (.int 34)))) aNil)))) (eBinP vMod (eVar 3) (eC (.int 3)))) aNil))))
    sNext)
    (sRet (eTup (aCons (eBinP (vAdd false) (eC (.int 2)) (eBinP vMod (eVar 2) (eC (.int 3)))) (aCons (eBinP (vAdd false) (eC (.int 1)) (eBinP vMod (eVar 3) (eC (.int 6)))) aNil)))))))
noncomputable def G_law_2 : FM := runB 13
  (sSeq (sSet 1 (eCallN 2 G__law_numbers (aCons (eVar 0) (aCons (eC (.int 110)) aNil))))
    (sSeq (sCell 2 (eLst false (aCons (eC (.int 0)) aNil)))
    (sSeq (sSet 3 (eLst false aNil))
    (sSeq (sForP (iRange1P (eC (.int 2))) (.name 4)
    (sSeq (sSet 5 (eCallN 2 G__law_sizes (aCons (eVar 1) (aCons (eVar 2) aNil))))
    (sSeq (sSet 6 (eCallN 4 G__law_machine_2 (aCons (eVar 1) (aCons (eVar 2) (aCons (eBinP vIx (eVar 5) (eC (.int 0))) (aCons (eBinP vIx (eVar 5) (eC (.int 1))) aNil))))))
    (sSeq (sSet 7 (eBIP (vList false) (aCons (eVar 6) aNil)))
    (sSeq (sSet 8 (eMakeP 4 3 G_Tape___init__ (aCons (eBinP vIx (eVar 5) (eC (.int 0))) (aCons (eBinP vIx (eVar 5) (eC (.int 1))) (aCons (eVar 7) aNil)))))
    (sSeq (sAppP 7 (eC .non))
    (sSeq (sSet 9 (eCallN 5 G__law_configuration_2 (aCons (eVar 1) (aCons (eVar 2) (aCons (eBinP vIx (eVar 5) (eC (.int 0))) (aCons (eBinP vIx (eVar 5) (eC (.int 1))) (aCons (eC (.int 6)) aNil)))))))
    (sSeq (sSet 10 (eBinP vMod (eCallN 2 G__law_take (aCons (eVar 1) (aCons (eVar 2) aNil))) (eC (.int 61))))
    (sAppP 3 (eTup (aCons (eVar 8) (aCons (eVar 5) (aCons (eVar 6) (aCons (eVar 9) (aCons (eVar 10) aNil)))))))))))))))
    (sSeq (sForP (iSeqP (eTup (aCons (eC (.int 0)) (aCons (eC (.int 1)) (aCons (eC (.int 0)) aNil))))) (.name 4)
    (sIf (tNotM (tTruP (eCallN 5 G__law_right (aCons (eBinP vIx (eBinP vIx (eVar 3) (eVar 4)) (eC (.int 0))) (aCons (eBinP vIx (eBinP vIx (eVar 3) (eVar 4)) (eC (.int 1))) (aCons (eBinP vIx (eBinP vIx (eVar 3) (eVar 4)) (eC (.int 2))) (aCons (eBinP vIx (eBinP vIx (eVar 3) (eVar 4)) (eC (.int 3))) (aCons (eBinP vIx (eBinP vIx (eVar 3) (eVar 4)) (eC (.int 4))) aNil)))))))) (sRet (eC (.bl false)))
    sNext))
    (sSeq (sSet 11 (eBinP (vAdd false) (eCallN 4 G__law_side (aCons (eVar 1) (aCons (eVar 2) (aCons (eBinP vIx (eBinP vIx (eBinP vIx (eVar 3) (eC (.int 0))) (eC (.int 1))) (eC (.int 0))) (aCons (eC (.int 7)) aNil))))) (eBinP vRepT (eTup (aCons (eC (.int 0)) aNil)) (eBinP vMod (eCallN 2 G__law_take (aCons (eVar 1) (aCons (eVar 2) aNil))) (eC (.int 3))))))
    (sSeq (sSet 12 (eTup (aCons (eC (.int 0)) (aCons (eTup aNil) (aCons (eC (.int 0)) (aCons (eTup aNil) aNil))))))
    (sSeq (sIf (tB (eBinP vGt (eBIP vLen (aCons (eVar 11) aNil)) (eC (.int 0)))) (sSet 12 (eTup (aCons (eC (.int 0)) (aCons (eTup aNil) (aCons (eBinP vIx (eVar 11) (eC (.int 0))) (aCons (eCallN 1 G__law_trim (aCons (eCutP (eVar 11) (oSome (eC (.int 1))) oNone) aNil)) aNil))))))
    sNext)
    (sRet (eAnd (eCallN 2 (G__law_same 5) (aCons (eMethP 2 3 G_Tape_begin (eBinP vIx (eBinP vIx (eVar 3) (eC (.int 0))) (eC (.int 0))) (aCons (eVar 11) aNil)) (aCons (eVar 12) aNil))) (eCallN 2 (G__law_same 5) (aCons (eCallN 1 G_trimmed (aCons (eVar 11) aNil)) (aCons (eCallN 1 G__law_trim (aCons (eVar 11) aNil)) aNil)))))))))))))
noncomputable def G_Tape_table : FM := runB 1
  (sRet (eBIP (vList false) (aCons (eAttrP 3 2 (eVar 0)) aNil)))
end BK

/-! PP, part j: a cell of one number; laws with a cell -/
namespace PM
open PySem PySem.Spec L2
/-- the store with one cell, a list of one number -/
def cl (p : Nat) : Sto := ⟨1, fun j => if j = 0 then some (.lst [.int p]) else none⟩
theorem cl_put {p q : Nat} : (cl p).put 0 (.lst [.int (q : Nat)]) = cl q := by
  unfold cl Sto.put
  congr 1
  funext j
  by_cases h : j = 0 <;> simp [h]
theorem cl_new : Z0.alloc (.lst [.int 0]) = cl 0 := by
  unfold cl Sto.alloc
  congr 1
@[simp ↓] theorem cl_ix {p : Nat} {S : Sto} (h : S = cl p) : vIx (.loc 0) (.int 0) S = .ok (.int p) S := by subst h; rfl
theorem cl_set {p q : Nat} : setIx (.loc 0) (.int 0) (.int (q : Nat)) (cl p) = some (cl q) := by
  rw [← cl_put (p := p) (q := q)]; rfl
theorem v_bestIv {f : Int → Int → Int} {n : Int} {l : List Int} {S : Sto} : vBest f [iv (n :: l)] S = .ok (.int (l.foldl f n)) S := v_bestT
theorem v_bestIl {f : Int → Int → Int} {n : Int} {l : List Int} {S : Sto} : vBest f [il (n :: l)] S = .ok (.int (l.foldl f n)) S := v_bestL
theorem foldl_max_pos : ∀ {l : List Int} {n : Int}, (0 < l.foldl max n) ↔ (0 < n ∨ ∃ x ∈ l, 0 < x)
  | [], n => by simp
  | a :: l, n => by
    rw [List.foldl_cons, foldl_max_pos]
    have : 0 < max n a ↔ 0 < n ∨ 0 < a := by omega
    rw [this, or_assoc]
    simp only [List.mem_cons, exists_eq_or_imp]
@[simp ↓] theorem v_neBB {b : Bool} {S : Sto} : vNe (.bl b) (.bl b) S = .ok (.bl false) S := by cases b <;> rfl
@[simp ↓] theorem v_eqBB {b : Bool} {S : Sto} : vEq (.bl b) (.bl b) S = .ok (.bl true) S := by cases b <;> rfl
@[simp] theorem z_next : Z0.next = 0 := nr
theorem lf_lawZ {F G : FM} (h : LF [.s] .v F G) {v : Val} {Z : Sto} (e : G [v] Z0 = .ok (.bl true) Z) : ∃ S', F [v] S0 = .ok (.bl true) S' :=
  lf_fun h ⟨rfl, rfl, fun i kd hk => by
    cases i with
    | zero => simp at hk; subst hk; exact rfl
    | succ i => simp at hk, fun i j kd k _ hk ho _ => by
    cases i with
    | zero => simp at hk; subst hk; cases ho
    | succ i => simp at hk⟩ e
end PM

/-! PM, part t: `is` of truth values -/
namespace PM
open PySem PySem.Spec L2
def vIsB (v w : Val) (S : Sto) : Res Val := match v, w with
  | .bl a, .bl b => .ok (.bl (decide (a = b))) S
  | _, _ => .st
def vNotB (v w : Val) (S : Sto) : Res Val := match v, w with
  | .bl a, .bl b => .ok (.bl (!decide (a = b))) S
  | _, _ => .st
section
variable {K : PySem.W.Frag} {T : Tbl}
theorem o_isB : Op2 K T (fun x y H Q => ∃ a b, x = .bl a ∧ y = .bl b ∧ Q (.bl (decide (a = b))) H) vIsB := by
  intro W S H v w x y Q PX s vx vy q
  cases vx <;> first | (cases w <;> exact False.elim q; done) | (cases vy <;> first | exact False.elim q | exact ⟨_, _, rfl, rfl, q.now s _ (.bl _)⟩)
theorem o_notB : Op2 K T (fun x y H Q => ∃ a b, x = .bl a ∧ y = .bl b ∧ Q (.bl (!decide (a = b))) H) vNotB := by
  intro W S H v w x y Q PX s vx vy q
  cases vx <;> first | (cases w <;> exact False.elim q; done) | (cases vy <;> first | exact False.elim q | exact ⟨_, _, rfl, rfl, q.now s _ (.bl _)⟩)
end
theorem rs_isB : Rs2 vIsB := by
  refine rs2_of fun v w u Z1 e => ?_
  cases v <;> first | (cases e; done) | (cases w <;> first | (cases e; done) | (exact ⟨rfl, rfl, fun S => by cases e; rfl⟩))
theorem rs_notB : Rs2 vNotB := by
  refine rs2_of fun v w u Z1 e => ?_
  cases v <;> first | (cases e; done) | (cases w <;> first | (cases e; done) | (exact ⟨rfl, rfl, fun S => by cases e; rfl⟩))
theorem nx_isB : ∀ v w S, NX (vIsB v w S) := by (intro v w S; unfold vIsB; split <;> trivial)
theorem nx_notB : ∀ v w S, NX (vNotB v w S) := by (intro v w S; unfold vNotB; split <;> trivial)
@[simp ↓] theorem v_isB {a b : Bool} {S : Sto} : vIsB (.bl a) (.bl b) S = .ok (.bl (decide (a = b))) S := nr
@[simp ↓] theorem v_notB {a b : Bool} {S : Sto} : vNotB (.bl a) (.bl b) S = .ok (.bl (!decide (a = b))) S := nr
end PM

/-! sorted(a list of alike data, nested tuples of whole numbers and texts): a rule of the layer -/
namespace L2
open PySem PySem.Spec PyProof.Rows PySem.W
/-- sorted(xs), each item b.1 being the datum b.2 -/
def rSortedD (K : PySem.W.Frag) : List V → Hp → VK → Prop := fun vs H Q => ∃ (a : Addr) (bs : List (V × PyData)), vs = [V.ref a] ∧ SqL K H a (bs.map Prod.fst) ∧ (∀ b ∈ bs, Dp K H b.1 b.2) ∧
  AllAlike (bs.map Prod.snd) ∧ Sortable (bs.map Prod.snd) ∧ (∀ b ∈ bs, b.2.depth ≤ 60) ∧
  ∀ p, H p = none → Q (.ref p) (upd H p (.lst ((bs.mergeSort (dataLe false Prod.snd)).map Prod.fst)))
theorem vals_each : ∀ {bs : List (V × PyData)} {us : List Value}, Vals (bs.map Prod.fst) us → EachIs (fun (u : Value) (b : V × PyData) => RelV b.1 u) us bs
  | [], us, h => by cases h; exact .nil
  | b :: bs, us, h => by
    rw [List.map_cons] at h
    cases h with
    | cons r t => exact .cons r (vals_each t)
theorem each_vals : ∀ {bs : List (V × PyData)} {us : List Value}, EachIs (fun (u : Value) (b : V × PyData) => RelV b.1 u) us bs → Vals (bs.map Prod.fst) us
  | [], us, h => by cases h; exact .nil
  | b :: bs, us, h => by
    cases h with
    | cons r t => exact .cons r (each_vals t)
section
variable {X : Cx}
theorem each_reads {pins : List (Addr × Obj)} {σ : L2.St} {H : Hp} {s : Shared} (I : Inv X pins σ H s) : ∀ {bs : List (V × PyData)} {us : List Value}, EachIs (fun (u : Value) (b : V × PyData) => RelV b.1 u) us bs → (∀ b ∈ bs, Dp X.K H b.1 b.2) →
    EachIs (fun v d => ∃ as, Reads s.heap v d as) us (bs.map Prod.snd)
  | [], us, h, _ => by cases h; exact .nil
  | b :: bs, us, h, hd => by
    cases h with
    | cons r t => exact .cons (Dp.reads I b.2 b.1 _ (hd b List.mem_cons_self) r) (each_reads I t fun c hc => hd c (List.mem_cons_of_mem _ hc))
theorem cr_sortedD (hu : X.A.units + 65 < cLine) : CallR X (.builtin "sorted") (rSortedD X.K) := by
  intro pins s σ H vs us Q I r h
  obtain ⟨a, bs, rfl, hs, hd, hal, hso, hdp, q⟩ := h
  obtain ⟨its, rv, hl, hz⟩ := I.list hs
  obtain ⟨u, rfl, ru⟩ := vals1 r
  obtain rfl : u = Value.ref a := ru
  have hz' : its.length ≤ sizeLine := by rw [← rv.length]; exact hz
  have hE := vals_each rv
  have hR := each_reads I hE hd
  let h1 := sortingHeap (copyHeap s.heap its) (s.heap.objs.size + 1) its
  have hR1 : EachIs (fun v d => ∃ as, Reads h1 v d as) its (bs.map Prod.snd) := hR.mono fun v d ⟨as, r⟩ => ⟨as, PyProof.Rows.Reads.keeps (fun b o e => sorting_copy_old e) r⟩
  have S : SortsAt X.prog X.w X.A.in1.in1 { s with heap := h1 } (dataKind h1 (bs.map Prod.snd)) its :=
    SortsAt.data (s := { s with heap := h1 }) hR1 hal hso fun d hd' => by
      obtain ⟨b, hb, rfl⟩ := List.mem_map.mp hd'
      have := hdp b hb
      show X.A.units + 1 + 1 + b.2.depth < cLine
      omega
  refine sorted_vals hl.isList S hz' ?_
  have hK : KeyedOut false (bs.map Prod.snd) its (sortVals (dataKind h1 (bs.map Prod.snd)) false its its) := ⟨h1, its, hal, rfl, hR1⟩
  have hO := keyedOut_each Prod.snd hK hE
  have hV := each_vals hO
  obtain ⟨n, hn⟩ := sortedAll_at s.heap its (sortVals (dataKind h1 (bs.map Prod.snd)) false its its).toArray
  have hlen : ((bs.mergeSort (dataLe false Prod.snd)).map Prod.fst).length ≤ sizeLine := by
    rw [List.length_map, List.length_mergeSort]; rw [List.length_map] at hz; exact hz
  exact ⟨.ref _, upd H (s.heap.objs.size + 1) (.lst ((bs.mergeSort (dataLe false Prod.snd)).map Prod.fst)), I.laid (o := .lst ((bs.mergeSort (dataLe false Prod.snd)).map Prod.fst)) (t' := s.toks) (fun _ _ => sortedAll_old) (Nat.le_succ _) ⟨hlen, _, n, hV, hn⟩, rfl, q _ (I.hok.fresh (Nat.le_succ _))⟩
end
end L2

/-! PM, part u: sorted(a list of alike data) -/
namespace PM
open PySem PySem.Spec L2 PySem.W PyProof.Rows
noncomputable section
def datD (v : Val) : PyData := v.dat.getD .none
def leD : Val → Val → Bool := dataLe false datD
def sortD (vs : List Val) : List Val := vs.mergeSort leD
structure OkSD (vs : List Val) : Prop where
  dat : ∀ v ∈ vs, ∃ d, v.dat = some d
  alike : AllAlike (vs.map datD)
  sort : Sortable (vs.map datD)
  depth : ∀ v ∈ vs, (datD v).depth ≤ 60
open Classical in
def vSortD (bx : Bool) (vs : List Val) (S : Sto) : Res Val := match vs with
  | [v] => match lstOf S v with
    | some xs => if OkSD xs then mkL bx (sortD xs) S else .st
    | none => .st
  | _ => .st
section
variable {K : PySem.W.Frag} {T : Tbl} {W : Wd}
theorem VRs.zip : ∀ {vs : List Val} {xs : List V}, VRs K T W vs xs → ∃ ts : List (Val × V), ts.map Prod.fst = vs ∧ ts.map Prod.snd = xs ∧ ∀ t ∈ ts, VR K T W t.1 t.2
  | _, _, .nil => ⟨[], rfl, rfl, fun _ h => nomatch h⟩
  | v :: vs, x :: xs, .cons r t => by
    obtain ⟨ts, h1, h2, h3⟩ := VRs.zip t
    refine ⟨(v, x) :: ts, by rw [List.map_cons, h1], by rw [List.map_cons, h2], fun t ht => ?_⟩
    rcases List.mem_cons.mp ht with rfl | ht
    · exact r
    · exact h3 t ht
theorem VRs.ofZip : ∀ {ts : List (Val × V)}, (∀ t ∈ ts, VR K T W t.1 t.2) → VRs K T W (ts.map Prod.fst) (ts.map Prod.snd)
  | [], _ => .nil
  | t :: ts, h => .cons (h t List.mem_cons_self) (VRs.ofZip fun u hu => h u (List.mem_cons_of_mem _ hu))
theorem l_sortD (bx : Bool) : OpL K T (rSortedD K) (vSortD bx) := by
  intro W S H vs xs Q PX s r q
  unfold vSortD at q
  split at q
  · rename_i v
    cases r with
    | cons r1 r2 =>
      cases r2
      cases e : lstOf S v with
      | none => rw [e] at q; exact False.elim q
      | some ys =>
        rw [e] at q
        dsimp only at q
        split at q
        · rename_i ok
          obtain ⟨a, zs, rfl, hz, rz⟩ := lstOf_ok s r1 e
          obtain ⟨ts, h1, h2, h3⟩ := rz.zip
          subst h1 h2
          have hm : ∀ f : Val × V → Val × V, True := fun _ => trivial
          let g : Val × V → V × PyData := fun t => (t.2, datD t.1)
          have e1 : (ts.map g).map Prod.fst = ts.map Prod.snd := by rw [List.map_map]; rfl
          have e2 : (ts.map g).map Prod.snd = (ts.map Prod.fst).map datD := by rw [List.map_map, List.map_map]; rfl
          refine ⟨a, ts.map g, rfl, by rw [e1]; exact hz, fun b hb => ?_, by rw [e2]; exact ok.alike, by rw [e2]; exact ok.sort, fun b hb => ?_, fun p hp => ?_⟩
          · obtain ⟨t, ht, rfl⟩ := List.mem_map.mp hb
            obtain ⟨d, hd⟩ := ok.dat t.1 (List.mem_map.mpr ⟨t, ht, rfl⟩)
            show Dp K H t.2 (datD t.1)
            unfold datD
            rw [hd]
            exact Val.dat_ok s.sub (h3 t ht) hd
          · obtain ⟨t, ht, rfl⟩ := List.mem_map.mp hb
            exact ok.depth t.1 (List.mem_map.mpr ⟨t, ht, rfl⟩)
          · let L : Val × V → Val × V → Bool := dataLe false fun t => datD t.1
            have s1 : (ts.mergeSort L).map Prod.fst = sortD (ts.map Prod.fst) := List.map_mergeSort fun a _ b _ => rfl
            have s2 : (ts.mergeSort L).map g = (ts.map g).mergeSort (dataLe false Prod.snd) := List.map_mergeSort fun a _ b _ => rfl
            rw [← s2, List.map_map]
            have s3 : (Prod.fst ∘ g) = (Prod.snd : Val × V → V) := rfl
            rw [s3]
            have hV : VRs K T W (sortD (ts.map Prod.fst)) ((ts.mergeSort L).map Prod.snd) := by
              rw [← s1]
              exact VRs.ofZip fun t ht => h3 t (List.mem_mergeSort.mp ht)
            exact mkL_ok s hV hp q
        · exact False.elim q
  · exact False.elim q
end
theorem rl_sortD : RsL (vSortD false) := rsl1 (by (intro u Z e; cases e; done)) (by (intro v w vs u Z e; cases e)) fun c S v v' u Z1 h e => by
  unfold vSortD at e ⊢
  dsimp only at e ⊢
  cases q : lstOf Z0 v' with
  | none => rw [q] at e; cases e
  | some xs =>
    rw [q] at e; rw [lst_q h q]
    dsimp only at e ⊢
    split at e
    · rename_i ok
      rw [if_pos ok]
      cases e; rfl
    · cases e
theorem nx_sortD : ∀ v S, NX (vSortD false v S) := by (intro v S; unfold vSortD; repeat' (first | trivial | split))
open Classical in
theorem v_sortD {xs : List Val} {S : Sto} (h : OkSD xs) : vSortD false [.lst xs] S = .ok (.lst (sortD xs)) S := by
  show (if OkSD xs then _ else _) = _
  rw [if_pos h]; rfl
/-! the order -/
theorem leD_iff {v w : Val} : leD v w = !dataLt (datD w) (datD v) := rfl
theorem leD_trans (a b c : Val) (h1 : leD a b = true) (h2 : leD b c = true) : leD a c = true := (sortLe_total (listOrd itemOrd) false fun v => keyToks (datD v)).trans a b c h1 h2
theorem leD_total (a b : Val) : (leD a b || leD b a) = true := by
  cases h : leD a b with
  | true => rfl
  | false =>
    rw [leD_iff] at h
    have h' : dataLt (datD b) (datD a) = true := by simpa using h
    cases h2 : leD b a with
    | true => rfl
    | false =>
      rw [leD_iff] at h2
      have h2' : dataLt (datD a) (datD b) = true := by simpa using h2
      have := (listOrd itemOrd).trans _ _ _ h' h2'
      rw [(listOrd itemOrd).irrefl] at this
      cases this
end
end PM

namespace BK
open PySem PySem.Spec L2 PM
noncomputable def G__law_back : FM := runB 7
  (sSeq (sSet 3 (eLst false aNil))
    (sSeq (sForP (iRange1P (eBIP vLen (aCons (eVar 0) aNil))) (.name 4)
    (sIf (tAndM (tB (eBinP vNotN (eBinP vIx (eVar 0) (eVar 4)) (eC .non))) (tB (eBinP vEq (eBinP vIx (eBinP vIx (eVar 0) (eVar 4)) (eC (.int 2))) (eBinP vIx (eVar 2) (eC (.int 0)))))) (sSeq (sSet 5 (eBinP (vAdd false) (eBinP (vAdd false) (eUnP vTupRev (eBinP vIx (eVar 2) (eC (.int 1)))) (eTup (aCons (eBinP vIx (eVar 2) (eC (.int 2))) aNil))) (eBinP vIx (eVar 2) (eC (.int 3)))))
    (sSeq (sSet 6 (eBinP vSub (eBIP vLen (aCons (eBinP vIx (eVar 2) (eC (.int 1))) aNil)) (eBinP vIx (eBinP vIx (eVar 0) (eVar 4)) (eC (.int 1)))))
    (sSeq (sIf (tB (eBinP vLt (eVar 6) (eC (.int 0)))) (sSeq (sSet 5 (eBinP (vAdd false) (eTup (aCons (eC (.int 0)) aNil)) (eVar 5)))
    (sSet 6 (eC (.int 0))))
    sNext)
    (sSeq (sIf (tB (eBinP vEq (eVar 6) (eBIP vLen (aCons (eVar 5) aNil)))) (sSet 5 (eBinP (vAdd false) (eVar 5) (eTup (aCons (eC (.int 0)) aNil))))
    sNext)
    (sIf (tB (eBinP vEq (eBinP vIx (eVar 5) (eVar 6)) (eBinP vIx (eBinP vIx (eVar 0) (eVar 4)) (eC (.int 0))))) (sSeq (sSet 5 (eBinP (vAdd false) (eBinP (vAdd false) (eCutP (eVar 5) oNone (oSome (eVar 6))) (eTup (aCons (eBinP vMod (eVar 4) (eVar 1)) aNil))) (eCutP (eVar 5) (oSome (eBinP (vAdd false) (eVar 6) (eC (.int 1)))) oNone)))
    (sAppP 3 (eTup (aCons (eBinP vFdiv (eVar 4) (eVar 1)) (aCons (eCallN 1 G__law_trim (aCons (eUnP vTupRev (eCutP (eVar 5) oNone (oSome (eVar 6)))) aNil)) (aCons (eBinP vIx (eVar 5) (eVar 6)) (aCons (eCallN 1 G__law_trim (aCons (eCutP (eVar 5) (oSome (eBinP (vAdd false) (eVar 6) (eC (.int 1)))) oNone) aNil)) aNil)))))))
    sNext)))))
    sNext))
    (sRet (eVar 3))))
noncomputable def G__law_little : FM := runB 4
  (sSeq (sSet 2 (eBinP (vAdd false) (eC (.int 2)) (eBinP vMod (eCallN 2 G__law_take (aCons (eVar 0) (aCons (eVar 1) aNil))) (eC (.int 2)))))
    (sSeq (sSet 3 (eBinP (vAdd false) (eC (.int 1)) (eBinP vMod (eCallN 2 G__law_take (aCons (eVar 0) (aCons (eVar 1) aNil))) (eC (.int 3)))))
    (sRet (eTup (aCons (eVar 2) (aCons (eVar 3) (aCons (eCallN 4 G__law_machine_2 (aCons (eVar 0) (aCons (eVar 1) (aCons (eVar 2) (aCons (eVar 3) aNil))))) aNil)))))))
noncomputable def G__places : FM := runB 4
  (sSeq (sSet 1 (eLst false aNil))
    (sSeq (sForP (iRange1P (eAttrP 3 1 (eVar 0))) (.name 2)
    (sForP (iRange1P (eAttrP 3 0 (eVar 0))) (.name 3)
    (sIf (tB (eBinP vNotN (eMethP 3 3 G_Tape_row (eVar 0) (aCons (eVar 2) (aCons (eVar 3) aNil))) (eC .non))) (sAppP 1 (eTup (aCons (eVar 2) (aCons (eVar 3) aNil))))
    sNext)))
    (sRet (eVar 1))))
noncomputable def G_clashes : FM := runB 8
  (sSeq (sSet 1 (eCallN 1 G__places (aCons (eVar 0) aNil)))
    (sSeq (sSet 2 (eLst false aNil))
    (sSeq (sForP (iEnumP (eVar 1)) (.tup [(.name 3), (.name 4)])
    (sSeq (sSet 5 (eMethP 3 3 G_Tape_row (eVar 0) (aCons (eBinP vIx (eVar 4) (eC (.int 0))) (aCons (eBinP vIx (eVar 4) (eC (.int 1))) aNil))))
    (sForP (iSeqP (eCutP (eVar 1) (oSome (eBinP (vAdd false) (eVar 3) (eC (.int 1)))) oNone)) (.name 6)
    (sSeq (sSet 7 (eMethP 3 3 G_Tape_row (eVar 0) (aCons (eBinP vIx (eVar 6) (eC (.int 0))) (aCons (eBinP vIx (eVar 6) (eC (.int 1))) aNil))))
    (sIf (tAndM (tB (eBinP vEq (eBinP vIx (eVar 5) (eC (.int 2))) (eBinP vIx (eVar 7) (eC (.int 2))))) (tOrM (tB (eBinP vNe (eBinP vIx (eVar 5) (eC (.int 1))) (eBinP vIx (eVar 7) (eC (.int 1))))) (tB (eBinP vEq (eBinP vIx (eVar 5) (eC (.int 0))) (eBinP vIx (eVar 7) (eC (.int 0))))))) (sAppP 2 (eTup (aCons (eVar 4) (aCons (eVar 6) aNil))))
    sNext)))))
    (sRet (eVar 2)))))
noncomputable def G_forgets : FM := runB 1
  (sRet (eBinP vGt (eBIP vLen (aCons (eCallN 1 G_clashes (aCons (eVar 0) aNil)) aNil)) (eC (.int 0))))
noncomputable def G__taken_back : FM := runB 10
  (sSeq (sAsg (.tup [(.name 3), (.name 4), (.name 5), (.name 6)]) (eVar 0))
    (sSeq (sAsg (.tup [(.name 7), (.name 8), (.name 9)]) (eVar 2))
    (sSeq (sIf (tB (eBinP vEq (eVar 8) (eC (.int 1)))) (sSeq (sIf (tB (eBinP vNe (eIf (tTruP (eVar 4)) (eBinP vIx (eVar 4) (eC (.int 0))) (eC (.int 0))) (eVar 7))) (sRet (eC .non))
    sNext)
    (sRet (eTup (aCons (eBinP vIx (eVar 1) (eC (.int 0))) (aCons (eCutP (eVar 4) (oSome (eC (.int 1))) oNone) (aCons (eBinP vIx (eVar 1) (eC (.int 1))) (aCons (eCallN 1 G_trimmed (aCons (eBinP (vAdd false) (eTup (aCons (eVar 5) aNil)) (eVar 6)) aNil)) aNil)))))))
    sNext)
    (sSeq (sIf (tB (eBinP vNe (eIf (tTruP (eVar 6)) (eBinP vIx (eVar 6) (eC (.int 0))) (eC (.int 0))) (eVar 7))) (sRet (eC .non))
    sNext)
    (sRet (eTup (aCons (eBinP vIx (eVar 1) (eC (.int 0))) (aCons (eCallN 1 G_trimmed (aCons (eBinP (vAdd false) (eTup (aCons (eVar 5) aNil)) (eVar 4)) aNil)) (aCons (eBinP vIx (eVar 1) (eC (.int 1))) (aCons (eCutP (eVar 6) (oSome (eC (.int 1))) oNone) aNil))))))))))
noncomputable def G_before : FM := runB 6
  (sSeq (sSet 2 (eLst false aNil))
    (sSeq (sForP (iSeqP (eCallN 1 G__places (aCons (eVar 0) aNil))) (.name 3)
    (sSeq (sSet 4 (eMethP 3 3 G_Tape_row (eVar 0) (aCons (eBinP vIx (eVar 3) (eC (.int 0))) (aCons (eBinP vIx (eVar 3) (eC (.int 1))) aNil))))
    (sIf (tB (eBinP vEq (eBinP vIx (eVar 4) (eC (.int 2))) (eBinP vIx (eVar 1) (eC (.int 0))))) (sSeq (sSet 5 (eCallN 3 G__taken_back (aCons (eVar 1) (aCons (eVar 3) (aCons (eVar 4) aNil)))))
    (sIf (tB (eBinP vNotN (eVar 5) (eC .non))) (sAppP 2 (eVar 5))
    sNext))
    sNext)))
    (sRet (eBIP (vSortB false) (aCons (eVar 2) aNil)))))
noncomputable def G_lost : FM := runB 7
  (sSeq (sSet 3 (eLst false (aCons (eVar 1) aNil)))
    (sSeq (sForP (iRange1P (eVar 2)) (.name 4)
    (sSeq (sSet 5 (eLst false aNil))
    (sSeq (sForP (iSeqP (eVar 3)) (.name 6)
    (sExtP 5 (eCallN 2 G_before (aCons (eVar 0) (aCons (eVar 6) aNil)))))
    (sMove 3 5))))
    (sRet (eBIP vLen (aCons (eVar 3) aNil)))))
noncomputable def G_parted : FM := runB 5
  (sSeq (sForP (iRange1P (eBinP (vAdd false) (eVar 3) (eC (.int 1)))) (.name 4)
    (sSeq (sIf (tB (eBinP vEq (eVar 1) (eVar 2))) (sRet (eVar 4))
    sNext)
    (sSeq (sSet 1 (eMethP 2 3 G_Tape_step (eVar 0) (aCons (eVar 1) aNil)))
    (sSeq (sSet 2 (eMethP 2 3 G_Tape_step (eVar 0) (aCons (eVar 2) aNil)))
    (sIf (tOrM (tB (eBinP vIsN (eVar 1) (eC .non))) (tB (eBinP vIsN (eVar 2) (eC .non)))) (sRet (eUnP vNeg (eC (.int 1))))
    sNext)))))
    (sRet (eUnP vNeg (eC (.int 1)))))
noncomputable def G_law_3 : FM := runB 15
  (sSeq (sSet 1 (eCallN 2 G__law_numbers (aCons (eVar 0) (aCons (eC (.int 50)) aNil))))
    (sSeq (sCell 2 (eLst false (aCons (eC (.int 0)) aNil)))
    (sSeq (sSet 3 (eCallN 2 G__law_little (aCons (eVar 1) (aCons (eVar 2) aNil))))
    (sSeq (sSet 4 (eMakeP 4 3 G_Tape___init__ (aCons (eBinP vIx (eVar 3) (eC (.int 0))) (aCons (eBinP vIx (eVar 3) (eC (.int 1))) (aCons (eBIP (vList false) (aCons (eBinP vIx (eVar 3) (eC (.int 2))) aNil)) aNil)))))
    (sSeq (sSet 5 (eCallN 5 G__law_configuration_2 (aCons (eVar 1) (aCons (eVar 2) (aCons (eBinP vIx (eVar 3) (eC (.int 0))) (aCons (eBinP vIx (eVar 3) (eC (.int 1))) (aCons (eC (.int 2)) aNil)))))))
    (sSeq (sSet 6 (eCallN 5 G__law_configuration_2 (aCons (eVar 1) (aCons (eVar 2) (aCons (eBinP vIx (eVar 3) (eC (.int 0))) (aCons (eBinP vIx (eVar 3) (eC (.int 1))) (aCons (eC (.int 2)) aNil)))))))
    (sSeq (sSet 7 (eBinP vMod (eCallN 2 G__law_take (aCons (eVar 1) (aCons (eVar 2) aNil))) (eC (.int 9))))
    (sSeq (sIf (tB (eBinP vNe (eVar 5) (eVar 6))) (sSeq (sSet 8 (eUnP vNeg (eC (.int 1))))
    (sSeq (sSet 9 (eVar 5))
    (sSeq (sSet 10 (eVar 6))
    (sSeq (sForP (iRange2P (eC (.int 1)) (eBinP (vAdd false) (eVar 7) (eC (.int 1)))) (.name 11)
    (sIf (tAndM (tB (eBinP vNotN (eVar 9) (eC .non))) (tB (eBinP vNotN (eVar 10) (eC .non)))) (sSeq (sSet 9 (eCallN 3 G__law_step_2 (aCons (eBinP vIx (eVar 3) (eC (.int 2))) (aCons (eBinP vIx (eVar 3) (eC (.int 0))) (aCons (eVar 9) aNil)))))
    (sSeq (sSet 10 (eCallN 3 G__law_step_2 (aCons (eBinP vIx (eVar 3) (eC (.int 2))) (aCons (eBinP vIx (eVar 3) (eC (.int 0))) (aCons (eVar 10) aNil)))))
    (sIf (tAndM (tB (eBinP vNotN (eVar 9) (eC .non))) (tAndM (tB (eBinP vEq (eVar 9) (eVar 10))) (tB (eBinP vLt (eVar 8) (eC (.int 0)))))) (sSet 8 (eVar 11))
    sNext)))
    sNext))
    (sIf (tNotM (tTruP (eCallN 2 (G__law_same 5) (aCons (eCallN 4 G_parted (aCons (eVar 4) (aCons (eVar 5) (aCons (eVar 6) (aCons (eVar 7) aNil))))) (aCons (eVar 8) aNil))))) (sRet (eC (.bl false)))
    sNext)))))
    sNext)
    (sSeq (sSet 12 (eLst false (aCons (eVar 5) aNil)))
    (sSeq (sForP (iRange1P (eBinP vMod (eVar 7) (eC (.int 5)))) (.name 11)
    (sSeq (sIf (tNotM (tTruP (eCallN 2 (G__law_same 5) (aCons (eCallN 3 G_lost (aCons (eVar 4) (aCons (eVar 5) (aCons (eVar 11) aNil)))) (aCons (eBIP vLen (aCons (eVar 12) aNil)) aNil))))) (sRet (eC (.bl false)))
    sNext)
    (sSeq (sSet 13 (eLst false aNil))
    (sSeq (sForP (iSeqP (eVar 12)) (.name 14)
    (sSet 13 (eBinP (vAdd false) (eVar 13) (eCallN 3 G__law_back (aCons (eBinP vIx (eVar 3) (eC (.int 2))) (aCons (eBinP vIx (eVar 3) (eC (.int 0))) (aCons (eVar 14) aNil)))))))
    (sSet 12 (eVar 13))))))
    (sSeq (sIf (tNotM (tTruP (eCallN 1 G_forgets (aCons (eVar 4) aNil)))) (sSeq (sSet 12 (eLst false (aCons (eVar 5) aNil)))
    (sSeq (sForP (iRange1P (eC (.int 12))) (.name 11)
    (sSeq (sSet 13 (eLst false aNil))
    (sSeq (sForP (iSeqP (eVar 12)) (.name 14)
    (sSet 13 (eBinP (vAdd false) (eVar 13) (eCallN 3 G__law_back (aCons (eBinP vIx (eVar 3) (eC (.int 2))) (aCons (eBinP vIx (eVar 3) (eC (.int 0))) (aCons (eVar 14) aNil)))))))
    (sSet 12 (eVar 13)))))
    (sRet (eAnd (eBinP vLt (eBIP vLen (aCons (eVar 12) aNil)) (eC (.int 2))) (eBinP vEq (eCallN 3 G_lost (aCons (eVar 4) (aCons (eVar 5) (aCons (eC (.int 12)) aNil)))) (eBIP vLen (aCons (eVar 12) aNil)))))))
    sNext)
    (sRet (eC (.bl true))))))))))))))
end BK

namespace BK
open PySem PySem.Spec L2 PM
noncomputable def G__law_before_2 : FM := runB 7
  (sSeq (sSet 3 (eLst false aNil))
    (sSeq (sForP (iRange1P (eBIP vLen (aCons (eVar 0) aNil))) (.name 4)
    (sIf (tAndM (tB (eBinP vNotN (eBinP vIx (eVar 0) (eVar 4)) (eC .non))) (tB (eBinP vEq (eBinP vIx (eBinP vIx (eVar 0) (eVar 4)) (eC (.int 2))) (eBinP vIx (eVar 2) (eC (.int 0)))))) (sSeq (sSet 5 (eBinP (vAdd false) (eBinP (vAdd false) (eUnP vTupRev (eBinP vIx (eVar 2) (eC (.int 1)))) (eTup (aCons (eBinP vIx (eVar 2) (eC (.int 2))) aNil))) (eBinP vIx (eVar 2) (eC (.int 3)))))
    (sSeq (sSet 6 (eBinP vSub (eBIP vLen (aCons (eBinP vIx (eVar 2) (eC (.int 1))) aNil)) (eBinP vIx (eBinP vIx (eVar 0) (eVar 4)) (eC (.int 1)))))
    (sSeq (sIf (tB (eBinP vLt (eVar 6) (eC (.int 0)))) (sSeq (sSet 5 (eBinP (vAdd false) (eTup (aCons (eC (.int 0)) aNil)) (eVar 5)))
    (sSet 6 (eC (.int 0))))
    sNext)
    (sSeq (sIf (tB (eBinP vEq (eVar 6) (eBIP vLen (aCons (eVar 5) aNil)))) (sSet 5 (eBinP (vAdd false) (eVar 5) (eTup (aCons (eC (.int 0)) aNil))))
    sNext)
    (sIf (tB (eBinP vEq (eBinP vIx (eVar 5) (eVar 6)) (eBinP vIx (eBinP vIx (eVar 0) (eVar 4)) (eC (.int 0))))) (sSeq (sSet 5 (eBinP (vAdd false) (eBinP (vAdd false) (eCutP (eVar 5) oNone (oSome (eVar 6))) (eTup (aCons (eBinP vMod (eVar 4) (eBinP vIx (eVar 1) (eC (.int 0)))) aNil))) (eCutP (eVar 5) (oSome (eBinP (vAdd false) (eVar 6) (eC (.int 1)))) oNone)))
    (sAppP 3 (eTup (aCons (eBinP vFdiv (eVar 4) (eBinP vIx (eVar 1) (eC (.int 0)))) (aCons (eCallN 1 G__law_trim (aCons (eUnP vTupRev (eCutP (eVar 5) oNone (oSome (eVar 6)))) aNil)) (aCons (eBinP vIx (eVar 5) (eVar 6)) (aCons (eCallN 1 G__law_trim (aCons (eCutP (eVar 5) (oSome (eBinP (vAdd false) (eVar 6) (eC (.int 1)))) oNone) aNil)) aNil)))))))
    sNext)))))
    sNext))
    (sRet (eBIP (vSortD false) (aCons (eVar 3) aNil)))))
noncomputable def G__law_clashes : FM := runB 7
  (sSeq (sSet 2 (eLst false aNil))
    (sSeq (sForP (iRange1P (eBIP vLen (aCons (eVar 0) aNil))) (.name 3)
    (sForP (iRange2P (eBinP (vAdd false) (eVar 3) (eC (.int 1))) (eBIP vLen (aCons (eVar 0) aNil))) (.name 4)
    (sSeq (sSet 5 (eBinP vIx (eVar 0) (eVar 3)))
    (sSeq (sSet 6 (eBinP vIx (eVar 0) (eVar 4)))
    (sIf (tAndM (tB (eBinP vNotN (eVar 5) (eC .non))) (tAndM (tB (eBinP vNotN (eVar 6) (eC .non))) (tB (eBinP vEq (eBinP vIx (eVar 5) (eC (.int 2))) (eBinP vIx (eVar 6) (eC (.int 2))))))) (sIf (tOrM (tB (eBinP vNe (eBinP vIx (eVar 5) (eC (.int 1))) (eBinP vIx (eVar 6) (eC (.int 1))))) (tB (eBinP vEq (eBinP vIx (eVar 5) (eC (.int 0))) (eBinP vIx (eVar 6) (eC (.int 0)))))) (sAppP 2 (eTup (aCons (eTup (aCons (eBinP vFdiv (eVar 3) (eBinP vIx (eVar 1) (eC (.int 0)))) (aCons (eBinP vMod (eVar 3) (eBinP vIx (eVar 1) (eC (.int 0)))) aNil))) (aCons (eTup (aCons (eBinP vFdiv (eVar 4) (eBinP vIx (eVar 1) (eC (.int 0)))) (aCons (eBinP vMod (eVar 4) (eBinP vIx (eVar 1) (eC (.int 0)))) aNil))) aNil))))
    sNext)
    sNext)))))
    (sRet (eVar 2))))
noncomputable def G__law_two : FM := runB 6
  (sSeq (sSet 3 (eBinP vIx (eVar 0) (eBinP (vAdd false) (eBinP vMul (eBinP vIx (eBinP vIx (eVar 2) (eC (.int 0))) (eC (.int 0))) (eBinP vIx (eVar 1) (eC (.int 0)))) (eBinP vIx (eBinP vIx (eVar 2) (eC (.int 0))) (eC (.int 1))))))
    (sSeq (sSet 4 (eBinP vIx (eVar 0) (eBinP (vAdd false) (eBinP vMul (eBinP vIx (eBinP vIx (eVar 2) (eC (.int 1))) (eC (.int 0))) (eBinP vIx (eVar 1) (eC (.int 0)))) (eBinP vIx (eBinP vIx (eVar 2) (eC (.int 1))) (eC (.int 1))))))
    (sSeq (sSet 5 (eLst false (aCons (eC (.int 0)) (aCons (eC (.int 0)) (aCons (eC (.int 0)) aNil)))))
    (sSeq (sSetIxP 5 (eBinP vSub (eC (.int 1)) (eBinP vIx (eVar 3) (eC (.int 1)))) (eBinP vIx (eVar 3) (eC (.int 0))))
    (sSeq (sSetIxP 5 (eBinP vSub (eC (.int 1)) (eBinP vIx (eVar 4) (eC (.int 1)))) (eBinP vIx (eVar 4) (eC (.int 0))))
    (sRet (eTup (aCons (eBinP vIx (eVar 3) (eC (.int 2))) (aCons (eCallN 1 G__law_trim (aCons (eTup (aCons (eBinP vIx (eVar 5) (eC (.int 0))) aNil)) aNil)) (aCons (eC (.int 0)) (aCons (eCallN 1 G__law_trim (aCons (eTup (aCons (eBinP vIx (eVar 5) (eC (.int 2))) aNil)) aNil)) aNil)))))))))))
noncomputable def G_before_2 : FM := runB 6
  (sSeq (sSet 2 (eLst false aNil))
    (sSeq (sForP (iSeqP (eCallN 1 G__places (aCons (eVar 0) aNil))) (.name 3)
    (sSeq (sSet 4 (eMethP 3 3 G_Tape_row (eVar 0) (aCons (eBinP vIx (eVar 3) (eC (.int 0))) (aCons (eBinP vIx (eVar 3) (eC (.int 1))) aNil))))
    (sIf (tB (eBinP vEq (eBinP vIx (eVar 4) (eC (.int 2))) (eBinP vIx (eVar 1) (eC (.int 0))))) (sSeq (sSet 5 (eCallN 3 G__taken_back (aCons (eVar 1) (aCons (eVar 3) (aCons (eVar 4) aNil)))))
    (sIf (tB (eBinP vNotN (eVar 5) (eC .non))) (sAppP 2 (eVar 5))
    sNext))
    sNext)))
    (sRet (eBIP (vSortD false) (aCons (eVar 2) aNil)))))
noncomputable def G_law_5 : FM := runB 13
  (sSeq (sSet 1 (eCallN 2 G__law_numbers (aCons (eVar 0) (aCons (eC (.int 60)) aNil))))
    (sSeq (sCell 2 (eLst false (aCons (eC (.int 0)) aNil)))
    (sSeq (sSet 3 (eCallN 2 G__law_sizes (aCons (eVar 1) (aCons (eVar 2) aNil))))
    (sSeq (sSet 4 (eCallN 4 G__law_machine_2 (aCons (eVar 1) (aCons (eVar 2) (aCons (eBinP vIx (eVar 3) (eC (.int 0))) (aCons (eBinP vIx (eVar 3) (eC (.int 1))) aNil))))))
    (sSeq (sSet 5 (eMakeP 4 3 G_Tape___init__ (aCons (eBinP vIx (eVar 3) (eC (.int 0))) (aCons (eBinP vIx (eVar 3) (eC (.int 1))) (aCons (eBIP (vList false) (aCons (eVar 4) aNil)) aNil)))))
    (sSeq (sSet 6 (eCallN 5 G__law_configuration_2 (aCons (eVar 1) (aCons (eVar 2) (aCons (eBinP vIx (eVar 3) (eC (.int 0))) (aCons (eBinP vIx (eVar 3) (eC (.int 1))) (aCons (eC (.int 4)) aNil)))))))
    (sSeq (sSet 7 (eCallN 2 G__law_clashes (aCons (eVar 4) (aCons (eVar 3) aNil))))
    (sSeq (sSet 8 (eCallN 1 G_clashes (aCons (eVar 5) aNil)))
    (sSeq (sIf (tOrM (tNotM (tTruP (eBIP vIsi (aCons (eVar 8) (aCons (eC (.ty .lst)) aNil))))) (tNotM (tTruP (eCallN 2 (G__law_same 5) (aCons (eBIP vTuple (aCons (eVar 8) aNil)) (aCons (eBIP vTuple (aCons (eVar 7) aNil)) aNil)))))) (sRet (eC (.bl false)))
    sNext)
    (sSeq (sIf (tOrM (tNotM (tTruP (eBIP vIsi (aCons (eCallN 1 G_forgets (aCons (eVar 5) aNil)) (aCons (eC (.ty .bl)) aNil))))) (tB (eBinP vNe (eCallN 1 G_forgets (aCons (eVar 5) aNil)) (eBinP vGt (eBIP vLen (aCons (eVar 7) aNil)) (eC (.int 0)))))) (sRet (eC (.bl false)))
    sNext)
    (sSeq (sSet 9 (eLst false (aCons (eVar 6) aNil)))
    (sSeq (sIf (tB (eBinP vGt (eBIP vLen (aCons (eVar 7) aNil)) (eC (.int 0)))) (sAppP 9 (eCallN 3 G__law_two (aCons (eVar 4) (aCons (eVar 3) (aCons (eBinP vIx (eVar 7) (eBinP vMod (eCallN 2 G__law_take (aCons (eVar 1) (aCons (eVar 2) aNil))) (eBIP vLen (aCons (eVar 7) aNil)))) aNil)))))
    sNext)
    (sSeq (sForP (iRange1P (eBIP vLen (aCons (eVar 9) aNil))) (.name 10)
    (sSeq (sSet 11 (eCallN 2 G_before_2 (aCons (eVar 5) (aCons (eBinP vIx (eVar 9) (eVar 10)) aNil))))
    (sSeq (sIf (tOrM (tNotM (tTruP (eBIP vIsi (aCons (eVar 11) (aCons (eC (.ty .lst)) aNil))))) (tNotM (tTruP (eCallN 2 (G__law_same 5) (aCons (eBIP vTuple (aCons (eVar 11) aNil)) (aCons (eBIP vTuple (aCons (eCallN 3 G__law_before_2 (aCons (eVar 4) (aCons (eVar 3) (aCons (eBinP vIx (eVar 9) (eVar 10)) aNil)))) aNil)) aNil)))))) (sRet (eC (.bl false)))
    sNext)
    (sSeq (sIf (tAndM (tB (eBinP vGt (eBIP vLen (aCons (eVar 11) aNil)) (eC (.int 1)))) (tB (eBinP vEq (eBIP vLen (aCons (eVar 7) aNil)) (eC (.int 0))))) (sRet (eC (.bl false)))
    sNext)
    (sSeq (sIf (tAndM (tB (eBinP vEq (eVar 10) (eC (.int 1)))) (tB (eBinP vLt (eBIP vLen (aCons (eVar 11) aNil)) (eC (.int 2))))) (sRet (eC (.bl false)))
    sNext)
    (sForP (iSeqP (eVar 11)) (.name 12)
    (sIf (tNotM (tTruP (eCallN 2 (G__law_same 5) (aCons (eCallN 3 G__law_step_2 (aCons (eVar 4) (aCons (eBinP vIx (eVar 3) (eC (.int 0))) (aCons (eVar 12) aNil)))) (aCons (eBinP vIx (eVar 9) (eVar 10)) aNil))))) (sRet (eC (.bl false)))
    sNext)))))))
    (sRet (eC (.bl true))))))))))))))))
end BK

namespace BK
open PySem PySem.Spec L2 PM
noncomputable def G_lost_2 : FM := runB 7
  (sSeq (sSet 3 (eLst false (aCons (eVar 1) aNil)))
    (sSeq (sForP (iRange1P (eVar 2)) (.name 4)
    (sSeq (sSet 5 (eLst false aNil))
    (sSeq (sForP (iSeqP (eVar 3)) (.name 6)
    (sExtP 5 (eCallN 2 G_before_2 (aCons (eVar 0) (aCons (eVar 6) aNil)))))
    (sMove 3 5))))
    (sRet (eBIP vLen (aCons (eVar 3) aNil)))))
noncomputable def G_law_6 : FM := runB 15
  (sSeq (sSet 1 (eCallN 2 G__law_numbers (aCons (eVar 0) (aCons (eC (.int 50)) aNil))))
    (sSeq (sCell 2 (eLst false (aCons (eC (.int 0)) aNil)))
    (sSeq (sSet 3 (eCallN 2 G__law_little (aCons (eVar 1) (aCons (eVar 2) aNil))))
    (sSeq (sSet 4 (eMakeP 4 3 G_Tape___init__ (aCons (eBinP vIx (eVar 3) (eC (.int 0))) (aCons (eBinP vIx (eVar 3) (eC (.int 1))) (aCons (eBIP (vList false) (aCons (eBinP vIx (eVar 3) (eC (.int 2))) aNil)) aNil)))))
    (sSeq (sSet 5 (eCallN 5 G__law_configuration_2 (aCons (eVar 1) (aCons (eVar 2) (aCons (eBinP vIx (eVar 3) (eC (.int 0))) (aCons (eBinP vIx (eVar 3) (eC (.int 1))) (aCons (eC (.int 2)) aNil)))))))
    (sSeq (sSet 6 (eCallN 5 G__law_configuration_2 (aCons (eVar 1) (aCons (eVar 2) (aCons (eBinP vIx (eVar 3) (eC (.int 0))) (aCons (eBinP vIx (eVar 3) (eC (.int 1))) (aCons (eC (.int 2)) aNil)))))))
    (sSeq (sSet 7 (eBinP vMod (eCallN 2 G__law_take (aCons (eVar 1) (aCons (eVar 2) aNil))) (eC (.int 9))))
    (sSeq (sIf (tB (eBinP vNe (eVar 5) (eVar 6))) (sSeq (sSet 8 (eUnP vNeg (eC (.int 1))))
    (sSeq (sSet 9 (eVar 5))
    (sSeq (sSet 10 (eVar 6))
    (sSeq (sForP (iRange2P (eC (.int 1)) (eBinP (vAdd false) (eVar 7) (eC (.int 1)))) (.name 11)
    (sIf (tAndM (tB (eBinP vNotN (eVar 9) (eC .non))) (tB (eBinP vNotN (eVar 10) (eC .non)))) (sSeq (sSet 9 (eCallN 3 G__law_step_2 (aCons (eBinP vIx (eVar 3) (eC (.int 2))) (aCons (eBinP vIx (eVar 3) (eC (.int 0))) (aCons (eVar 9) aNil)))))
    (sSeq (sSet 10 (eCallN 3 G__law_step_2 (aCons (eBinP vIx (eVar 3) (eC (.int 2))) (aCons (eBinP vIx (eVar 3) (eC (.int 0))) (aCons (eVar 10) aNil)))))
    (sIf (tAndM (tB (eBinP vNotN (eVar 9) (eC .non))) (tAndM (tB (eBinP vEq (eVar 9) (eVar 10))) (tB (eBinP vLt (eVar 8) (eC (.int 0)))))) (sSet 8 (eVar 11))
    sNext)))
    sNext))
    (sIf (tNotM (tTruP (eCallN 2 (G__law_same 5) (aCons (eCallN 4 G_parted (aCons (eVar 4) (aCons (eVar 5) (aCons (eVar 6) (aCons (eVar 7) aNil))))) (aCons (eVar 8) aNil))))) (sRet (eC (.bl false)))
    sNext)))))
    sNext)
    (sSeq (sSet 12 (eLst false (aCons (eVar 5) aNil)))
    (sSeq (sForP (iRange1P (eBinP vMod (eVar 7) (eC (.int 5)))) (.name 11)
    (sSeq (sIf (tNotM (tTruP (eCallN 2 (G__law_same 5) (aCons (eCallN 3 G_lost_2 (aCons (eVar 4) (aCons (eVar 5) (aCons (eVar 11) aNil)))) (aCons (eBIP vLen (aCons (eVar 12) aNil)) aNil))))) (sRet (eC (.bl false)))
    sNext)
    (sSeq (sSet 13 (eLst false aNil))
    (sSeq (sForP (iSeqP (eVar 12)) (.name 14)
    (sSet 13 (eBinP (vAdd false) (eVar 13) (eCallN 3 G__law_back (aCons (eBinP vIx (eVar 3) (eC (.int 2))) (aCons (eBinP vIx (eVar 3) (eC (.int 0))) (aCons (eVar 14) aNil)))))))
    (sSet 12 (eVar 13))))))
    (sSeq (sIf (tNotM (tTruP (eCallN 1 G_forgets (aCons (eVar 4) aNil)))) (sSeq (sSet 12 (eLst false (aCons (eVar 5) aNil)))
    (sSeq (sForP (iRange1P (eC (.int 12))) (.name 11)
    (sSeq (sSet 13 (eLst false aNil))
    (sSeq (sForP (iSeqP (eVar 12)) (.name 14)
    (sSet 13 (eBinP (vAdd false) (eVar 13) (eCallN 3 G__law_back (aCons (eBinP vIx (eVar 3) (eC (.int 2))) (aCons (eBinP vIx (eVar 3) (eC (.int 0))) (aCons (eVar 14) aNil)))))))
    (sSet 12 (eVar 13)))))
    (sRet (eAnd (eBinP vLt (eBIP vLen (aCons (eVar 12) aNil)) (eC (.int 2))) (eBinP vEq (eCallN 3 G_lost_2 (aCons (eVar 4) (aCons (eVar 5) (aCons (eC (.int 12)) aNil)))) (eBIP vLen (aCons (eVar 12) aNil)))))))
    sNext)
    (sRet (eC (.bl true))))))))))))))
end BK

namespace K82
open PySem PySem.Spec L2 PM BK
def topS (i : Nat) : Stmt := PySem.Challenge.pw_backstair_k82_runs_that_meet.main.body.getD i (.Pass ⟨0, 0, 0, 0⟩)
abbrev s__law_numbers : Stmt := topS 20
abbrev N__law_numbers : List Str := ["_law_script", "_law_many", "_law_numbers_here", "_law_k", "_law_cell", "_law_j", "_law_mixed"]
theorem sc__law_numbers : FnScope N__law_numbers ["_law_script", "_law_many"] (defScope s__law_numbers) := ⟨rfl, rfl, rfl, by decide +kernel, rfl, by decide +kernel, by decide +kernel⟩
abbrev s__law_take : Stmt := topS 21
abbrev N__law_take : List Str := ["_law_numbers_here", "_law_place"]
theorem sc__law_take : FnScope N__law_take ["_law_numbers_here", "_law_place"] (defScope s__law_take) := ⟨rfl, rfl, rfl, by decide +kernel, rfl, by decide +kernel, by decide +kernel⟩
abbrev s__law_machine : Stmt := topS 22
abbrev N__law_machine : List Str := ["_law_numbers_here", "_law_place", "_law_marks", "_law_states", "_law_rows", "_law_style", "_law_k", "_law_number", "_law_row"]
theorem sc__law_machine : FnScope N__law_machine ["_law_numbers_here", "_law_place", "_law_marks", "_law_states"] (defScope s__law_machine) := ⟨rfl, rfl, rfl, by decide +kernel, rfl, by decide +kernel, by decide +kernel⟩
abbrev s__law_little : Stmt := topS 30
abbrev N__law_little : List Str := ["_law_numbers_here", "_law_place", "_law_marks", "_law_states"]
theorem sc__law_little : FnScope N__law_little ["_law_numbers_here", "_law_place"] (defScope s__law_little) := ⟨rfl, rfl, rfl, by decide +kernel, rfl, by decide +kernel, by decide +kernel⟩
abbrev s_is_integer : Stmt := topS 7
abbrev N_is_integer : List Str := ["value", "least", "most"]
theorem sc_is_integer : FnScope N_is_integer ["value", "least", "most"] (defScope s_is_integer) := ⟨rfl, rfl, rfl, by decide +kernel, rfl, by decide +kernel, by decide +kernel⟩
abbrev s_Tape__is_row : Stmt := inClass (topS 9) 1
abbrev N_Tape__is_row : List Str := ["self", "row"]
theorem sc_Tape__is_row : FnScope N_Tape__is_row ["self", "row"] (defScope s_Tape__is_row) := ⟨rfl, rfl, rfl, by decide +kernel, rfl, by decide +kernel, by decide +kernel⟩
abbrev s_Tape___init__ : Stmt := inClass (topS 9) 0
abbrev N_Tape___init__ : List Str := ["self", "marks", "states", "rows", "row"]
theorem sc_Tape___init__ : FnScope N_Tape___init__ ["self", "marks", "states", "rows"] (defScope s_Tape___init__) := ⟨rfl, rfl, rfl, by decide +kernel, rfl, by decide +kernel, by decide +kernel⟩
abbrev s__law_trim : Stmt := topS 24
abbrev N__law_trim : List Str := ["_law_marks", "_law_count", "_law_k"]
theorem sc__law_trim : FnScope N__law_trim ["_law_marks"] (defScope s__law_trim) := ⟨rfl, rfl, rfl, by decide +kernel, rfl, by decide +kernel, by decide +kernel⟩
abbrev s__law_side : Stmt := topS 25
abbrev N__law_side : List Str := ["_law_numbers_here", "_law_place", "_law_marks", "_law_most", "_law_side_here", "_law_k"]
theorem sc__law_side : FnScope N__law_side ["_law_numbers_here", "_law_place", "_law_marks", "_law_most"] (defScope s__law_side) := ⟨rfl, rfl, rfl, by decide +kernel, rfl, by decide +kernel, by decide +kernel⟩
abbrev s__law_configuration : Stmt := topS 26
abbrev N__law_configuration : List Str := ["_law_numbers_here", "_law_place", "_law_marks", "_law_states", "_law_most", "_law_left", "_law_right"]
theorem sc__law_configuration : FnScope N__law_configuration ["_law_numbers_here", "_law_place", "_law_marks", "_law_states", "_law_most"] (defScope s__law_configuration) := ⟨rfl, rfl, rfl, by decide +kernel, rfl, by decide +kernel, by decide +kernel⟩
abbrev s_Tape_row : Stmt := inClass (topS 9) 3
abbrev N_Tape_row : List Str := ["self", "state", "mark"]
theorem sc_Tape_row : FnScope N_Tape_row ["self", "state", "mark"] (defScope s_Tape_row) := ⟨rfl, rfl, rfl, by decide +kernel, rfl, by decide +kernel, by decide +kernel⟩
abbrev s__places : Stmt := topS 11
abbrev N__places : List Str := ["machine", "found", "state", "mark"]
theorem sc__places : FnScope N__places ["machine"] (defScope s__places) := ⟨rfl, rfl, rfl, by decide +kernel, rfl, by decide +kernel, by decide +kernel⟩
abbrev s_clashes : Stmt := topS 12
abbrev N_clashes : List Str := ["machine", "places", "found", "at", "first", "one", "second", "two"]
theorem sc_clashes : FnScope N_clashes ["machine"] (defScope s_clashes) := ⟨rfl, rfl, rfl, by decide +kernel, rfl, by decide +kernel, by decide +kernel⟩
abbrev s_forgets : Stmt := topS 13
abbrev N_forgets : List Str := ["machine"]
theorem sc_forgets : FnScope N_forgets ["machine"] (defScope s_forgets) := ⟨rfl, rfl, rfl, by decide +kernel, rfl, by decide +kernel, by decide +kernel⟩
abbrev s__law_same : Stmt := topS 29
abbrev N__law_same : List Str := ["_law_actual", "_law_expected", "_law_k"]
theorem sc__law_same : FnScope N__law_same ["_law_actual", "_law_expected"] (defScope s__law_same) := ⟨rfl, rfl, rfl, by decide +kernel, rfl, by decide +kernel, by decide +kernel⟩
abbrev s__law_step : Stmt := topS 27
abbrev N__law_step : List Str := ["_law_rows", "_law_marks", "_law_spot", "_law_row", "_law_tape", "_law_at"]
theorem sc__law_step : FnScope N__law_step ["_law_rows", "_law_marks", "_law_spot"] (defScope s__law_step) := ⟨rfl, rfl, rfl, by decide +kernel, rfl, by decide +kernel, by decide +kernel⟩
abbrev s_trimmed : Stmt := topS 8
abbrev N_trimmed : List Str := ["marks", "count"]
theorem sc_trimmed : FnScope N_trimmed ["marks"] (defScope s_trimmed) := ⟨rfl, rfl, rfl, by decide +kernel, rfl, by decide +kernel, by decide +kernel⟩
abbrev s_Tape_step : Stmt := inClass (topS 9) 8
abbrev N_Tape_step : List Str := ["self", "configuration", "state", "left", "mark", "right", "row", "written", "move", "after", "ahead"]
theorem sc_Tape_step : FnScope N_Tape_step ["self", "configuration"] (defScope s_Tape_step) := ⟨rfl, rfl, rfl, by decide +kernel, rfl, by decide +kernel, by decide +kernel⟩
abbrev s_parted : Stmt := topS 17
abbrev N_parted : List Str := ["machine", "first", "second", "steps", "n"]
theorem sc_parted : FnScope N_parted ["machine", "first", "second", "steps"] (defScope s_parted) := ⟨rfl, rfl, rfl, by decide +kernel, rfl, by decide +kernel, by decide +kernel⟩
abbrev s__taken_back : Stmt := topS 14
abbrev N__taken_back : List Str := ["configuration", "place", "row", "_state", "left", "mark", "right", "written", "move", "_after"]
theorem sc__taken_back : FnScope N__taken_back ["configuration", "place", "row"] (defScope s__taken_back) := ⟨rfl, rfl, rfl, by decide +kernel, rfl, by decide +kernel, by decide +kernel⟩
abbrev s_before : Stmt := topS 15
abbrev N_before : List Str := ["machine", "configuration", "found", "place", "row", "earlier"]
theorem sc_before : FnScope N_before ["machine", "configuration"] (defScope s_before) := ⟨rfl, rfl, rfl, by decide +kernel, rfl, by decide +kernel, by decide +kernel⟩
abbrev s_lost : Stmt := topS 18
abbrev N_lost : List Str := ["machine", "configuration", "steps", "layer", "_", "earlier", "one"]
theorem sc_lost : FnScope N_lost ["machine", "configuration", "steps"] (defScope s_lost) := ⟨rfl, rfl, rfl, by decide +kernel, rfl, by decide +kernel, by decide +kernel⟩
abbrev s__law_back : Stmt := topS 33
abbrev N__law_back : List Str := ["_law_rows", "_law_marks", "_law_spot", "_law_found", "_law_k", "_law_tape", "_law_at"]
theorem sc__law_back : FnScope N__law_back ["_law_rows", "_law_marks", "_law_spot"] (defScope s__law_back) := ⟨rfl, rfl, rfl, by decide +kernel, rfl, by decide +kernel, by decide +kernel⟩
abbrev s_law : Stmt := topS 34
abbrev N_law : List Str := ["_law_script", "_law_numbers_here", "_law_place", "_law_little_here", "_law_machine_here", "_law_first", "_law_second", "_law_steps", "_law_expected", "_law_one", "_law_two", "_law_k", "_law_layer", "_law_earlier", "_law_spot"]
theorem sc_law : FnScope N_law ["_law_script"] (defScope s_law) := ⟨rfl, rfl, rfl, by decide +kernel, rfl, by decide +kernel, by decide +kernel⟩
/-! ### over the store -/
noncomputable def B__law_numbers : SM :=
  (sSeq (sSet 2 (eLst true aNil)) (sSeq (sFor (iRange1 (eBI vLen (aCons (eVar 0) aNil))) (.name 3) (sSeq (sSet 4 (eBI vAbs (aCons (eBin vIx (eVar 0) (eVar 3)) aNil))) (sIf (tB (eBin vGe (eVar 4) (eBin vPow (eC (.int 10)) (eC (.int 18))))) (sFor (iRange1 (eC (.int 60))) (.name 5) (sIf (tAndM (tB (eBin vGt (eVar 4) (eC (.int 0)))) (tB (eBin vLt (eBI vLen (aCons (eVar 2) aNil)) (eVar 1)))) (sSeq (sDrop (eBM isLst vAppend (eVar 2) (aCons (eBin vMod (eVar 4) (eC (.int 1000))) aNil))) (sSet 4 (eBin vFdiv (eVar 4) (eC (.int 1000))))) sNext)) (sFor (iRange1 (eC (.int 5))) (.name 5) (sSeq (sSet 6 (eBin vMod (eBI vInt (aCons (eBin (vAdd false) (eBin (vAdd false) (eBin (vAdd false) (eBin vMul (eVar 4) (eC (.int 48271))) (eBin vMul (eVar 3) (eC (.int 69621)))) (eBin vMul (eVar 5) (eC (.int 16807)))) (eC (.int 11))) aNil)) (eC (.int 2147483647)))) (sSeq (sSet 6 (eBin vMod (eBI vInt (aCons (eBin (vAdd false) (eBin vMul (eVar 6) (eVar 6)) (eVar 5)) aNil)) (eC (.int 2147483629)))) (sDrop (eBM isLst vAppend (eVar 2) (aCons (eBin vMod (eBin vFdiv (eVar 6) (eC (.int 7))) (eC (.int 1000))) aNil))))))))) (sRet (eCut false (eVar 2) oNone (oSome (eVar 1))))))
noncomputable def F__law_numbers : FM := runB 7 B__law_numbers
noncomputable def B__law_take : SM :=
  (sSeq (sIf (tB (eBin vLt (eBin vIx (eVar 1) (eC (.int 0))) (eBI vLen (aCons (eVar 0) aNil)))) (sSeq (sSetIx (eVar 1) (eC (.int 0)) (eBin (vAdd false) (eBin vIx (eVar 1) (eC (.int 0))) (eC (.int 1)))) (sRet (eBin vIx (eVar 0) (eBin vSub (eBin vIx (eVar 1) (eC (.int 0))) (eC (.int 1)))))) sNext) (sRet (eC (.int 0))))
noncomputable def F__law_take : FM := runB 2 B__law_take
noncomputable def B__law_machine : SM :=
  (sSeq (sSet 4 (eLst true aNil)) (sSeq (sSet 5 (eBin vMod (eCallN 2 F__law_take (aCons (eVar 0) (aCons (eVar 1) aNil))) (eC (.int 4)))) (sSeq (sFor (iRange1 (eBin vMul (eVar 2) (eVar 3))) (.name 6) (sIf (tB (eBin vLt (eVar 6) (eC (.int 400)))) (sSeq (sSet 7 (eBin (vAdd false) (eCallN 2 F__law_take (aCons (eVar 0) (aCons (eVar 1) aNil))) (eBin vMul (eC (.int 17)) (eBin vFdiv (eVar 6) (eC (.int 24)))))) (sSeq (sSet 8 (eTup (aCons (eBin vMod (eVar 7) (eVar 2)) (aCons (eBin vIx (eTup (aCons (eUn vNeg (eC (.int 1))) (aCons (eC (.int 1)) aNil))) (eBin vMod (eBin vFdiv (eVar 7) (eC (.int 4))) (eC (.int 2)))) (aCons (eBin vMod (eBin vFdiv (eVar 7) (eC (.int 8))) (eVar 3)) aNil))))) (sSeq (sIf (tAndM (tB (eBin vEq (eVar 5) (eC (.int 1)))) (tB (eBin vGt (eVar 6) (eC (.int 0))))) (sSet 8 (eTup (aCons (eBin vMod (eVar 7) (eVar 2)) (aCons (eC (.int 1)) (aCons (eBin vMod (eBin vFdiv (eVar 7) (eC (.int 8))) (eVar 3)) aNil))))) sNext) (sSeq (sIf (tAndM (tB (eBin vEq (eBin vMod (eBin vFdiv (eVar 7) (eC (.int 50))) (eC (.int 7))) (eC (.int 0)))) (tB (eBin vNe (eVar 5) (eC (.int 2))))) (sSet 8 (eC .non)) sNext) (sDrop (eBM isLst vAppend (eVar 4) (aCons (eVar 8) aNil))))))) sNext)) (sRet (eFrz (eVar 4))))))
noncomputable def F__law_machine : FM := runB 9 B__law_machine
noncomputable def B__law_little : SM :=
  (sSeq (sSet 2 (eBin (vAdd false) (eC (.int 2)) (eBin vMod (eCallN 2 F__law_take (aCons (eVar 0) (aCons (eVar 1) aNil))) (eC (.int 2))))) (sSeq (sSet 3 (eBin (vAdd false) (eC (.int 1)) (eBin vMod (eCallN 2 F__law_take (aCons (eVar 0) (aCons (eVar 1) aNil))) (eC (.int 3))))) (sRet (eTup (aCons (eVar 2) (aCons (eVar 3) (aCons (eCallN 4 F__law_machine (aCons (eVar 0) (aCons (eVar 1) (aCons (eVar 2) (aCons (eVar 3) aNil))))) aNil)))))))
noncomputable def F__law_little : FM := runB 4 B__law_little
noncomputable def B_is_integer : SM :=
  (sRet (eAnd (eBI vIsi (aCons (eVar 0) (aCons (eC (.ty .int)) aNil))) (eAnd (eNot (eBI vIsi (aCons (eVar 0) (aCons (eC (.ty .bl)) aNil)))) (eChain vLe vLe (eVar 1) (eVar 0) (eVar 2)))))
noncomputable def F_is_integer : FM := runB 3 B_is_integer
noncomputable def B_Tape__is_row : SM :=
  (sSeq (sIf (tOrM (tNotM (tTru (eBI vIsi (aCons (eVar 1) (aCons (eC (.ty .tup)) aNil))))) (tB (eBin vNe (eBI vLen (aCons (eVar 1) aNil)) (eC (.int 3))))) (sRet (eC (.bl false))) sNext) (sSeq (sIf (tOrM (tNotM (tTru (eCallN 3 F_is_integer (aCons (eBin vIx (eVar 1) (eC (.int 1))) (aCons (eUn vNeg (eC (.int 1))) (aCons (eC (.int 1)) aNil)))))) (tB (eBin vEq (eBin vIx (eVar 1) (eC (.int 1))) (eC (.int 0))))) (sRet (eC (.bl false))) sNext) (sRet (eAnd (eCallN 3 F_is_integer (aCons (eBin vIx (eVar 1) (eC (.int 0))) (aCons (eC (.int 0)) (aCons (eBin vSub (eAttr 3 0 (eVar 0)) (eC (.int 1))) aNil)))) (eCallN 3 F_is_integer (aCons (eBin vIx (eVar 1) (eC (.int 2))) (aCons (eC (.int 0)) (aCons (eBin vSub (eAttr 3 1 (eVar 0)) (eC (.int 1))) aNil))))))))
noncomputable def F_Tape__is_row : FM := runB 2 B_Tape__is_row
noncomputable def B_Tape___init__ : SM :=
  (sSeq (sIf (tOrM (tNotM (tTru (eCallN 3 F_is_integer (aCons (eVar 1) (aCons (eC (.int 2)) (aCons (eC (.int 8)) aNil)))))) (tNotM (tTru (eCallN 3 F_is_integer (aCons (eVar 2) (aCons (eC (.int 1)) (aCons (eC (.int 40)) aNil))))))) sNever sNext) (sSeq (sIf (tB (eBin vNe (eBI vLen (aCons (eVar 3) aNil)) (eBin vMul (eVar 1) (eVar 2)))) sNever sNext) (sSeq (sAttr 3 0 (eVar 0) (eVar 1)) (sSeq (sAttr 3 1 (eVar 0) (eVar 2)) (sSeq (sFor (iSeq (eVar 3)) (.name 4) (sIf (tAndM (tB (eBin vNotN (eVar 4) (eC .non))) (tNotM (tTru (eMethN 2 3 F_Tape__is_row (eVar 0) (aCons (eVar 4) aNil))))) sNever sNext)) (sAttr 3 2 (eVar 0) (eBI (vList false) (aCons (eVar 3) aNil))))))))
noncomputable def F_Tape___init__ : FM := runB 5 B_Tape___init__
noncomputable def B__law_trim : SM :=
  (sSeq (sSet 1 (eBI vLen (aCons (eLc false (iRange1 (eBI vLen (aCons (eVar 0) aNil))) (.name 2) (tB (eBin vGt (eBI (vBest max) (aCons (eBin (vAdd false) (eTup (aCons (eC (.int 0)) aNil)) (eCut false (eVar 0) (oSome (eVar 2)) oNone)) aNil)) (eC (.int 0)))) (eVar 2) [2]) aNil))) (sRet (eCut false (eVar 0) oNone (oSome (eVar 1)))))
noncomputable def F__law_trim : FM := runB 3 B__law_trim
noncomputable def B__law_side : SM :=
  (sSeq (sSet 4 (eTup aNil)) (sSeq (sFor (iRange1 (eBin vMod (eCallN 2 F__law_take (aCons (eVar 0) (aCons (eVar 1) aNil))) (eBin (vAdd false) (eVar 3) (eC (.int 1))))) (.name 5) (sSet 4 (eBin (vAdd false) (eVar 4) (eTup (aCons (eBin vMod (eCallN 2 F__law_take (aCons (eVar 0) (aCons (eVar 1) aNil))) (eVar 2)) aNil))))) (sRet (eCallN 1 F__law_trim (aCons (eVar 4) aNil)))))
noncomputable def F__law_side : FM := runB 6 B__law_side
noncomputable def B__law_configuration : SM :=
  (sSeq (sSet 5 (eCallN 4 F__law_side (aCons (eVar 0) (aCons (eVar 1) (aCons (eVar 2) (aCons (eVar 4) aNil)))))) (sSeq (sSet 6 (eCallN 4 F__law_side (aCons (eVar 0) (aCons (eVar 1) (aCons (eVar 2) (aCons (eVar 4) aNil)))))) (sRet (eTup (aCons (eBin vMod (eCallN 2 F__law_take (aCons (eVar 0) (aCons (eVar 1) aNil))) (eVar 3)) (aCons (eVar 5) (aCons (eBin vMod (eCallN 2 F__law_take (aCons (eVar 0) (aCons (eVar 1) aNil))) (eVar 2)) (aCons (eVar 6) aNil))))))))
noncomputable def F__law_configuration : FM := runB 7 B__law_configuration
noncomputable def B_Tape_row : SM :=
  (sSeq (sIf (tOrM (tNotM (tTru (eCallN 3 F_is_integer (aCons (eVar 1) (aCons (eC (.int 0)) (aCons (eBin vSub (eAttr 3 1 (eVar 0)) (eC (.int 1))) aNil)))))) (tNotM (tTru (eCallN 3 F_is_integer (aCons (eVar 2) (aCons (eC (.int 0)) (aCons (eBin vSub (eAttr 3 0 (eVar 0)) (eC (.int 1))) aNil))))))) sNever sNext) (sRet (eBin vIx (eAttr 3 2 (eVar 0)) (eBin (vAdd false) (eBin vMul (eVar 1) (eAttr 3 0 (eVar 0))) (eVar 2)))))
noncomputable def F_Tape_row : FM := runB 3 B_Tape_row
noncomputable def B__places : SM :=
  (sSeq (sSet 1 (eLst true aNil)) (sSeq (sFor (iRange1 (eAttr 3 1 (eVar 0))) (.name 2) (sFor (iRange1 (eAttr 3 0 (eVar 0))) (.name 3) (sIf (tB (eBin vNotN (eMethN 3 3 F_Tape_row (eVar 0) (aCons (eVar 2) (aCons (eVar 3) aNil))) (eC .non))) (sDrop (eBM isLst vAppend (eVar 1) (aCons (eTup (aCons (eVar 2) (aCons (eVar 3) aNil))) aNil))) sNext))) (sRet (eFrz (eVar 1)))))
noncomputable def F__places : FM := runB 4 B__places
noncomputable def B_clashes : SM :=
  (sSeq (sSet 1 (eCallN 1 F__places (aCons (eVar 0) aNil))) (sSeq (sSet 2 (eLst true aNil)) (sSeq (sFor (iEnumM (eVar 1)) (.tup [(.name 3), (.name 4)]) (sSeq (sSet 5 (eMethN 3 3 F_Tape_row (eVar 0) (aCons (eBin vIx (eVar 4) (eC (.int 0))) (aCons (eBin vIx (eVar 4) (eC (.int 1))) aNil)))) (sFor (iSeq (eCut false (eVar 1) (oSome (eBin (vAdd false) (eVar 3) (eC (.int 1)))) oNone)) (.name 6) (sSeq (sSet 7 (eMethN 3 3 F_Tape_row (eVar 0) (aCons (eBin vIx (eVar 6) (eC (.int 0))) (aCons (eBin vIx (eVar 6) (eC (.int 1))) aNil)))) (sIf (tAndM (tB (eBin vEq (eBin vIx (eVar 5) (eC (.int 2))) (eBin vIx (eVar 7) (eC (.int 2))))) (tOrM (tB (eBin vNe (eBin vIx (eVar 5) (eC (.int 1))) (eBin vIx (eVar 7) (eC (.int 1))))) (tB (eBin vEq (eBin vIx (eVar 5) (eC (.int 0))) (eBin vIx (eVar 7) (eC (.int 0))))))) (sDrop (eBM isLst vAppend (eVar 2) (aCons (eTup (aCons (eVar 4) (aCons (eVar 6) aNil))) aNil))) sNext))))) (sRet (eFrz (eVar 2))))))
noncomputable def F_clashes : FM := runB 8 B_clashes
noncomputable def B_forgets : SM :=
  (sRet (eBin vGt (eBI vLen (aCons (eCallN 1 F_clashes (aCons (eVar 0) aNil)) aNil)) (eC (.int 0))))
noncomputable def F_forgets : FM := runB 1 B_forgets
noncomputable def H__law_same (r : FM) : FM := runB 3 (sSeq (sIf (tTru (eBI vIsi (aCons (eVar 1) (aCons (eC (.ty .tup)) aNil)))) (sSeq (sIf (tOrM (tNotM (tTru (eBI vIsi (aCons (eVar 0) (aCons (eC (.ty .tup)) aNil))))) (tB (eBin vNe (eBI vLen (aCons (eVar 0) aNil)) (eBI vLen (aCons (eVar 1) aNil))))) (sRet (eC (.bl false))) sNext) (sSeq (sFor (iRange1 (eBI vLen (aCons (eVar 1) aNil))) (.name 2) (sIf (tNotM (tTru (eCallN 2 r (aCons (eBin vIx (eVar 0) (eVar 2)) (aCons (eBin vIx (eVar 1) (eVar 2)) aNil))))) (sRet (eC (.bl false))) sNext)) (sRet (eC (.bl true))))) sNext) (sSeq (sIf (tB (eBin vIsN (eVar 1) (eC .non))) (sRet (eBin vIsN (eVar 0) (eC .non))) sNext) (sSeq (sIf (tTru (eBI vIsi (aCons (eVar 1) (aCons (eC (.ty .str)) aNil)))) (sRet (eAnd (eBI vIsi (aCons (eVar 0) (aCons (eC (.ty .str)) aNil))) (eBin vEq (eVar 0) (eVar 1)))) sNext) (sRet (eAnd (eBI vIsi (aCons (eVar 0) (aCons (eC (.ty .int)) aNil))) (eAnd (eNot (eBI vIsi (aCons (eVar 0) (aCons (eC (.ty .bl)) aNil)))) (eBin vEq (eVar 0) (eVar 1))))))))
noncomputable def F__law_same : Nat → FM
  | 0 => fun _ _ => .st
  | i + 1 => H__law_same (F__law_same i)
theorem Fs__law_same (i : Nat) : F__law_same (i + 1) = H__law_same (F__law_same i) := rfl
noncomputable def B__law_step : SM :=
  (sSeq (sSet 3 (eBin vIx (eVar 0) (eBin (vAdd false) (eBin vMul (eBin vIx (eVar 2) (eC (.int 0))) (eVar 1)) (eBin vIx (eVar 2) (eC (.int 2)))))) (sSeq (sIf (tB (eBin vIsN (eVar 3) (eC .non))) (sRet (eC .non)) sNext) (sSeq (sSet 4 (eBin (vAdd false) (eBin (vAdd false) (eUn vTupRev (eBin vIx (eVar 2) (eC (.int 1)))) (eTup (aCons (eBin vIx (eVar 3) (eC (.int 0))) aNil))) (eBin vIx (eVar 2) (eC (.int 3))))) (sSeq (sSet 5 (eBin (vAdd false) (eBI vLen (aCons (eBin vIx (eVar 2) (eC (.int 1))) aNil)) (eBin vIx (eVar 3) (eC (.int 1))))) (sSeq (sIf (tB (eBin vLt (eVar 5) (eC (.int 0)))) (sSeq (sSet 4 (eBin (vAdd false) (eTup (aCons (eC (.int 0)) aNil)) (eVar 4))) (sSet 5 (eC (.int 0)))) sNext) (sSeq (sIf (tB (eBin vEq (eVar 5) (eBI vLen (aCons (eVar 4) aNil)))) (sSet 4 (eBin (vAdd false) (eVar 4) (eTup (aCons (eC (.int 0)) aNil)))) sNext) (sRet (eTup (aCons (eBin vIx (eVar 3) (eC (.int 2))) (aCons (eCallN 1 F__law_trim (aCons (eUn vTupRev (eCut false (eVar 4) oNone (oSome (eVar 5)))) aNil)) (aCons (eBin vIx (eVar 4) (eVar 5)) (aCons (eCallN 1 F__law_trim (aCons (eCut false (eVar 4) (oSome (eBin (vAdd false) (eVar 5) (eC (.int 1)))) oNone) aNil)) aNil))))))))))))
noncomputable def F__law_step : FM := runB 6 B__law_step
noncomputable def B_trimmed : SM :=
  (sSeq (sSet 1 (eBI vLen (aCons (eVar 0) aNil))) (sSeq (whileM wMax (tAndM (tB (eBin vGt (eVar 1) (eC (.int 0)))) (tB (eBin vEq (eBin vIx (eVar 0) (eBin vSub (eVar 1) (eC (.int 1)))) (eC (.int 0))))) (sAug 1 vSub (eC (.int 1)))) (sRet (eBI vTuple (aCons (eCut false (eVar 0) oNone (oSome (eVar 1))) aNil)))))
noncomputable def F_trimmed : FM := runB 2 B_trimmed
noncomputable def B_Tape_step : SM :=
  (sSeq (sAsg (.tup [(.name 2), (.name 3), (.name 4), (.name 5)]) (eVar 1)) (sSeq (sSet 6 (eMethN 3 3 F_Tape_row (eVar 0) (aCons (eVar 2) (aCons (eVar 4) aNil)))) (sSeq (sIf (tB (eBin vIsN (eVar 6) (eC .non))) (sRet (eC .non)) sNext) (sSeq (sAsg (.tup [(.name 7), (.name 8), (.name 9)]) (eVar 6)) (sSeq (sIf (tB (eBin vEq (eVar 8) (eC (.int 1)))) (sSeq (sSet 3 (eCallN 1 F_trimmed (aCons (eBin (vAdd false) (eTup (aCons (eVar 7) aNil)) (eVar 3)) aNil))) (sSeq (sSet 10 (eIf (tTru (eVar 5)) (eBin vIx (eVar 5) (eC (.int 0))) (eC (.int 0)))) (sRet (eTup (aCons (eVar 9) (aCons (eVar 3) (aCons (eVar 10) (aCons (eCut false (eVar 5) (oSome (eC (.int 1))) oNone) aNil)))))))) sNext) (sSeq (sSet 5 (eCallN 1 F_trimmed (aCons (eBin (vAdd false) (eTup (aCons (eVar 7) aNil)) (eVar 5)) aNil))) (sSeq (sSet 10 (eIf (tTru (eVar 3)) (eBin vIx (eVar 3) (eC (.int 0))) (eC (.int 0)))) (sRet (eTup (aCons (eVar 9) (aCons (eCut false (eVar 3) (oSome (eC (.int 1))) oNone) (aCons (eVar 10) (aCons (eVar 5) aNil)))))))))))))
noncomputable def F_Tape_step : FM := runB 11 B_Tape_step
noncomputable def B_parted : SM :=
  (sSeq (sFor (iRange1 (eBin (vAdd false) (eVar 3) (eC (.int 1)))) (.name 4) (sSeq (sIf (tB (eBin vEq (eVar 1) (eVar 2))) (sRet (eVar 4)) sNext) (sSeq (sSet 1 (eMethN 2 3 F_Tape_step (eVar 0) (aCons (eVar 1) aNil))) (sSeq (sSet 2 (eMethN 2 3 F_Tape_step (eVar 0) (aCons (eVar 2) aNil))) (sIf (tOrM (tB (eBin vIsN (eVar 1) (eC .non))) (tB (eBin vIsN (eVar 2) (eC .non)))) (sRet (eUn vNeg (eC (.int 1)))) sNext))))) (sRet (eUn vNeg (eC (.int 1)))))
noncomputable def F_parted : FM := runB 5 B_parted
noncomputable def B__taken_back : SM :=
  (sSeq (sAsg (.tup [(.name 3), (.name 4), (.name 5), (.name 6)]) (eVar 0)) (sSeq (sAsg (.tup [(.name 7), (.name 8), (.name 9)]) (eVar 2)) (sSeq (sIf (tB (eBin vEq (eVar 8) (eC (.int 1)))) (sSeq (sIf (tB (eBin vNe (eIf (tTru (eVar 4)) (eBin vIx (eVar 4) (eC (.int 0))) (eC (.int 0))) (eVar 7))) (sRet (eC .non)) sNext) (sRet (eTup (aCons (eBin vIx (eVar 1) (eC (.int 0))) (aCons (eCut false (eVar 4) (oSome (eC (.int 1))) oNone) (aCons (eBin vIx (eVar 1) (eC (.int 1))) (aCons (eCallN 1 F_trimmed (aCons (eBin (vAdd false) (eTup (aCons (eVar 5) aNil)) (eVar 6)) aNil)) aNil))))))) sNext) (sSeq (sIf (tB (eBin vNe (eIf (tTru (eVar 6)) (eBin vIx (eVar 6) (eC (.int 0))) (eC (.int 0))) (eVar 7))) (sRet (eC .non)) sNext) (sRet (eTup (aCons (eBin vIx (eVar 1) (eC (.int 0))) (aCons (eCallN 1 F_trimmed (aCons (eBin (vAdd false) (eTup (aCons (eVar 5) aNil)) (eVar 4)) aNil)) (aCons (eBin vIx (eVar 1) (eC (.int 1))) (aCons (eCut false (eVar 6) (oSome (eC (.int 1))) oNone) aNil))))))))))
noncomputable def F__taken_back : FM := runB 10 B__taken_back
noncomputable def B_before : SM :=
  (sSeq (sSet 2 (eLst true aNil)) (sSeq (sFor (iSeq (eCallN 1 F__places (aCons (eVar 0) aNil))) (.name 3) (sSeq (sSet 4 (eMethN 3 3 F_Tape_row (eVar 0) (aCons (eBin vIx (eVar 3) (eC (.int 0))) (aCons (eBin vIx (eVar 3) (eC (.int 1))) aNil)))) (sIf (tB (eBin vEq (eBin vIx (eVar 4) (eC (.int 2))) (eBin vIx (eVar 1) (eC (.int 0))))) (sSeq (sSet 5 (eCallN 3 F__taken_back (aCons (eVar 1) (aCons (eVar 3) (aCons (eVar 4) aNil))))) (sIf (tB (eBin vNotN (eVar 5) (eC .non))) (sDrop (eBM isLst vAppend (eVar 2) (aCons (eVar 5) aNil))) sNext)) sNext))) (sRet (eBI (vSortD false) (aCons (eVar 2) aNil)))))
noncomputable def F_before : FM := runB 6 B_before
noncomputable def B_lost : SM :=
  (sSeq (sSet 3 (eLst false (aCons (eVar 1) aNil))) (sSeq (sFor (iRange1 (eVar 2)) (.name 4) (sSeq (sSet 5 (eLst true aNil)) (sSeq (sFor (iSeq (eVar 3)) (.name 6) (sDrop (eBM isLst vExtend (eVar 5) (aCons (eCallN 2 F_before (aCons (eVar 0) (aCons (eVar 6) aNil))) aNil)))) (sSet 3 (eFrz (eVar 5)))))) (sRet (eBI vLen (aCons (eVar 3) aNil)))))
noncomputable def F_lost : FM := runB 7 B_lost
noncomputable def B__law_back : SM :=
  (sSeq (sSet 3 (eLst true aNil)) (sSeq (sFor (iRange1 (eBI vLen (aCons (eVar 0) aNil))) (.name 4) (sIf (tAndM (tB (eBin vNotN (eBin vIx (eVar 0) (eVar 4)) (eC .non))) (tB (eBin vEq (eBin vIx (eBin vIx (eVar 0) (eVar 4)) (eC (.int 2))) (eBin vIx (eVar 2) (eC (.int 0)))))) (sSeq (sSet 5 (eBin (vAdd false) (eBin (vAdd false) (eUn vTupRev (eBin vIx (eVar 2) (eC (.int 1)))) (eTup (aCons (eBin vIx (eVar 2) (eC (.int 2))) aNil))) (eBin vIx (eVar 2) (eC (.int 3))))) (sSeq (sSet 6 (eBin vSub (eBI vLen (aCons (eBin vIx (eVar 2) (eC (.int 1))) aNil)) (eBin vIx (eBin vIx (eVar 0) (eVar 4)) (eC (.int 1))))) (sSeq (sIf (tB (eBin vLt (eVar 6) (eC (.int 0)))) (sSeq (sSet 5 (eBin (vAdd false) (eTup (aCons (eC (.int 0)) aNil)) (eVar 5))) (sSet 6 (eC (.int 0)))) sNext) (sSeq (sIf (tB (eBin vEq (eVar 6) (eBI vLen (aCons (eVar 5) aNil)))) (sSet 5 (eBin (vAdd false) (eVar 5) (eTup (aCons (eC (.int 0)) aNil)))) sNext) (sIf (tB (eBin vEq (eBin vIx (eVar 5) (eVar 6)) (eBin vIx (eBin vIx (eVar 0) (eVar 4)) (eC (.int 0))))) (sSeq (sSet 5 (eBin (vAdd false) (eBin (vAdd false) (eCut false (eVar 5) oNone (oSome (eVar 6))) (eTup (aCons (eBin vMod (eVar 4) (eVar 1)) aNil))) (eCut false (eVar 5) (oSome (eBin (vAdd false) (eVar 6) (eC (.int 1)))) oNone))) (sDrop (eBM isLst vAppend (eVar 3) (aCons (eTup (aCons (eBin vFdiv (eVar 4) (eVar 1)) (aCons (eCallN 1 F__law_trim (aCons (eUn vTupRev (eCut false (eVar 5) oNone (oSome (eVar 6)))) aNil)) (aCons (eBin vIx (eVar 5) (eVar 6)) (aCons (eCallN 1 F__law_trim (aCons (eCut false (eVar 5) (oSome (eBin (vAdd false) (eVar 6) (eC (.int 1)))) oNone) aNil)) aNil))))) aNil)))) sNext))))) sNext)) (sRet (eFrz (eVar 3)))))
noncomputable def F__law_back : FM := runB 7 B__law_back
noncomputable def B_law : SM :=
  (sSeq (sSet 1 (eCallN 2 F__law_numbers (aCons (eVar 0) (aCons (eC (.int 50)) aNil)))) (sSeq (sSet 2 (eLst true (aCons (eC (.int 0)) aNil))) (sSeq (sSet 3 (eCallN 2 F__law_little (aCons (eVar 1) (aCons (eVar 2) aNil)))) (sSeq (sSet 4 (eFrz (eMakeN 4 3 F_Tape___init__ (aCons (eBin vIx (eVar 3) (eC (.int 0))) (aCons (eBin vIx (eVar 3) (eC (.int 1))) (aCons (eBI (vList false) (aCons (eBin vIx (eVar 3) (eC (.int 2))) aNil)) aNil)))))) (sSeq (sSet 5 (eCallN 5 F__law_configuration (aCons (eVar 1) (aCons (eVar 2) (aCons (eBin vIx (eVar 3) (eC (.int 0))) (aCons (eBin vIx (eVar 3) (eC (.int 1))) (aCons (eC (.int 2)) aNil))))))) (sSeq (sSet 6 (eCallN 5 F__law_configuration (aCons (eVar 1) (aCons (eVar 2) (aCons (eBin vIx (eVar 3) (eC (.int 0))) (aCons (eBin vIx (eVar 3) (eC (.int 1))) (aCons (eC (.int 2)) aNil))))))) (sSeq (sSet 7 (eBin vMod (eCallN 2 F__law_take (aCons (eVar 1) (aCons (eVar 2) aNil))) (eC (.int 9)))) (sSeq (sIf (tB (eBin vNe (eVar 5) (eVar 6))) (sSeq (sSet 8 (eUn vNeg (eC (.int 1)))) (sSeq (sSet 9 (eVar 5)) (sSeq (sSet 10 (eVar 6)) (sSeq (sFor (iRange2 (eC (.int 1)) (eBin (vAdd false) (eVar 7) (eC (.int 1)))) (.name 11) (sIf (tAndM (tB (eBin vNotN (eVar 9) (eC .non))) (tB (eBin vNotN (eVar 10) (eC .non)))) (sSeq (sSet 9 (eCallN 3 F__law_step (aCons (eBin vIx (eVar 3) (eC (.int 2))) (aCons (eBin vIx (eVar 3) (eC (.int 0))) (aCons (eVar 9) aNil))))) (sSeq (sSet 10 (eCallN 3 F__law_step (aCons (eBin vIx (eVar 3) (eC (.int 2))) (aCons (eBin vIx (eVar 3) (eC (.int 0))) (aCons (eVar 10) aNil))))) (sIf (tAndM (tB (eBin vNotN (eVar 9) (eC .non))) (tAndM (tB (eBin vEq (eVar 9) (eVar 10))) (tB (eBin vLt (eVar 8) (eC (.int 0)))))) (sSet 8 (eVar 11)) sNext))) sNext)) (sIf (tNotM (tTru (eCallN 2 (F__law_same 5) (aCons (eCallN 4 F_parted (aCons (eVar 4) (aCons (eVar 5) (aCons (eVar 6) (aCons (eVar 7) aNil))))) (aCons (eVar 8) aNil))))) (sRet (eC (.bl false))) sNext))))) sNext) (sSeq (sSet 12 (eLst false (aCons (eVar 5) aNil))) (sSeq (sFor (iRange1 (eBin vMod (eVar 7) (eC (.int 5)))) (.name 11) (sSeq (sIf (tNotM (tTru (eCallN 2 (F__law_same 5) (aCons (eCallN 3 F_lost (aCons (eVar 4) (aCons (eVar 5) (aCons (eVar 11) aNil)))) (aCons (eBI vLen (aCons (eVar 12) aNil)) aNil))))) (sRet (eC (.bl false))) sNext) (sSeq (sSet 13 (eLst false aNil)) (sSeq (sFor (iSeq (eVar 12)) (.name 14) (sSet 13 (eBin (vAdd false) (eVar 13) (eCallN 3 F__law_back (aCons (eBin vIx (eVar 3) (eC (.int 2))) (aCons (eBin vIx (eVar 3) (eC (.int 0))) (aCons (eVar 14) aNil))))))) (sSet 12 (eVar 13)))))) (sSeq (sIf (tNotM (tTru (eCallN 1 F_forgets (aCons (eVar 4) aNil)))) (sSeq (sSet 12 (eLst false (aCons (eVar 5) aNil))) (sSeq (sFor (iRange1 (eC (.int 12))) (.name 11) (sSeq (sSet 13 (eLst false aNil)) (sSeq (sFor (iSeq (eVar 12)) (.name 14) (sSet 13 (eBin (vAdd false) (eVar 13) (eCallN 3 F__law_back (aCons (eBin vIx (eVar 3) (eC (.int 2))) (aCons (eBin vIx (eVar 3) (eC (.int 0))) (aCons (eVar 14) aNil))))))) (sSet 12 (eVar 13))))) (sRet (eAnd (eBin vLt (eBI vLen (aCons (eVar 12) aNil)) (eC (.int 2))) (eBin vEq (eCallN 3 F_lost (aCons (eVar 4) (aCons (eVar 5) (aCons (eC (.int 12)) aNil)))) (eBI vLen (aCons (eVar 12) aNil))))))) sNext) (sRet (eC (.bl true))))))))))))))
noncomputable def F_law : FM := runB 15 B_law
structure Ad where
  _law_numbers : Addr
  fd__law_numbers : FuncData
  _law_take : Addr
  fd__law_take : FuncData
  _law_machine : Addr
  fd__law_machine : FuncData
  _law_little : Addr
  fd__law_little : FuncData
  is_integer : Addr
  fd_is_integer : FuncData
  Tape__is_row : Addr
  fd_Tape__is_row : FuncData
  Tape___init__ : Addr
  fd_Tape___init__ : FuncData
  _law_trim : Addr
  fd__law_trim : FuncData
  _law_side : Addr
  fd__law_side : FuncData
  _law_configuration : Addr
  fd__law_configuration : FuncData
  Tape_row : Addr
  fd_Tape_row : FuncData
  _places : Addr
  fd__places : FuncData
  clashes : Addr
  fd_clashes : FuncData
  forgets : Addr
  fd_forgets : FuncData
  _law_same : Addr
  fd__law_same : FuncData
  _law_step : Addr
  fd__law_step : FuncData
  trimmed : Addr
  fd_trimmed : FuncData
  Tape_step : Addr
  fd_Tape_step : FuncData
  parted : Addr
  fd_parted : FuncData
  _taken_back : Addr
  fd__taken_back : FuncData
  before : Addr
  fd_before : FuncData
  lost : Addr
  fd_lost : FuncData
  _law_back : Addr
  fd__law_back : FuncData
  law : Addr
  fd_law : FuncData
  c_BackError : Addr
  c_BadMachine : Addr
  c_Tape : Addr
def tb (A : Ad) : Tbl where
  cl := fun c => match c with
    | 0 => some A.c_BackError
    | 1 => some A.c_BadMachine
    | 3 => some A.c_Tape
    | _ => none
  fl := fun c => match c with
    | 3 => ["marks", "states", "_rows"]
    | _ => []
structure Tx (K : PySem.W.Frag) (mg : Str → Option Value) (A : Ad) : Prop where
  F__law_numbers : Fun K "_law_numbers" "_law_numbers" s__law_numbers A._law_numbers A.fd__law_numbers
  b__law_numbers : Binds K A.fd__law_numbers ["_law_script", "_law_many"] []
  g__law_numbers : mg "_law_numbers" = some (.ref A._law_numbers)
  F__law_take : Fun K "_law_take" "_law_take" s__law_take A._law_take A.fd__law_take
  b__law_take : Binds K A.fd__law_take ["_law_numbers_here", "_law_place"] []
  g__law_take : mg "_law_take" = some (.ref A._law_take)
  F__law_machine : Fun K "_law_machine" "_law_machine" s__law_machine A._law_machine A.fd__law_machine
  b__law_machine : Binds K A.fd__law_machine ["_law_numbers_here", "_law_place", "_law_marks", "_law_states"] []
  g__law_machine : mg "_law_machine" = some (.ref A._law_machine)
  F__law_little : Fun K "_law_little" "_law_little" s__law_little A._law_little A.fd__law_little
  b__law_little : Binds K A.fd__law_little ["_law_numbers_here", "_law_place"] []
  g__law_little : mg "_law_little" = some (.ref A._law_little)
  F_is_integer : Fun K "is_integer" "is_integer" s_is_integer A.is_integer A.fd_is_integer
  b_is_integer : Binds K A.fd_is_integer ["value", "least", "most"] []
  g_is_integer : mg "is_integer" = some (.ref A.is_integer)
  F_Tape__is_row : Fun K "_is_row" "Tape._is_row" s_Tape__is_row A.Tape__is_row A.fd_Tape__is_row
  b_Tape__is_row : Binds K A.fd_Tape__is_row ["self", "row"] []
  m_Tape__is_row : Meth K A.c_Tape "_is_row" A.Tape__is_row
  F_Tape___init__ : Fun K "__init__" "Tape.__init__" s_Tape___init__ A.Tape___init__ A.fd_Tape___init__
  b_Tape___init__ : Binds K A.fd_Tape___init__ ["self", "marks", "states", "rows"] []
  F__law_trim : Fun K "_law_trim" "_law_trim" s__law_trim A._law_trim A.fd__law_trim
  b__law_trim : Binds K A.fd__law_trim ["_law_marks"] []
  g__law_trim : mg "_law_trim" = some (.ref A._law_trim)
  F__law_side : Fun K "_law_side" "_law_side" s__law_side A._law_side A.fd__law_side
  b__law_side : Binds K A.fd__law_side ["_law_numbers_here", "_law_place", "_law_marks", "_law_most"] []
  g__law_side : mg "_law_side" = some (.ref A._law_side)
  F__law_configuration : Fun K "_law_configuration" "_law_configuration" s__law_configuration A._law_configuration A.fd__law_configuration
  b__law_configuration : Binds K A.fd__law_configuration ["_law_numbers_here", "_law_place", "_law_marks", "_law_states", "_law_most"] []
  g__law_configuration : mg "_law_configuration" = some (.ref A._law_configuration)
  F_Tape_row : Fun K "row" "Tape.row" s_Tape_row A.Tape_row A.fd_Tape_row
  b_Tape_row : Binds K A.fd_Tape_row ["self", "state", "mark"] []
  m_Tape_row : Meth K A.c_Tape "row" A.Tape_row
  F__places : Fun K "_places" "_places" s__places A._places A.fd__places
  b__places : Binds K A.fd__places ["machine"] []
  g__places : mg "_places" = some (.ref A._places)
  F_clashes : Fun K "clashes" "clashes" s_clashes A.clashes A.fd_clashes
  b_clashes : Binds K A.fd_clashes ["machine"] []
  g_clashes : mg "clashes" = some (.ref A.clashes)
  F_forgets : Fun K "forgets" "forgets" s_forgets A.forgets A.fd_forgets
  b_forgets : Binds K A.fd_forgets ["machine"] []
  g_forgets : mg "forgets" = some (.ref A.forgets)
  F__law_same : Fun K "_law_same" "_law_same" s__law_same A._law_same A.fd__law_same
  b__law_same : Binds K A.fd__law_same ["_law_actual", "_law_expected"] []
  g__law_same : mg "_law_same" = some (.ref A._law_same)
  F__law_step : Fun K "_law_step" "_law_step" s__law_step A._law_step A.fd__law_step
  b__law_step : Binds K A.fd__law_step ["_law_rows", "_law_marks", "_law_spot"] []
  g__law_step : mg "_law_step" = some (.ref A._law_step)
  F_trimmed : Fun K "trimmed" "trimmed" s_trimmed A.trimmed A.fd_trimmed
  b_trimmed : Binds K A.fd_trimmed ["marks"] []
  g_trimmed : mg "trimmed" = some (.ref A.trimmed)
  F_Tape_step : Fun K "step" "Tape.step" s_Tape_step A.Tape_step A.fd_Tape_step
  b_Tape_step : Binds K A.fd_Tape_step ["self", "configuration"] []
  m_Tape_step : Meth K A.c_Tape "step" A.Tape_step
  F_parted : Fun K "parted" "parted" s_parted A.parted A.fd_parted
  b_parted : Binds K A.fd_parted ["machine", "first", "second", "steps"] []
  g_parted : mg "parted" = some (.ref A.parted)
  F__taken_back : Fun K "_taken_back" "_taken_back" s__taken_back A._taken_back A.fd__taken_back
  b__taken_back : Binds K A.fd__taken_back ["configuration", "place", "row"] []
  g__taken_back : mg "_taken_back" = some (.ref A._taken_back)
  F_before : Fun K "before" "before" s_before A.before A.fd_before
  b_before : Binds K A.fd_before ["machine", "configuration"] []
  g_before : mg "before" = some (.ref A.before)
  F_lost : Fun K "lost" "lost" s_lost A.lost A.fd_lost
  b_lost : Binds K A.fd_lost ["machine", "configuration", "steps"] []
  g_lost : mg "lost" = some (.ref A.lost)
  F__law_back : Fun K "_law_back" "_law_back" s__law_back A._law_back A.fd__law_back
  b__law_back : Binds K A.fd__law_back ["_law_rows", "_law_marks", "_law_spot"] []
  g__law_back : mg "_law_back" = some (.ref A._law_back)
  F_law : Fun K "law" "law" s_law A.law A.fd_law
  b_law : Binds K A.fd_law ["_law_script"] []
  g_law : mg "law" = some (.ref A.law)
  O_Tape : CO K (tb A) 3 A.c_Tape
  g_Tape : mg "Tape" = some (.ref A.c_Tape)
  M_Tape : Mk K A.c_Tape A.Tape___init__
  E_BackError : EO K mg (tb A) 0 A.c_BackError "BackError"
  E_BadMachine : EO K mg (tb A) 1 A.c_BadMachine "BadMachine"
  z_abs : mg "abs" = none
  z_bool : mg "bool" = none
  z_enumerate : mg "enumerate" = none
  z_int : mg "int" = none
  z_isinstance : mg "isinstance" = none
  z_len : mg "len" = none
  z_list : mg "list" = none
  z_max : mg "max" = none
  z_range : mg "range" = none
  z_reversed : mg "reversed" = none
  z_sorted : mg "sorted" = none
  z_str : mg "str" = none
  z_tuple : mg "tuple" = none
  k_MOST_MARKS : ∃ t, mg "MOST_MARKS" = some (.int 8 t)
  k_MOST_STATES : ∃ t, mg "MOST_STATES" = some (.int 40 t)
section
variable {P : Program} {w : World} {K : PySem.W.Frag} {mg : Str → Option Value} {base : Heap} {A : Ad}
theorem c_MOST_MARKS {X : Cx} {Ew : XW} {pos : Pos} (Z : Tx X.K X.mg A) (hg : Gl X "MOST_MARKS") : PEm (tb A) X Ew (.Name "MOST_MARKS" pos) (eC (.int 8)) := by
  obtain ⟨t, e⟩ := Z.k_MOST_MARKS
  exact m_glob (z := .int 8) hg e ⟨t, rfl⟩ (fun _ => .int _)
theorem c_MOST_STATES {X : Cx} {Ew : XW} {pos : Pos} (Z : Tx X.K X.mg A) (hg : Gl X "MOST_STATES") : PEm (tb A) X Ew (.Name "MOST_STATES" pos) (eC (.int 40)) := by
  obtain ⟨t, e⟩ := Z.k_MOST_STATES
  exact m_glob (z := .int 40) hg e ⟨t, rfl⟩ (fun _ => .int _)
theorem ok__law_numbers (Z : Tx K mg A) : FnOk P w K mg base (L2.CX P w) 1 A._law_numbers A.fd__law_numbers ["_law_script", "_law_many"] (spD K (tb A) 2 F__law_numbers) :=
  fn_ok Z.F__law_numbers sc__law_numbers fun _ _ _ _ _ _ h => by
    unfold B__law_numbers
    exact (mb_cons (ms_set (i := 2) h.nd rfl (by first | exact .inl rfl | exact .inr rfl) (m_lst ma_nil))
      (mb_cons (ms_for h.hp h.calm (i_range1 (by rfl) Z.z_range (m_callB call_len l_len (by rfl) Z.z_len b_len (ma_cons (m_var 0) ma_nil))) (g_name h.nd rfl (by first | exact .inl rfl | exact .inr rfl)) (mb_cons (ms_set (i := 4) h.nd rfl (by first | exact .inl rfl | exact .inr rfl) (m_callB call_abs l_abs (by rfl) Z.z_abs b_abs (ma_cons (m_ix (m_var 0) (m_var 3)) ma_nil)))
      (mb_one (ms_if (mt_cmp op_ge o_ge (m_var 4) (m_op op_pow o_pow m_int m_int) (nomark _)) (mb_one (ms_for h.hp h.calm (i_range1 (by rfl) Z.z_range m_int) (g_name h.nd rfl (by first | exact .inl rfl | exact .inr rfl)) (mb_one (ms_if (mw_and (mt_cmp op_gt o_gt (m_var 4) m_int (nomark _)) (mw_and1 (mt_cmp op_lt o_lt (m_callB call_len l_len (by rfl) Z.z_len b_len (ma_cons (m_var 2) ma_nil)) (m_var 1) (nomark _)))).pt (mb_cons (ms_expr (m_bm PySem.F.plainAttrs_list PySem.F.slot_list_append PySem.F.type_list_append mt_append isLst_ok w_append (m_var 2) (ma_cons (m_op op_mod o_mod (m_var 4) m_int) ma_nil)))
      (mb_one (ms_set (i := 4) h.nd rfl (by first | exact .inl rfl | exact .inr rfl) (m_op op_fdiv o_fdiv (m_var 4) m_int)))) mb_nil)))) (mb_one (ms_for h.hp h.calm (i_range1 (by rfl) Z.z_range m_int) (g_name h.nd rfl (by first | exact .inl rfl | exact .inr rfl)) (mb_cons (ms_set (i := 6) h.nd rfl (by first | exact .inl rfl | exact .inr rfl) (m_op op_mod o_mod (m_callTy call_int1 l_int (by rfl) Z.z_int b_int (ma_cons (m_op add_all (o_add false) (m_op add_all (o_add false) (m_op add_all (o_add false) (m_op op_mul o_mul (m_var 4) m_int) (m_op op_mul o_mul (m_var 3) m_int)) (m_op op_mul o_mul (m_var 5) m_int)) m_int) ma_nil)) m_int))
      (mb_cons (ms_set (i := 6) h.nd rfl (by first | exact .inl rfl | exact .inr rfl) (m_op op_mod o_mod (m_callTy call_int1 l_int (by rfl) Z.z_int b_int (ma_cons (m_op add_all (o_add false) (m_op op_mul o_mul (m_var 6) (m_var 6)) (m_var 5)) ma_nil)) m_int))
      (mb_one (ms_expr (m_bm PySem.F.plainAttrs_list PySem.F.slot_list_append PySem.F.type_list_append mt_append isLst_ok w_append (m_var 2) (ma_cons (m_op op_mod o_mod (m_op op_fdiv o_fdiv (m_var 6) m_int) m_int) ma_nil))))))))))))
      (mb_one (ms_ret (m_cut (m_var 2) mo_none (mo_some (m_var 1)))))))
theorem ok__law_take (Z : Tx K mg A) : FnOk P w K mg base (L2.CX P w) 1 A._law_take A.fd__law_take ["_law_numbers_here", "_law_place"] (spD K (tb A) 2 F__law_take) :=
  fn_ok Z.F__law_take sc__law_take fun _ _ _ _ _ _ h => by
    unfold B__law_take
    exact (mb_cons (ms_if (mt_cmp op_lt o_lt (m_ix (m_var 1) m_int) (m_callB call_len l_len (by rfl) Z.z_len b_len (ma_cons (m_var 0) ma_nil)) (nomark _)) (mb_cons (ms_setIx (m_op add_all (o_add false) (m_ix (m_var 1) m_int) m_int) (m_var 1) m_int)
      (mb_one (ms_ret (m_ix (m_var 0) (m_op op_sub o_sub (m_ix (m_var 1) m_int) m_int))))) mb_nil)
      (mb_one (ms_ret m_int)))
theorem ok__law_machine (Z : Tx K mg A) : FnOk P w K mg base (L2.CX P w) 2 A._law_machine A.fd__law_machine ["_law_numbers_here", "_law_place", "_law_marks", "_law_states"] (spD K (tb A) 4 F__law_machine) :=
  fn_ok Z.F__law_machine sc__law_machine fun _ _ _ _ _ _ h => by
    unfold B__law_machine
    exact (mb_cons (ms_set (i := 4) h.nd rfl (by first | exact .inl rfl | exact .inr rfl) (m_lst ma_nil))
      (mb_cons (ms_set (i := 5) h.nd rfl (by first | exact .inl rfl | exact .inr rfl) (m_op op_mod o_mod (m_call (ok__law_take Z) (h.room.mono (by decide)) (by rfl) Z.g__law_take Z.F__law_take.kp Z.b__law_take (ma_cons (m_var 0) (ma_cons (m_var 1) ma_nil))) m_int))
      (mb_cons (ms_for h.hp h.calm (i_range1 (by rfl) Z.z_range (m_op op_mul o_mul (m_var 2) (m_var 3))) (g_name h.nd rfl (by first | exact .inl rfl | exact .inr rfl)) (mb_one (ms_if (mt_cmp op_lt o_lt (m_var 6) m_int (nomark _)) (mb_cons (ms_set (i := 7) h.nd rfl (by first | exact .inl rfl | exact .inr rfl) (m_op add_all (o_add false) (m_call (ok__law_take Z) (h.room.mono (by decide)) (by rfl) Z.g__law_take Z.F__law_take.kp Z.b__law_take (ma_cons (m_var 0) (ma_cons (m_var 1) ma_nil))) (m_op op_mul o_mul m_int (m_op op_fdiv o_fdiv (m_var 6) m_int))))
      (mb_cons (ms_set (i := 8) h.nd rfl (by first | exact .inl rfl | exact .inr rfl) (m_tup (ma_cons (m_op op_mod o_mod (m_var 7) (m_var 2)) (ma_cons (m_ix (m_tup (ma_cons (m_un un_neg o_neg m_int) (ma_cons m_int ma_nil))) (m_op op_mod o_mod (m_op op_fdiv o_fdiv (m_var 7) m_int) m_int)) (ma_cons (m_op op_mod o_mod (m_op op_fdiv o_fdiv (m_var 7) m_int) (m_var 3)) ma_nil)))))
      (mb_cons (ms_if (mw_and (mt_cmp (op_eqD h.hu) o_eq (m_var 5) m_int (nomark _)) (mw_and1 (mt_cmp op_gt o_gt (m_var 6) m_int (nomark _)))).pt (mb_one (ms_set (i := 8) h.nd rfl (by first | exact .inl rfl | exact .inr rfl) (m_tup (ma_cons (m_op op_mod o_mod (m_var 7) (m_var 2)) (ma_cons m_int (ma_cons (m_op op_mod o_mod (m_op op_fdiv o_fdiv (m_var 7) m_int) (m_var 3)) ma_nil)))))) mb_nil)
      (mb_cons (ms_if (mw_and (mt_cmp (op_eqD h.hu) o_eq (m_op op_mod o_mod (m_op op_fdiv o_fdiv (m_var 7) m_int) m_int) m_int (nomark _)) (mw_and1 (mt_cmp (op_neD h.hu) o_ne (m_var 5) m_int (nomark _)))).pt (mb_one (ms_set (i := 8) h.nd rfl (by first | exact .inl rfl | exact .inr rfl) m_non)) mb_nil)
      (mb_one (ms_expr (m_bm PySem.F.plainAttrs_list PySem.F.slot_list_append PySem.F.type_list_append mt_append isLst_ok w_append (m_var 4) (ma_cons (m_var 8) ma_nil)))))))) mb_nil)))
      (mb_one (ms_ret (m_frz (m_var 4)))))))
theorem ok__law_little (Z : Tx K mg A) : FnOk P w K mg base (L2.CX P w) 3 A._law_little A.fd__law_little ["_law_numbers_here", "_law_place"] (spD K (tb A) 2 F__law_little) :=
  fn_ok Z.F__law_little sc__law_little fun _ _ _ _ _ _ h => by
    unfold B__law_little
    exact (mb_cons (ms_set (i := 2) h.nd rfl (by first | exact .inl rfl | exact .inr rfl) (m_op add_all (o_add false) m_int (m_op op_mod o_mod (m_call (ok__law_take Z) (h.room.mono (by decide)) (by rfl) Z.g__law_take Z.F__law_take.kp Z.b__law_take (ma_cons (m_var 0) (ma_cons (m_var 1) ma_nil))) m_int)))
      (mb_cons (ms_set (i := 3) h.nd rfl (by first | exact .inl rfl | exact .inr rfl) (m_op add_all (o_add false) m_int (m_op op_mod o_mod (m_call (ok__law_take Z) (h.room.mono (by decide)) (by rfl) Z.g__law_take Z.F__law_take.kp Z.b__law_take (ma_cons (m_var 0) (ma_cons (m_var 1) ma_nil))) m_int)))
      (mb_one (ms_ret (m_tup (ma_cons (m_var 2) (ma_cons (m_var 3) (ma_cons (m_call (ok__law_machine Z) (h.room.mono (by decide)) (by rfl) Z.g__law_machine Z.F__law_machine.kp Z.b__law_machine (ma_cons (m_var 0) (ma_cons (m_var 1) (ma_cons (m_var 2) (ma_cons (m_var 3) ma_nil))))) ma_nil))))))))
theorem ok_is_integer (Z : Tx K mg A) : FnOk P w K mg base (L2.CX P w) 1 A.is_integer A.fd_is_integer ["value", "least", "most"] (spD K (tb A) 3 F_is_integer) :=
  fn_ok Z.F_is_integer sc_is_integer fun _ _ _ _ _ _ h => by
    unfold B_is_integer
    exact (mb_one (ms_ret (m_and (m_callB call_isi l_isi (by rfl) Z.z_isinstance b_isinstance (ma_cons (m_var 0) (ma_cons (m_bltn (v := .ty .int) (z := .ty "int") (by rfl) Z.z_int b_int rfl (fun _ => .ty .int)) ma_nil))) (m_and (m_not (m_callB call_isi l_isi (by rfl) Z.z_isinstance b_isinstance (ma_cons (m_var 0) (ma_cons (m_bltn (v := .ty .bl) (z := .ty "bool") (by rfl) Z.z_bool b_bool rfl (fun _ => .ty .bl)) ma_nil)))) (m_one (m_chain op_le op_le o_le o_le (m_var 1) (m_var 0) (m_var 2)))))))
theorem ok_Tape__is_row (Z : Tx K mg A) : FnOk P w K mg base (L2.CX P w) 2 A.Tape__is_row A.fd_Tape__is_row ["self", "row"] (spD K (tb A) 2 F_Tape__is_row) :=
  fn_ok Z.F_Tape__is_row sc_Tape__is_row fun _ _ _ _ _ _ h => by
    unfold B_Tape__is_row
    exact (mb_cons (ms_if (mw_or (mt_not (mt_tru (m_callB call_isi l_isi (by rfl) Z.z_isinstance b_isinstance (ma_cons (m_var 1) (ma_cons (m_bltn (v := .ty .tup) (z := .ty "tuple") (by rfl) Z.z_tuple b_tuple rfl (fun _ => .ty .tup)) ma_nil))))) (mw_or1 (mt_cmp (op_neD h.hu) o_ne (m_callB call_len l_len (by rfl) Z.z_len b_len (ma_cons (m_var 1) ma_nil)) m_int (nomark _)))).pt (mb_one (ms_ret m_bl)) mb_nil)
      (mb_cons (ms_if (mw_or (mt_not (mt_tru (m_call (ok_is_integer Z) (h.room.mono (by decide)) (by rfl) Z.g_is_integer Z.F_is_integer.kp Z.b_is_integer (ma_cons (m_ix (m_var 1) m_int) (ma_cons (m_un un_neg o_neg m_int) (ma_cons m_int ma_nil)))))) (mw_or1 (mt_cmp (op_eqD h.hu) o_eq (m_ix (m_var 1) m_int) m_int (nomark _)))).pt (mb_one (ms_ret m_bl)) mb_nil)
      (mb_one (ms_ret (m_and (m_call (ok_is_integer Z) (h.room.mono (by decide)) (by rfl) Z.g_is_integer Z.F_is_integer.kp Z.b_is_integer (ma_cons (m_ix (m_var 1) m_int) (ma_cons m_int (ma_cons (m_op op_sub o_sub (m_attr (i := 0) Z.O_Tape (by rfl) (m_var 0)) m_int) ma_nil)))) (m_one (m_call (ok_is_integer Z) (h.room.mono (by decide)) (by rfl) Z.g_is_integer Z.F_is_integer.kp Z.b_is_integer (ma_cons (m_ix (m_var 1) m_int) (ma_cons m_int (ma_cons (m_op op_sub o_sub (m_attr (i := 1) Z.O_Tape (by rfl) (m_var 0)) m_int) ma_nil))))))))))
theorem ok_Tape___init__ (Z : Tx K mg A) : FnOk P w K mg base (L2.CX P w) 3 A.Tape___init__ A.fd_Tape___init__ ["self", "marks", "states", "rows"] (spD K (tb A) 4 F_Tape___init__) :=
  fn_ok Z.F_Tape___init__ sc_Tape___init__ fun _ _ _ _ _ _ h => by
    unfold B_Tape___init__
    exact (mb_cons (ms_if (mw_or (mt_not (mt_tru (m_call (ok_is_integer Z) (h.room.mono (by decide)) (by rfl) Z.g_is_integer Z.F_is_integer.kp Z.b_is_integer (ma_cons (m_var 1) (ma_cons m_int (ma_cons (c_MOST_MARKS Z (by rfl)) ma_nil)))))) (mw_or1 (mt_not (mt_tru (m_call (ok_is_integer Z) (h.room.mono (by decide)) (by rfl) Z.g_is_integer Z.F_is_integer.kp Z.b_is_integer (ma_cons (m_var 2) (ma_cons m_int (ma_cons (c_MOST_STATES Z (by rfl)) ma_nil)))))))).pt (mb_one ms_never) mb_nil)
      (mb_cons (ms_if (mt_cmp (op_neD h.hu) o_ne (m_callB call_len l_len (by rfl) Z.z_len b_len (ma_cons (m_var 3) ma_nil)) (m_op op_mul o_mul (m_var 1) (m_var 2)) (nomark _)) (mb_one ms_never) mb_nil)
      (mb_cons (ms_attr (i := 0) Z.O_Tape (by rfl) (m_var 0) (m_var 1))
      (mb_cons (ms_attr (i := 1) Z.O_Tape (by rfl) (m_var 0) (m_var 2))
      (mb_cons (ms_for h.hp h.calm (i_seq (m_var 3)) (g_name h.nd rfl (by first | exact .inl rfl | exact .inr rfl)) (mb_one (ms_if (mw_and (mt_cmp op_notN o_notN (m_var 4) m_non (nomark _)) (mw_and1 (mt_not (mt_tru (m_meth Z.O_Tape (by show ("_is_row" : Str) ∉ (["marks", "states", "_rows"] : List Str); decide +kernel) (m_var 0) Z.m_Tape__is_row (ok_Tape__is_row Z) (h.room.mono (by decide)) Z.b_Tape__is_row (ma_cons (m_var 4) ma_nil)))))).pt (mb_one ms_never) mb_nil)))
      (mb_one (ms_attr (i := 2) Z.O_Tape (by rfl) (m_var 0) (m_callTy call_list_of (l_list false) (by rfl) Z.z_list b_list (ma_cons (m_var 3) ma_nil)))))))))
theorem ok__law_trim (Z : Tx K mg A) : FnOk P w K mg base (L2.CX P w) 1 A._law_trim A.fd__law_trim ["_law_marks"] (spD K (tb A) 1 F__law_trim) :=
  fn_ok Z.F__law_trim sc__law_trim fun _ _ _ _ _ _ h => by
    unfold B__law_trim
    exact (mb_cons (ms_set (i := 1) h.nd rfl (by first | exact .inl rfl | exact .inr rfl) (m_callB call_len l_len (by rfl) Z.z_len b_len (ma_cons (m_lc (own := [("_law_k", 2)]) h.calm h.nd (i_range1 (by rfl) Z.z_range (m_callB call_len l_len (by rfl) Z.z_len b_len (ma_cons (m_var 0) ma_nil))) (blkOk_by (N := N__law_trim) (sc := defScope s__law_trim) (by decide +kernel)) (by decide) (fun _ _ _ _ _ => (g_name (h.blk _ _ _ _ _).nd rfl (by first | exact .inl rfl | exact .inr rfl))) (fun _ _ _ _ _ => mts_one (mt_cmp op_gt o_gt (m_callB (cr_max (h.blk _ _ _ _ _).calm (h.blk _ _ _ _ _).hu) (l_best max) (by rfl) Z.z_max b_max (ma_cons (m_op add_all (o_add false) (m_tup (ma_cons m_int ma_nil)) (m_cut (m_var 0) (mo_some (m_var 2)) mo_none)) ma_nil)) m_int (nomark _))) (fun _ _ _ _ _ => (m_var 2))) ma_nil)))
      (mb_one (ms_ret (m_cut (m_var 0) mo_none (mo_some (m_var 1))))))
theorem ok__law_side (Z : Tx K mg A) : FnOk P w K mg base (L2.CX P w) 2 A._law_side A.fd__law_side ["_law_numbers_here", "_law_place", "_law_marks", "_law_most"] (spD K (tb A) 4 F__law_side) :=
  fn_ok Z.F__law_side sc__law_side fun _ _ _ _ _ _ h => by
    unfold B__law_side
    exact (mb_cons (ms_set (i := 4) h.nd rfl (by first | exact .inl rfl | exact .inr rfl) (m_tup ma_nil))
      (mb_cons (ms_for h.hp h.calm (i_range1 (by rfl) Z.z_range (m_op op_mod o_mod (m_call (ok__law_take Z) (h.room.mono (by decide)) (by rfl) Z.g__law_take Z.F__law_take.kp Z.b__law_take (ma_cons (m_var 0) (ma_cons (m_var 1) ma_nil))) (m_op add_all (o_add false) (m_var 3) m_int))) (g_name h.nd rfl (by first | exact .inl rfl | exact .inr rfl)) (mb_one (ms_set (i := 4) h.nd rfl (by first | exact .inl rfl | exact .inr rfl) (m_op add_all (o_add false) (m_var 4) (m_tup (ma_cons (m_op op_mod o_mod (m_call (ok__law_take Z) (h.room.mono (by decide)) (by rfl) Z.g__law_take Z.F__law_take.kp Z.b__law_take (ma_cons (m_var 0) (ma_cons (m_var 1) ma_nil))) (m_var 2)) ma_nil))))))
      (mb_one (ms_ret (m_call (ok__law_trim Z) (h.room.mono (by decide)) (by rfl) Z.g__law_trim Z.F__law_trim.kp Z.b__law_trim (ma_cons (m_var 4) ma_nil))))))
theorem ok__law_configuration (Z : Tx K mg A) : FnOk P w K mg base (L2.CX P w) 3 A._law_configuration A.fd__law_configuration ["_law_numbers_here", "_law_place", "_law_marks", "_law_states", "_law_most"] (spD K (tb A) 5 F__law_configuration) :=
  fn_ok Z.F__law_configuration sc__law_configuration fun _ _ _ _ _ _ h => by
    unfold B__law_configuration
    exact (mb_cons (ms_set (i := 5) h.nd rfl (by first | exact .inl rfl | exact .inr rfl) (m_call (ok__law_side Z) (h.room.mono (by decide)) (by rfl) Z.g__law_side Z.F__law_side.kp Z.b__law_side (ma_cons (m_var 0) (ma_cons (m_var 1) (ma_cons (m_var 2) (ma_cons (m_var 4) ma_nil))))))
      (mb_cons (ms_set (i := 6) h.nd rfl (by first | exact .inl rfl | exact .inr rfl) (m_call (ok__law_side Z) (h.room.mono (by decide)) (by rfl) Z.g__law_side Z.F__law_side.kp Z.b__law_side (ma_cons (m_var 0) (ma_cons (m_var 1) (ma_cons (m_var 2) (ma_cons (m_var 4) ma_nil))))))
      (mb_one (ms_ret (m_tup (ma_cons (m_op op_mod o_mod (m_call (ok__law_take Z) (h.room.mono (by decide)) (by rfl) Z.g__law_take Z.F__law_take.kp Z.b__law_take (ma_cons (m_var 0) (ma_cons (m_var 1) ma_nil))) (m_var 3)) (ma_cons (m_var 5) (ma_cons (m_op op_mod o_mod (m_call (ok__law_take Z) (h.room.mono (by decide)) (by rfl) Z.g__law_take Z.F__law_take.kp Z.b__law_take (ma_cons (m_var 0) (ma_cons (m_var 1) ma_nil))) (m_var 2)) (ma_cons (m_var 6) ma_nil)))))))))
theorem ok_Tape_row (Z : Tx K mg A) : FnOk P w K mg base (L2.CX P w) 2 A.Tape_row A.fd_Tape_row ["self", "state", "mark"] (spD K (tb A) 3 F_Tape_row) :=
  fn_ok Z.F_Tape_row sc_Tape_row fun _ _ _ _ _ _ h => by
    unfold B_Tape_row
    exact (mb_cons (ms_if (mw_or (mt_not (mt_tru (m_call (ok_is_integer Z) (h.room.mono (by decide)) (by rfl) Z.g_is_integer Z.F_is_integer.kp Z.b_is_integer (ma_cons (m_var 1) (ma_cons m_int (ma_cons (m_op op_sub o_sub (m_attr (i := 1) Z.O_Tape (by rfl) (m_var 0)) m_int) ma_nil)))))) (mw_or1 (mt_not (mt_tru (m_call (ok_is_integer Z) (h.room.mono (by decide)) (by rfl) Z.g_is_integer Z.F_is_integer.kp Z.b_is_integer (ma_cons (m_var 2) (ma_cons m_int (ma_cons (m_op op_sub o_sub (m_attr (i := 0) Z.O_Tape (by rfl) (m_var 0)) m_int) ma_nil)))))))).pt (mb_one ms_never) mb_nil)
      (mb_one (ms_ret (m_ix (m_attr (i := 2) Z.O_Tape (by rfl) (m_var 0)) (m_op add_all (o_add false) (m_op op_mul o_mul (m_var 1) (m_attr (i := 0) Z.O_Tape (by rfl) (m_var 0))) (m_var 2))))))
theorem ok__places (Z : Tx K mg A) : FnOk P w K mg base (L2.CX P w) 3 A._places A.fd__places ["machine"] (spD K (tb A) 1 F__places) :=
  fn_ok Z.F__places sc__places fun _ _ _ _ _ _ h => by
    unfold B__places
    exact (mb_cons (ms_set (i := 1) h.nd rfl (by first | exact .inl rfl | exact .inr rfl) (m_lst ma_nil))
      (mb_cons (ms_for h.hp h.calm (i_range1 (by rfl) Z.z_range (m_attr (i := 1) Z.O_Tape (by rfl) (m_var 0))) (g_name h.nd rfl (by first | exact .inl rfl | exact .inr rfl)) (mb_one (ms_for h.hp h.calm (i_range1 (by rfl) Z.z_range (m_attr (i := 0) Z.O_Tape (by rfl) (m_var 0))) (g_name h.nd rfl (by first | exact .inl rfl | exact .inr rfl)) (mb_one (ms_if (mt_cmp op_notN o_notN (m_meth Z.O_Tape (by show ("row" : Str) ∉ (["marks", "states", "_rows"] : List Str); decide +kernel) (m_var 0) Z.m_Tape_row (ok_Tape_row Z) (h.room.mono (by decide)) Z.b_Tape_row (ma_cons (m_var 2) (ma_cons (m_var 3) ma_nil))) m_non (nomark _)) (mb_one (ms_expr (m_bm PySem.F.plainAttrs_list PySem.F.slot_list_append PySem.F.type_list_append mt_append isLst_ok w_append (m_var 1) (ma_cons (m_tup (ma_cons (m_var 2) (ma_cons (m_var 3) ma_nil))) ma_nil)))) mb_nil)))))
      (mb_one (ms_ret (m_frz (m_var 1))))))
theorem ok_clashes (Z : Tx K mg A) : FnOk P w K mg base (L2.CX P w) 4 A.clashes A.fd_clashes ["machine"] (spD K (tb A) 1 F_clashes) :=
  fn_ok Z.F_clashes sc_clashes fun _ _ _ _ _ _ h => by
    unfold B_clashes
    exact (mb_cons (ms_set (i := 1) h.nd rfl (by first | exact .inl rfl | exact .inr rfl) (m_call (ok__places Z) (h.room.mono (by decide)) (by rfl) Z.g__places Z.F__places.kp Z.b__places (ma_cons (m_var 0) ma_nil)))
      (mb_cons (ms_set (i := 2) h.nd rfl (by first | exact .inl rfl | exact .inr rfl) (m_lst ma_nil))
      (mb_cons (ms_for h.hp h.calm (i_enum (by rfl) Z.z_enumerate (m_var 1)) (g_tup h.calm (gs_cons (g_name h.nd rfl (by first | exact .inl rfl | exact .inr rfl)) (gs_cons (g_name h.nd rfl (by first | exact .inl rfl | exact .inr rfl)) gs_nil))) (mb_cons (ms_set (i := 5) h.nd rfl (by first | exact .inl rfl | exact .inr rfl) (m_meth Z.O_Tape (by show ("row" : Str) ∉ (["marks", "states", "_rows"] : List Str); decide +kernel) (m_var 0) Z.m_Tape_row (ok_Tape_row Z) (h.room.mono (by decide)) Z.b_Tape_row (ma_cons (m_ix (m_var 4) m_int) (ma_cons (m_ix (m_var 4) m_int) ma_nil))))
      (mb_one (ms_for h.hp h.calm (i_seq (m_cut (m_var 1) (mo_some (m_op add_all (o_add false) (m_var 3) m_int)) mo_none)) (g_name h.nd rfl (by first | exact .inl rfl | exact .inr rfl)) (mb_cons (ms_set (i := 7) h.nd rfl (by first | exact .inl rfl | exact .inr rfl) (m_meth Z.O_Tape (by show ("row" : Str) ∉ (["marks", "states", "_rows"] : List Str); decide +kernel) (m_var 0) Z.m_Tape_row (ok_Tape_row Z) (h.room.mono (by decide)) Z.b_Tape_row (ma_cons (m_ix (m_var 6) m_int) (ma_cons (m_ix (m_var 6) m_int) ma_nil))))
      (mb_one (ms_if (mw_and (mt_cmp (op_eqD h.hu) o_eq (m_ix (m_var 5) m_int) (m_ix (m_var 7) m_int) (nomark _)) (mw_and1 (mw_or (mt_cmp (op_neD h.hu) o_ne (m_ix (m_var 5) m_int) (m_ix (m_var 7) m_int) (nomark _)) (mw_or1 (mt_cmp (op_eqD h.hu) o_eq (m_ix (m_var 5) m_int) (m_ix (m_var 7) m_int) (nomark _)))).pt)).pt (mb_one (ms_expr (m_bm PySem.F.plainAttrs_list PySem.F.slot_list_append PySem.F.type_list_append mt_append isLst_ok w_append (m_var 2) (ma_cons (m_tup (ma_cons (m_var 4) (ma_cons (m_var 6) ma_nil))) ma_nil)))) mb_nil)))))))
      (mb_one (ms_ret (m_frz (m_var 2)))))))
theorem ok_forgets (Z : Tx K mg A) : FnOk P w K mg base (L2.CX P w) 5 A.forgets A.fd_forgets ["machine"] (spD K (tb A) 1 F_forgets) :=
  fn_ok Z.F_forgets sc_forgets fun _ _ _ _ _ _ h => by
    unfold B_forgets
    exact (mb_one (ms_ret (m_cmp op_gt o_gt (m_callB call_len l_len (by rfl) Z.z_len b_len (ma_cons (m_call (ok_clashes Z) (h.room.mono (by decide)) (by rfl) Z.g_clashes Z.F_clashes.kp Z.b_clashes (ma_cons (m_var 0) ma_nil)) ma_nil)) m_int (nomark _))))
theorem ok__law_same : ∀ (n : Nat) (Z : Tx K mg A), FnOk P w K mg base (L2.CX P w) (n + 1) A._law_same A.fd__law_same ["_law_actual", "_law_expected"] (spD K (tb A) 2 (F__law_same n))
  | 0, Z => PM.FnOk.never fun _ _ _ _ h => by
      obtain ⟨_, _, _, _, _, _, h⟩ := h
      exact h
  | n + 1, Z => fn_ok Z.F__law_same sc__law_same fun _ _ _ _ _ _ h => by
    have ih := ok__law_same n Z
    exact (mb_cons (ms_if (mt_tru (m_callB call_isi l_isi (by rfl) Z.z_isinstance b_isinstance (ma_cons (m_var 1) (ma_cons (m_bltn (v := .ty .tup) (z := .ty "tuple") (by rfl) Z.z_tuple b_tuple rfl (fun _ => .ty .tup)) ma_nil)))) (mb_cons (ms_if (mw_or (mt_not (mt_tru (m_callB call_isi l_isi (by rfl) Z.z_isinstance b_isinstance (ma_cons (m_var 0) (ma_cons (m_bltn (v := .ty .tup) (z := .ty "tuple") (by rfl) Z.z_tuple b_tuple rfl (fun _ => .ty .tup)) ma_nil))))) (mw_or1 (mt_cmp (op_neD h.hu) o_ne (m_callB call_len l_len (by rfl) Z.z_len b_len (ma_cons (m_var 0) ma_nil)) (m_callB call_len l_len (by rfl) Z.z_len b_len (ma_cons (m_var 1) ma_nil)) (nomark _)))).pt (mb_one (ms_ret m_bl)) mb_nil)
      (mb_cons (ms_for h.hp h.calm (i_range1 (by rfl) Z.z_range (m_callB call_len l_len (by rfl) Z.z_len b_len (ma_cons (m_var 1) ma_nil))) (g_name h.nd rfl (by first | exact .inl rfl | exact .inr rfl)) (mb_one (ms_if (mt_not (mt_tru (m_call ih (h.room.mono (Nat.le_refl _)) (by rfl) Z.g__law_same Z.F__law_same.kp Z.b__law_same (ma_cons (m_ix (m_var 0) (m_var 2)) (ma_cons (m_ix (m_var 1) (m_var 2)) ma_nil))))) (mb_one (ms_ret m_bl)) mb_nil)))
      (mb_one (ms_ret m_bl)))) mb_nil)
      (mb_cons (ms_if (mt_cmp op_isN o_isN (m_var 1) m_non (nomark _)) (mb_one (ms_ret (m_cmp op_isN o_isN (m_var 0) m_non (nomark _)))) mb_nil)
      (mb_cons (ms_if (mt_tru (m_callB call_isi l_isi (by rfl) Z.z_isinstance b_isinstance (ma_cons (m_var 1) (ma_cons (m_bltn (v := .ty .str) (z := .ty "str") (by rfl) Z.z_str b_str rfl (fun _ => .ty .str)) ma_nil)))) (mb_one (ms_ret (m_and (m_callB call_isi l_isi (by rfl) Z.z_isinstance b_isinstance (ma_cons (m_var 0) (ma_cons (m_bltn (v := .ty .str) (z := .ty "str") (by rfl) Z.z_str b_str rfl (fun _ => .ty .str)) ma_nil))) (m_one (m_cmp (op_eqD h.hu) o_eq (m_var 0) (m_var 1) (nomark _)))))) mb_nil)
      (mb_one (ms_ret (m_and (m_callB call_isi l_isi (by rfl) Z.z_isinstance b_isinstance (ma_cons (m_var 0) (ma_cons (m_bltn (v := .ty .int) (z := .ty "int") (by rfl) Z.z_int b_int rfl (fun _ => .ty .int)) ma_nil))) (m_and (m_not (m_callB call_isi l_isi (by rfl) Z.z_isinstance b_isinstance (ma_cons (m_var 0) (ma_cons (m_bltn (v := .ty .bl) (z := .ty "bool") (by rfl) Z.z_bool b_bool rfl (fun _ => .ty .bl)) ma_nil)))) (m_one (m_cmp (op_eqD h.hu) o_eq (m_var 0) (m_var 1) (nomark _))))))))))
theorem ok__law_step (Z : Tx K mg A) : FnOk P w K mg base (L2.CX P w) 2 A._law_step A.fd__law_step ["_law_rows", "_law_marks", "_law_spot"] (spD K (tb A) 3 F__law_step) :=
  fn_ok Z.F__law_step sc__law_step fun _ _ _ _ _ _ h => by
    unfold B__law_step
    exact (mb_cons (ms_set (i := 3) h.nd rfl (by first | exact .inl rfl | exact .inr rfl) (m_ix (m_var 0) (m_op add_all (o_add false) (m_op op_mul o_mul (m_ix (m_var 2) m_int) (m_var 1)) (m_ix (m_var 2) m_int))))
      (mb_cons (ms_if (mt_cmp op_isN o_isN (m_var 3) m_non (nomark _)) (mb_one (ms_ret m_non)) mb_nil)
      (mb_cons (ms_set (i := 4) h.nd rfl (by first | exact .inl rfl | exact .inr rfl) (m_op add_all (o_add false) (m_op add_all (o_add false) (m_tupRev h.calm (by rfl) Z.z_tuple (by rfl) Z.z_reversed (m_ix (m_var 2) m_int)) (m_tup (ma_cons (m_ix (m_var 3) m_int) ma_nil))) (m_ix (m_var 2) m_int)))
      (mb_cons (ms_set (i := 5) h.nd rfl (by first | exact .inl rfl | exact .inr rfl) (m_op add_all (o_add false) (m_callB call_len l_len (by rfl) Z.z_len b_len (ma_cons (m_ix (m_var 2) m_int) ma_nil)) (m_ix (m_var 3) m_int)))
      (mb_cons (ms_if (mt_cmp op_lt o_lt (m_var 5) m_int (nomark _)) (mb_cons (ms_set (i := 4) h.nd rfl (by first | exact .inl rfl | exact .inr rfl) (m_op add_all (o_add false) (m_tup (ma_cons m_int ma_nil)) (m_var 4)))
      (mb_one (ms_set (i := 5) h.nd rfl (by first | exact .inl rfl | exact .inr rfl) m_int))) mb_nil)
      (mb_cons (ms_if (mt_cmp (op_eqD h.hu) o_eq (m_var 5) (m_callB call_len l_len (by rfl) Z.z_len b_len (ma_cons (m_var 4) ma_nil)) (nomark _)) (mb_one (ms_set (i := 4) h.nd rfl (by first | exact .inl rfl | exact .inr rfl) (m_op add_all (o_add false) (m_var 4) (m_tup (ma_cons m_int ma_nil))))) mb_nil)
      (mb_one (ms_ret (m_tup (ma_cons (m_ix (m_var 3) m_int) (ma_cons (m_call (ok__law_trim Z) (h.room.mono (by decide)) (by rfl) Z.g__law_trim Z.F__law_trim.kp Z.b__law_trim (ma_cons (m_tupRev h.calm (by rfl) Z.z_tuple (by rfl) Z.z_reversed (m_cut (m_var 4) mo_none (mo_some (m_var 5)))) ma_nil)) (ma_cons (m_ix (m_var 4) (m_var 5)) (ma_cons (m_call (ok__law_trim Z) (h.room.mono (by decide)) (by rfl) Z.g__law_trim Z.F__law_trim.kp Z.b__law_trim (ma_cons (m_cut (m_var 4) (mo_some (m_op add_all (o_add false) (m_var 5) m_int)) mo_none) ma_nil)) ma_nil)))))))))))))
theorem ok_trimmed (Z : Tx K mg A) : FnOk P w K mg base (L2.CX P w) 1 A.trimmed A.fd_trimmed ["marks"] (spD K (tb A) 1 F_trimmed) :=
  fn_ok Z.F_trimmed sc_trimmed fun _ _ _ _ _ _ h => by
    unfold B_trimmed
    exact (mb_cons (ms_set (i := 1) h.nd rfl (by first | exact .inl rfl | exact .inr rfl) (m_callB call_len l_len (by rfl) Z.z_len b_len (ma_cons (m_var 0) ma_nil)))
      (mb_cons (ms_while wMax h.hp (mw_and (mt_cmp op_gt o_gt (m_var 1) m_int (nomark _)) (mw_and1 (mt_cmp (op_eqD h.hu) o_eq (m_ix (m_var 0) (m_op op_sub o_sub (m_var 1) m_int)) m_int (nomark _)))).pt (mb_one (ms_aug h.nd rfl (by first | exact .inl rfl | exact .inr rfl) m_int ip_sub o_ipsub)))
      (mb_one (ms_ret (m_callTy call_tuple_of l_tuple (by rfl) Z.z_tuple b_tuple (ma_cons (m_cut (m_var 0) mo_none (mo_some (m_var 1))) ma_nil))))))
theorem ok_Tape_step (Z : Tx K mg A) : FnOk P w K mg base (L2.CX P w) 3 A.Tape_step A.fd_Tape_step ["self", "configuration"] (spD K (tb A) 2 F_Tape_step) :=
  fn_ok Z.F_Tape_step sc_Tape_step fun _ _ _ _ _ _ h => by
    unfold B_Tape_step
    exact (mb_cons (ms_asg (m_var 1) (g_tup h.calm (gs_cons (g_name h.nd rfl (by first | exact .inl rfl | exact .inr rfl)) (gs_cons (g_name h.nd rfl (by first | exact .inl rfl | exact .inr rfl)) (gs_cons (g_name h.nd rfl (by first | exact .inl rfl | exact .inr rfl)) (gs_cons (g_name h.nd rfl (by first | exact .inl rfl | exact .inr rfl)) gs_nil))))))
      (mb_cons (ms_set (i := 6) h.nd rfl (by first | exact .inl rfl | exact .inr rfl) (m_meth Z.O_Tape (by show ("row" : Str) ∉ (["marks", "states", "_rows"] : List Str); decide +kernel) (m_var 0) Z.m_Tape_row (ok_Tape_row Z) (h.room.mono (by decide)) Z.b_Tape_row (ma_cons (m_var 2) (ma_cons (m_var 4) ma_nil))))
      (mb_cons (ms_if (mt_cmp op_isN o_isN (m_var 6) m_non (nomark _)) (mb_one (ms_ret m_non)) mb_nil)
      (mb_cons (ms_asg (m_var 6) (g_tup h.calm (gs_cons (g_name h.nd rfl (by first | exact .inl rfl | exact .inr rfl)) (gs_cons (g_name h.nd rfl (by first | exact .inl rfl | exact .inr rfl)) (gs_cons (g_name h.nd rfl (by first | exact .inl rfl | exact .inr rfl)) gs_nil)))))
      (mb_cons (ms_if (mt_cmp (op_eqD h.hu) o_eq (m_var 8) m_int (nomark _)) (mb_cons (ms_set (i := 3) h.nd rfl (by first | exact .inl rfl | exact .inr rfl) (m_call (ok_trimmed Z) (h.room.mono (by decide)) (by rfl) Z.g_trimmed Z.F_trimmed.kp Z.b_trimmed (ma_cons (m_op add_all (o_add false) (m_tup (ma_cons (m_var 7) ma_nil)) (m_var 3)) ma_nil)))
      (mb_cons (ms_set (i := 10) h.nd rfl (by first | exact .inl rfl | exact .inr rfl) (m_if (mt_tru (m_var 5)) (m_ix (m_var 5) m_int) m_int))
      (mb_one (ms_ret (m_tup (ma_cons (m_var 9) (ma_cons (m_var 3) (ma_cons (m_var 10) (ma_cons (m_cut (m_var 5) (mo_some m_int) mo_none) ma_nil))))))))) mb_nil)
      (mb_cons (ms_set (i := 5) h.nd rfl (by first | exact .inl rfl | exact .inr rfl) (m_call (ok_trimmed Z) (h.room.mono (by decide)) (by rfl) Z.g_trimmed Z.F_trimmed.kp Z.b_trimmed (ma_cons (m_op add_all (o_add false) (m_tup (ma_cons (m_var 7) ma_nil)) (m_var 5)) ma_nil)))
      (mb_cons (ms_set (i := 10) h.nd rfl (by first | exact .inl rfl | exact .inr rfl) (m_if (mt_tru (m_var 3)) (m_ix (m_var 3) m_int) m_int))
      (mb_one (ms_ret (m_tup (ma_cons (m_var 9) (ma_cons (m_cut (m_var 3) (mo_some m_int) mo_none) (ma_cons (m_var 10) (ma_cons (m_var 5) ma_nil))))))))))))))
theorem ok_parted (Z : Tx K mg A) : FnOk P w K mg base (L2.CX P w) 4 A.parted A.fd_parted ["machine", "first", "second", "steps"] (spD K (tb A) 4 F_parted) :=
  fn_ok Z.F_parted sc_parted fun _ _ _ _ _ _ h => by
    unfold B_parted
    exact (mb_cons (ms_for h.hp h.calm (i_range1 (by rfl) Z.z_range (m_op add_all (o_add false) (m_var 3) m_int)) (g_name h.nd rfl (by first | exact .inl rfl | exact .inr rfl)) (mb_cons (ms_if (mt_cmp (op_eqD h.hu) o_eq (m_var 1) (m_var 2) (nomark _)) (mb_one (ms_ret (m_var 4))) mb_nil)
      (mb_cons (ms_set (i := 1) h.nd rfl (by first | exact .inl rfl | exact .inr rfl) (m_meth Z.O_Tape (by show ("step" : Str) ∉ (["marks", "states", "_rows"] : List Str); decide +kernel) (m_var 0) Z.m_Tape_step (ok_Tape_step Z) (h.room.mono (by decide)) Z.b_Tape_step (ma_cons (m_var 1) ma_nil)))
      (mb_cons (ms_set (i := 2) h.nd rfl (by first | exact .inl rfl | exact .inr rfl) (m_meth Z.O_Tape (by show ("step" : Str) ∉ (["marks", "states", "_rows"] : List Str); decide +kernel) (m_var 0) Z.m_Tape_step (ok_Tape_step Z) (h.room.mono (by decide)) Z.b_Tape_step (ma_cons (m_var 2) ma_nil)))
      (mb_one (ms_if (mw_or (mt_cmp op_isN o_isN (m_var 1) m_non (nomark _)) (mw_or1 (mt_cmp op_isN o_isN (m_var 2) m_non (nomark _)))).pt (mb_one (ms_ret (m_un un_neg o_neg m_int))) mb_nil))))))
      (mb_one (ms_ret (m_un un_neg o_neg m_int))))
theorem ok__taken_back (Z : Tx K mg A) : FnOk P w K mg base (L2.CX P w) 2 A._taken_back A.fd__taken_back ["configuration", "place", "row"] (spD K (tb A) 3 F__taken_back) :=
  fn_ok Z.F__taken_back sc__taken_back fun _ _ _ _ _ _ h => by
    unfold B__taken_back
    exact (mb_cons (ms_asg (m_var 0) (g_tup h.calm (gs_cons (g_name h.nd rfl (by first | exact .inl rfl | exact .inr rfl)) (gs_cons (g_name h.nd rfl (by first | exact .inl rfl | exact .inr rfl)) (gs_cons (g_name h.nd rfl (by first | exact .inl rfl | exact .inr rfl)) (gs_cons (g_name h.nd rfl (by first | exact .inl rfl | exact .inr rfl)) gs_nil))))))
      (mb_cons (ms_asg (m_var 2) (g_tup h.calm (gs_cons (g_name h.nd rfl (by first | exact .inl rfl | exact .inr rfl)) (gs_cons (g_name h.nd rfl (by first | exact .inl rfl | exact .inr rfl)) (gs_cons (g_name h.nd rfl (by first | exact .inl rfl | exact .inr rfl)) gs_nil)))))
      (mb_cons (ms_if (mt_cmp (op_eqD h.hu) o_eq (m_var 8) m_int (nomark _)) (mb_cons (ms_if (mt_cmp (op_neD h.hu) o_ne (m_if (mt_tru (m_var 4)) (m_ix (m_var 4) m_int) m_int) (m_var 7) (nomark _)) (mb_one (ms_ret m_non)) mb_nil)
      (mb_one (ms_ret (m_tup (ma_cons (m_ix (m_var 1) m_int) (ma_cons (m_cut (m_var 4) (mo_some m_int) mo_none) (ma_cons (m_ix (m_var 1) m_int) (ma_cons (m_call (ok_trimmed Z) (h.room.mono (by decide)) (by rfl) Z.g_trimmed Z.F_trimmed.kp Z.b_trimmed (ma_cons (m_op add_all (o_add false) (m_tup (ma_cons (m_var 5) ma_nil)) (m_var 6)) ma_nil)) ma_nil)))))))) mb_nil)
      (mb_cons (ms_if (mt_cmp (op_neD h.hu) o_ne (m_if (mt_tru (m_var 6)) (m_ix (m_var 6) m_int) m_int) (m_var 7) (nomark _)) (mb_one (ms_ret m_non)) mb_nil)
      (mb_one (ms_ret (m_tup (ma_cons (m_ix (m_var 1) m_int) (ma_cons (m_call (ok_trimmed Z) (h.room.mono (by decide)) (by rfl) Z.g_trimmed Z.F_trimmed.kp Z.b_trimmed (ma_cons (m_op add_all (o_add false) (m_tup (ma_cons (m_var 5) ma_nil)) (m_var 4)) ma_nil)) (ma_cons (m_ix (m_var 1) m_int) (ma_cons (m_cut (m_var 6) (mo_some m_int) mo_none) ma_nil)))))))))))
theorem ok_before (Z : Tx K mg A) : FnOk P w K mg base (L2.CX P w) 4 A.before A.fd_before ["machine", "configuration"] (spD K (tb A) 2 F_before) :=
  fn_ok Z.F_before sc_before fun _ _ _ _ _ _ h => by
    unfold B_before
    exact (mb_cons (ms_set (i := 2) h.nd rfl (by first | exact .inl rfl | exact .inr rfl) (m_lst ma_nil))
      (mb_cons (ms_for h.hp h.calm (i_seq (m_call (ok__places Z) (h.room.mono (by decide)) (by rfl) Z.g__places Z.F__places.kp Z.b__places (ma_cons (m_var 0) ma_nil))) (g_name h.nd rfl (by first | exact .inl rfl | exact .inr rfl)) (mb_cons (ms_set (i := 4) h.nd rfl (by first | exact .inl rfl | exact .inr rfl) (m_meth Z.O_Tape (by show ("row" : Str) ∉ (["marks", "states", "_rows"] : List Str); decide +kernel) (m_var 0) Z.m_Tape_row (ok_Tape_row Z) (h.room.mono (by decide)) Z.b_Tape_row (ma_cons (m_ix (m_var 3) m_int) (ma_cons (m_ix (m_var 3) m_int) ma_nil))))
      (mb_one (ms_if (mt_cmp (op_eqD h.hu) o_eq (m_ix (m_var 4) m_int) (m_ix (m_var 1) m_int) (nomark _)) (mb_cons (ms_set (i := 5) h.nd rfl (by first | exact .inl rfl | exact .inr rfl) (m_call (ok__taken_back Z) (h.room.mono (by decide)) (by rfl) Z.g__taken_back Z.F__taken_back.kp Z.b__taken_back (ma_cons (m_var 1) (ma_cons (m_var 3) (ma_cons (m_var 4) ma_nil)))))
      (mb_one (ms_if (mt_cmp op_notN o_notN (m_var 5) m_non (nomark _)) (mb_one (ms_expr (m_bm PySem.F.plainAttrs_list PySem.F.slot_list_append PySem.F.type_list_append mt_append isLst_ok w_append (m_var 2) (ma_cons (m_var 5) ma_nil)))) mb_nil))) mb_nil))))
      (mb_one (ms_ret (m_callB (cr_sortedD h.hu65) (l_sortD false) (by rfl) Z.z_sorted b_sorted (ma_cons (m_var 2) ma_nil))))))
theorem ok_lost (Z : Tx K mg A) : FnOk P w K mg base (L2.CX P w) 5 A.lost A.fd_lost ["machine", "configuration", "steps"] (spD K (tb A) 3 F_lost) :=
  fn_ok Z.F_lost sc_lost fun _ _ _ _ _ _ h => by
    unfold B_lost
    exact (mb_cons (ms_set (i := 3) h.nd rfl (by first | exact .inl rfl | exact .inr rfl) (m_lst (ma_cons (m_var 1) ma_nil)))
      (mb_cons (ms_for h.hp h.calm (i_range1 (by rfl) Z.z_range (m_var 2)) (g_name h.nd rfl (by first | exact .inl rfl | exact .inr rfl)) (mb_cons (ms_set (i := 5) h.nd rfl (by first | exact .inl rfl | exact .inr rfl) (m_lst ma_nil))
      (mb_cons (ms_for h.hp h.calm (i_seq (m_var 3)) (g_name h.nd rfl (by first | exact .inl rfl | exact .inr rfl)) (mb_one (ms_expr (m_bm PySem.F.plainAttrs_list PySem.F.slot_list_extend PySem.F.type_list_extend mt_extend isLst_ok w_extend (m_var 5) (ma_cons (m_call (ok_before Z) (h.room.mono (by decide)) (by rfl) Z.g_before Z.F_before.kp Z.b_before (ma_cons (m_var 0) (ma_cons (m_var 6) ma_nil))) ma_nil)))))
      (mb_one (ms_set (i := 3) h.nd rfl (by first | exact .inl rfl | exact .inr rfl) (m_frz (m_var 5)))))))
      (mb_one (ms_ret (m_callB call_len l_len (by rfl) Z.z_len b_len (ma_cons (m_var 3) ma_nil))))))
theorem ok__law_back (Z : Tx K mg A) : FnOk P w K mg base (L2.CX P w) 2 A._law_back A.fd__law_back ["_law_rows", "_law_marks", "_law_spot"] (spD K (tb A) 3 F__law_back) :=
  fn_ok Z.F__law_back sc__law_back fun _ _ _ _ _ _ h => by
    unfold B__law_back
    exact (mb_cons (ms_set (i := 3) h.nd rfl (by first | exact .inl rfl | exact .inr rfl) (m_lst ma_nil))
      (mb_cons (ms_for h.hp h.calm (i_range1 (by rfl) Z.z_range (m_callB call_len l_len (by rfl) Z.z_len b_len (ma_cons (m_var 0) ma_nil))) (g_name h.nd rfl (by first | exact .inl rfl | exact .inr rfl)) (mb_one (ms_if (mw_and (mt_cmp op_notN o_notN (m_ix (m_var 0) (m_var 4)) m_non (nomark _)) (mw_and1 (mt_cmp (op_eqD h.hu) o_eq (m_ix (m_ix (m_var 0) (m_var 4)) m_int) (m_ix (m_var 2) m_int) (nomark _)))).pt (mb_cons (ms_set (i := 5) h.nd rfl (by first | exact .inl rfl | exact .inr rfl) (m_op add_all (o_add false) (m_op add_all (o_add false) (m_tupRev h.calm (by rfl) Z.z_tuple (by rfl) Z.z_reversed (m_ix (m_var 2) m_int)) (m_tup (ma_cons (m_ix (m_var 2) m_int) ma_nil))) (m_ix (m_var 2) m_int)))
      (mb_cons (ms_set (i := 6) h.nd rfl (by first | exact .inl rfl | exact .inr rfl) (m_op op_sub o_sub (m_callB call_len l_len (by rfl) Z.z_len b_len (ma_cons (m_ix (m_var 2) m_int) ma_nil)) (m_ix (m_ix (m_var 0) (m_var 4)) m_int)))
      (mb_cons (ms_if (mt_cmp op_lt o_lt (m_var 6) m_int (nomark _)) (mb_cons (ms_set (i := 5) h.nd rfl (by first | exact .inl rfl | exact .inr rfl) (m_op add_all (o_add false) (m_tup (ma_cons m_int ma_nil)) (m_var 5)))
      (mb_one (ms_set (i := 6) h.nd rfl (by first | exact .inl rfl | exact .inr rfl) m_int))) mb_nil)
      (mb_cons (ms_if (mt_cmp (op_eqD h.hu) o_eq (m_var 6) (m_callB call_len l_len (by rfl) Z.z_len b_len (ma_cons (m_var 5) ma_nil)) (nomark _)) (mb_one (ms_set (i := 5) h.nd rfl (by first | exact .inl rfl | exact .inr rfl) (m_op add_all (o_add false) (m_var 5) (m_tup (ma_cons m_int ma_nil))))) mb_nil)
      (mb_one (ms_if (mt_cmp (op_eqD h.hu) o_eq (m_ix (m_var 5) (m_var 6)) (m_ix (m_ix (m_var 0) (m_var 4)) m_int) (nomark _)) (mb_cons (ms_set (i := 5) h.nd rfl (by first | exact .inl rfl | exact .inr rfl) (m_op add_all (o_add false) (m_op add_all (o_add false) (m_cut (m_var 5) mo_none (mo_some (m_var 6))) (m_tup (ma_cons (m_op op_mod o_mod (m_var 4) (m_var 1)) ma_nil))) (m_cut (m_var 5) (mo_some (m_op add_all (o_add false) (m_var 6) m_int)) mo_none)))
      (mb_one (ms_expr (m_bm PySem.F.plainAttrs_list PySem.F.slot_list_append PySem.F.type_list_append mt_append isLst_ok w_append (m_var 3) (ma_cons (m_tup (ma_cons (m_op op_fdiv o_fdiv (m_var 4) (m_var 1)) (ma_cons (m_call (ok__law_trim Z) (h.room.mono (by decide)) (by rfl) Z.g__law_trim Z.F__law_trim.kp Z.b__law_trim (ma_cons (m_tupRev h.calm (by rfl) Z.z_tuple (by rfl) Z.z_reversed (m_cut (m_var 5) mo_none (mo_some (m_var 6)))) ma_nil)) (ma_cons (m_ix (m_var 5) (m_var 6)) (ma_cons (m_call (ok__law_trim Z) (h.room.mono (by decide)) (by rfl) Z.g__law_trim Z.F__law_trim.kp Z.b__law_trim (ma_cons (m_cut (m_var 5) (mo_some (m_op add_all (o_add false) (m_var 6) m_int)) mo_none) ma_nil)) ma_nil))))) ma_nil))))) mb_nil)))))) mb_nil)))
      (mb_one (ms_ret (m_frz (m_var 3))))))
theorem ok_law (Z : Tx K mg A) : FnOk P w K mg base (L2.CX P w) 7 A.law A.fd_law ["_law_script"] (spD K (tb A) 1 F_law) :=
  fn_ok Z.F_law sc_law fun _ _ _ _ _ _ h => by
    unfold B_law
    exact (mb_cons (ms_set (i := 1) h.nd rfl (by first | exact .inl rfl | exact .inr rfl) (m_call (ok__law_numbers Z) (h.room.mono (by decide)) (by rfl) Z.g__law_numbers Z.F__law_numbers.kp Z.b__law_numbers (ma_cons (m_var 0) (ma_cons m_int ma_nil))))
      (mb_cons (ms_set (i := 2) h.nd rfl (by first | exact .inl rfl | exact .inr rfl) (m_lst (ma_cons m_int ma_nil)))
      (mb_cons (ms_set (i := 3) h.nd rfl (by first | exact .inl rfl | exact .inr rfl) (m_call (ok__law_little Z) (h.room.mono (by decide)) (by rfl) Z.g__law_little Z.F__law_little.kp Z.b__law_little (ma_cons (m_var 1) (ma_cons (m_var 2) ma_nil))))
      (mb_cons (ms_set (i := 4) h.nd rfl (by first | exact .inl rfl | exact .inr rfl) (m_frz (m_make Z.O_Tape Z.M_Tape (ok_Tape___init__ Z) (h.room.mono (by decide)) (by rfl) Z.g_Tape Z.b_Tape___init__ (ma_cons (m_ix (m_var 3) m_int) (ma_cons (m_ix (m_var 3) m_int) (ma_cons (m_callTy call_list_of (l_list false) (by rfl) Z.z_list b_list (ma_cons (m_ix (m_var 3) m_int) ma_nil)) ma_nil))))))
      (mb_cons (ms_set (i := 5) h.nd rfl (by first | exact .inl rfl | exact .inr rfl) (m_call (ok__law_configuration Z) (h.room.mono (by decide)) (by rfl) Z.g__law_configuration Z.F__law_configuration.kp Z.b__law_configuration (ma_cons (m_var 1) (ma_cons (m_var 2) (ma_cons (m_ix (m_var 3) m_int) (ma_cons (m_ix (m_var 3) m_int) (ma_cons m_int ma_nil)))))))
      (mb_cons (ms_set (i := 6) h.nd rfl (by first | exact .inl rfl | exact .inr rfl) (m_call (ok__law_configuration Z) (h.room.mono (by decide)) (by rfl) Z.g__law_configuration Z.F__law_configuration.kp Z.b__law_configuration (ma_cons (m_var 1) (ma_cons (m_var 2) (ma_cons (m_ix (m_var 3) m_int) (ma_cons (m_ix (m_var 3) m_int) (ma_cons m_int ma_nil)))))))
      (mb_cons (ms_set (i := 7) h.nd rfl (by first | exact .inl rfl | exact .inr rfl) (m_op op_mod o_mod (m_call (ok__law_take Z) (h.room.mono (by decide)) (by rfl) Z.g__law_take Z.F__law_take.kp Z.b__law_take (ma_cons (m_var 1) (ma_cons (m_var 2) ma_nil))) m_int))
      (mb_cons (ms_if (mt_cmp (op_neD h.hu) o_ne (m_var 5) (m_var 6) (nomark _)) (mb_cons (ms_set (i := 8) h.nd rfl (by first | exact .inl rfl | exact .inr rfl) (m_un un_neg o_neg m_int))
      (mb_cons (ms_set (i := 9) h.nd rfl (by first | exact .inl rfl | exact .inr rfl) (m_var 5))
      (mb_cons (ms_set (i := 10) h.nd rfl (by first | exact .inl rfl | exact .inr rfl) (m_var 6))
      (mb_cons (ms_for h.hp h.calm (i_range2 (by rfl) Z.z_range m_int (m_op add_all (o_add false) (m_var 7) m_int)) (g_name h.nd rfl (by first | exact .inl rfl | exact .inr rfl)) (mb_one (ms_if (mw_and (mt_cmp op_notN o_notN (m_var 9) m_non (nomark _)) (mw_and1 (mt_cmp op_notN o_notN (m_var 10) m_non (nomark _)))).pt (mb_cons (ms_set (i := 9) h.nd rfl (by first | exact .inl rfl | exact .inr rfl) (m_call (ok__law_step Z) (h.room.mono (by decide)) (by rfl) Z.g__law_step Z.F__law_step.kp Z.b__law_step (ma_cons (m_ix (m_var 3) m_int) (ma_cons (m_ix (m_var 3) m_int) (ma_cons (m_var 9) ma_nil)))))
      (mb_cons (ms_set (i := 10) h.nd rfl (by first | exact .inl rfl | exact .inr rfl) (m_call (ok__law_step Z) (h.room.mono (by decide)) (by rfl) Z.g__law_step Z.F__law_step.kp Z.b__law_step (ma_cons (m_ix (m_var 3) m_int) (ma_cons (m_ix (m_var 3) m_int) (ma_cons (m_var 10) ma_nil)))))
      (mb_one (ms_if (mw_and (mt_cmp op_notN o_notN (m_var 9) m_non (nomark _)) (mw_and (mt_cmp (op_eqD h.hu) o_eq (m_var 9) (m_var 10) (nomark _)) (mw_and1 (mt_cmp op_lt o_lt (m_var 8) m_int (nomark _))))).pt (mb_one (ms_set (i := 8) h.nd rfl (by first | exact .inl rfl | exact .inr rfl) (m_var 11))) mb_nil)))) mb_nil)))
      (mb_one (ms_if (mt_not (mt_tru (m_call (ok__law_same 5 Z) (h.room.mono (by decide)) (by rfl) Z.g__law_same Z.F__law_same.kp Z.b__law_same (ma_cons (m_call (ok_parted Z) (h.room.mono (by decide)) (by rfl) Z.g_parted Z.F_parted.kp Z.b_parted (ma_cons (m_var 4) (ma_cons (m_var 5) (ma_cons (m_var 6) (ma_cons (m_var 7) ma_nil))))) (ma_cons (m_var 8) ma_nil))))) (mb_one (ms_ret m_bl)) mb_nil)))))) mb_nil)
      (mb_cons (ms_set (i := 12) h.nd rfl (by first | exact .inl rfl | exact .inr rfl) (m_lst (ma_cons (m_var 5) ma_nil)))
      (mb_cons (ms_for h.hp h.calm (i_range1 (by rfl) Z.z_range (m_op op_mod o_mod (m_var 7) m_int)) (g_name h.nd rfl (by first | exact .inl rfl | exact .inr rfl)) (mb_cons (ms_if (mt_not (mt_tru (m_call (ok__law_same 5 Z) (h.room.mono (by decide)) (by rfl) Z.g__law_same Z.F__law_same.kp Z.b__law_same (ma_cons (m_call (ok_lost Z) (h.room.mono (by decide)) (by rfl) Z.g_lost Z.F_lost.kp Z.b_lost (ma_cons (m_var 4) (ma_cons (m_var 5) (ma_cons (m_var 11) ma_nil)))) (ma_cons (m_callB call_len l_len (by rfl) Z.z_len b_len (ma_cons (m_var 12) ma_nil)) ma_nil))))) (mb_one (ms_ret m_bl)) mb_nil)
      (mb_cons (ms_set (i := 13) h.nd rfl (by first | exact .inl rfl | exact .inr rfl) (m_lst ma_nil))
      (mb_cons (ms_for h.hp h.calm (i_seq (m_var 12)) (g_name h.nd rfl (by first | exact .inl rfl | exact .inr rfl)) (mb_one (ms_set (i := 13) h.nd rfl (by first | exact .inl rfl | exact .inr rfl) (m_op add_all (o_add false) (m_var 13) (m_call (ok__law_back Z) (h.room.mono (by decide)) (by rfl) Z.g__law_back Z.F__law_back.kp Z.b__law_back (ma_cons (m_ix (m_var 3) m_int) (ma_cons (m_ix (m_var 3) m_int) (ma_cons (m_var 14) ma_nil))))))))
      (mb_one (ms_set (i := 12) h.nd rfl (by first | exact .inl rfl | exact .inr rfl) (m_var 13)))))))
      (mb_cons (ms_if (mt_not (mt_tru (m_call (ok_forgets Z) (h.room.mono (by decide)) (by rfl) Z.g_forgets Z.F_forgets.kp Z.b_forgets (ma_cons (m_var 4) ma_nil)))) (mb_cons (ms_set (i := 12) h.nd rfl (by first | exact .inl rfl | exact .inr rfl) (m_lst (ma_cons (m_var 5) ma_nil)))
      (mb_cons (ms_for h.hp h.calm (i_range1 (by rfl) Z.z_range m_int) (g_name h.nd rfl (by first | exact .inl rfl | exact .inr rfl)) (mb_cons (ms_set (i := 13) h.nd rfl (by first | exact .inl rfl | exact .inr rfl) (m_lst ma_nil))
      (mb_cons (ms_for h.hp h.calm (i_seq (m_var 12)) (g_name h.nd rfl (by first | exact .inl rfl | exact .inr rfl)) (mb_one (ms_set (i := 13) h.nd rfl (by first | exact .inl rfl | exact .inr rfl) (m_op add_all (o_add false) (m_var 13) (m_call (ok__law_back Z) (h.room.mono (by decide)) (by rfl) Z.g__law_back Z.F__law_back.kp Z.b__law_back (ma_cons (m_ix (m_var 3) m_int) (ma_cons (m_ix (m_var 3) m_int) (ma_cons (m_var 14) ma_nil))))))))
      (mb_one (ms_set (i := 12) h.nd rfl (by first | exact .inl rfl | exact .inr rfl) (m_var 13))))))
      (mb_one (ms_ret (m_and (m_cmp op_lt o_lt (m_callB call_len l_len (by rfl) Z.z_len b_len (ma_cons (m_var 12) ma_nil)) m_int (nomark _)) (m_one (m_cmp (op_eqD h.hu) o_eq (m_call (ok_lost Z) (h.room.mono (by decide)) (by rfl) Z.g_lost Z.F_lost.kp Z.b_lost (ma_cons (m_var 4) (ma_cons (m_var 5) (ma_cons m_int ma_nil)))) (m_callB call_len l_len (by rfl) Z.z_len b_len (ma_cons (m_var 12) ma_nil)) (nomark _)))))))) mb_nil)
      (mb_one (ms_ret m_bl)))))))))))))
end
/-! ### lifts -/
theorem lf__law_numbers : LF [.s, .s] .v F__law_numbers G__law_numbers := by
  unfold F__law_numbers G__law_numbers B__law_numbers
  exact lf_of (κ2 := [.o, .s, .s, .s, .s]) rfl (ls_seq (ls_setO 2 rfl (le_lstN lv_nil))
      (ls_seq (ls_for (li_range1 (le_bi (rl_len) (nx_len) (la_cons (LE.q (le_var 0 rfl)) la_nil))) rfl (ls_seq (ls_set 4 rfl (le_bi (rl_abs) (nx_abs) (la_cons (LE.q (le_bin rs_ix nx_ix (LE.q (le_var 0 rfl)) (LE.q (le_var 3 rfl)))) la_nil)))
      (ls_if (lt_b (le_bin rs_ge nx_ge (LE.q (le_var 4 rfl)) (LE.q (le_bin rs_pow nx_pow (LE.q le_c) (LE.q le_c))))) (ls_for (li_range1 le_c) rfl (ls_if (lt_and (lt_b (le_bin rs_gt nx_gt (LE.q (le_var 4 rfl)) (LE.q le_c))) (lt_b (le_bin rs_lt nx_lt (LE.q (le_bi (rl_len) (nx_len) (la_cons (le_varQ 2 rfl (by decide)) la_nil))) (LE.q (le_var 1 rfl))))) (ls_seq (ls_app rfl rfl (le_bin rs_mod nx_mod (LE.q (le_var 4 rfl)) (LE.q le_c)))
      (ls_set 4 rfl (le_bin rs_fdiv nx_fdiv (LE.q (le_var 4 rfl)) (LE.q le_c)))) ls_next)) (ls_for (li_range1 le_c) rfl (ls_seq (ls_set 6 rfl (le_bin rs_mod nx_mod (LE.q (le_bi (rl_int) (nx_int) (la_cons (LE.q (le_bin rs_add nx_add (LE.q (le_bin rs_add nx_add (LE.q (le_bin rs_add nx_add (LE.q (le_bin rs_mul nx_mul (LE.q (le_var 4 rfl)) (LE.q le_c))) (LE.q (le_bin rs_mul nx_mul (LE.q (le_var 3 rfl)) (LE.q le_c))))) (LE.q (le_bin rs_mul nx_mul (LE.q (le_var 5 rfl)) (LE.q le_c))))) (LE.q le_c))) la_nil))) (LE.q le_c)))
      (ls_seq (ls_set 6 rfl (le_bin rs_mod nx_mod (LE.q (le_bi (rl_int) (nx_int) (la_cons (LE.q (le_bin rs_add nx_add (LE.q (le_bin rs_mul nx_mul (LE.q (le_var 6 rfl)) (LE.q (le_var 6 rfl)))) (LE.q (le_var 5 rfl)))) la_nil))) (LE.q le_c)))
      (ls_app rfl rfl (le_bin rs_mod nx_mod (LE.q (le_bin rs_fdiv nx_fdiv (LE.q (le_var 6 rfl)) (LE.q le_c))) (LE.q le_c)))))))))
      (ls_ret (le_cut (le_varQ 2 rfl (by decide)) lo_none (lo_some (le_var 1 rfl))))))
theorem lf__law_take : LF [.s, .c] .v F__law_take G__law_take := by
  unfold F__law_take G__law_take B__law_take
  exact lf_of (κ2 := []) rfl (ls_seq (ls_if (lt_b (le_bin rs_lt nx_lt (LE.q (le_ixC 1 rfl le_c)) (LE.q (le_bi (rl_len) (nx_len) (la_cons (LE.q (le_var 0 rfl)) la_nil))))) (ls_seq (ls_setIxC rfl le_c (le_bin rs_add nx_add (LE.q (le_ixC 1 rfl le_c)) (LE.q le_c)))
      (ls_ret (le_bin rs_ix nx_ix (LE.q (le_var 0 rfl)) (LE.q (le_bin rs_sub nx_sub (LE.q (le_ixC 1 rfl le_c)) (LE.q le_c)))))) ls_next)
      (ls_ret le_c))
theorem lf__law_machine : LF [.s, .c, .s, .s] .v F__law_machine G__law_machine_2 := by
  unfold F__law_machine G__law_machine_2 B__law_machine
  exact lf_of (κ2 := [.o, .s, .s, .s, .s]) rfl (ls_seq (ls_setO 4 rfl (le_lstN lv_nil))
      (ls_seq (ls_set 5 rfl (le_bin rs_mod nx_mod (LE.q (le_call lf__law_take (lr_s (le_var 0 rfl) (lr_c 1 rfl lr_nil)))) (LE.q le_c)))
      (ls_seq (ls_for (li_range1 (le_bin rs_mul nx_mul (LE.q (le_var 2 rfl)) (LE.q (le_var 3 rfl)))) rfl (ls_if (lt_b (le_bin rs_lt nx_lt (LE.q (le_var 6 rfl)) (LE.q le_c))) (ls_seq (ls_set 7 rfl (le_bin rs_add nx_add (LE.q (le_call lf__law_take (lr_s (le_var 0 rfl) (lr_c 1 rfl lr_nil)))) (LE.q (le_bin rs_mul nx_mul (LE.q le_c) (LE.q (le_bin rs_fdiv nx_fdiv (LE.q (le_var 6 rfl)) (LE.q le_c)))))))
      (ls_seq (ls_set 8 rfl (le_tup (lv_cons (le_bin rs_mod nx_mod (LE.q (le_var 7 rfl)) (LE.q (le_var 2 rfl))) (lv_cons (le_bin rs_ix nx_ix (LE.q (le_tup (lv_cons (le_un rs_neg nx_neg (LE.q le_c)) (lv_cons le_c lv_nil)))) (LE.q (le_bin rs_mod nx_mod (LE.q (le_bin rs_fdiv nx_fdiv (LE.q (le_var 7 rfl)) (LE.q le_c))) (LE.q le_c)))) (lv_cons (le_bin rs_mod nx_mod (LE.q (le_bin rs_fdiv nx_fdiv (LE.q (le_var 7 rfl)) (LE.q le_c))) (LE.q (le_var 3 rfl))) lv_nil)))))
      (ls_seq (ls_if (lt_and (lt_b (le_bin rs_eq nx_eq (LE.q (le_var 5 rfl)) (LE.q le_c))) (lt_b (le_bin rs_gt nx_gt (LE.q (le_var 6 rfl)) (LE.q le_c)))) (ls_set 8 rfl (le_tup (lv_cons (le_bin rs_mod nx_mod (LE.q (le_var 7 rfl)) (LE.q (le_var 2 rfl))) (lv_cons le_c (lv_cons (le_bin rs_mod nx_mod (LE.q (le_bin rs_fdiv nx_fdiv (LE.q (le_var 7 rfl)) (LE.q le_c))) (LE.q (le_var 3 rfl))) lv_nil))))) ls_next)
      (ls_seq (ls_if (lt_and (lt_b (le_bin rs_eq nx_eq (LE.q (le_bin rs_mod nx_mod (LE.q (le_bin rs_fdiv nx_fdiv (LE.q (le_var 7 rfl)) (LE.q le_c))) (LE.q le_c))) (LE.q le_c))) (lt_b (le_bin rs_ne nx_ne (LE.q (le_var 5 rfl)) (LE.q le_c)))) (ls_set 8 rfl le_c) ls_next)
      (ls_app rfl rfl (le_var 8 rfl)))))) ls_next))
      (ls_retZ 4 rfl))))
theorem lf__law_little : LF [.s, .c] .v F__law_little G__law_little := by
  unfold F__law_little G__law_little B__law_little
  exact lf_of (κ2 := [.s, .s]) rfl (ls_seq (ls_set 2 rfl (le_bin rs_add nx_add (LE.q le_c) (LE.q (le_bin rs_mod nx_mod (LE.q (le_call lf__law_take (lr_s (le_var 0 rfl) (lr_c 1 rfl lr_nil)))) (LE.q le_c)))))
      (ls_seq (ls_set 3 rfl (le_bin rs_add nx_add (LE.q le_c) (LE.q (le_bin rs_mod nx_mod (LE.q (le_call lf__law_take (lr_s (le_var 0 rfl) (lr_c 1 rfl lr_nil)))) (LE.q le_c)))))
      (ls_ret (le_tup (lv_cons (le_var 2 rfl) (lv_cons (le_var 3 rfl) (lv_cons (le_call lf__law_machine (lr_s (le_var 0 rfl) (lr_c 1 rfl (lr_s (le_var 2 rfl) (lr_s (le_var 3 rfl) lr_nil))))) lv_nil)))))))
theorem lf_is_integer : LF [.s, .s, .s] .v F_is_integer G_is_integer := by
  unfold F_is_integer G_is_integer B_is_integer
  exact lf_of (κ2 := []) rfl (ls_ret (le_and (le_bi (rl_isi) (nx_isi) (la_cons (LE.q (le_var 0 rfl)) (la_cons (LE.q le_c) la_nil))) (le_and (le_not (le_bi (rl_isi) (nx_isi) (la_cons (LE.q (le_var 0 rfl)) (la_cons (LE.q le_c) la_nil)))) (le_chain rs_le nx_le rs_le nx_le (LE.q (le_var 1 rfl)) (LE.q (le_var 0 rfl)) (LE.q (le_var 2 rfl))))))
theorem lf_Tape__is_row : LF [.f, .s] .v F_Tape__is_row G_Tape__is_row := by
  unfold F_Tape__is_row G_Tape__is_row B_Tape__is_row
  exact lf_of (κ2 := []) rfl (ls_seq (ls_if (lt_or (lt_not (lt_tru (LE.q (le_bi (rl_isi) (nx_isi) (la_cons (LE.q (le_var 1 rfl)) (la_cons (LE.q le_c) la_nil)))))) (lt_b (le_bin rs_ne nx_ne (LE.q (le_bi (rl_len) (nx_len) (la_cons (LE.q (le_var 1 rfl)) la_nil))) (LE.q le_c)))) (ls_ret le_c) ls_next)
      (ls_seq (ls_if (lt_or (lt_not (lt_tru (LE.q (le_call lf_is_integer (lr_s (le_bin rs_ix nx_ix (LE.q (le_var 1 rfl)) (LE.q le_c)) (lr_s (le_un rs_neg nx_neg (LE.q le_c)) (lr_s le_c lr_nil))))))) (lt_b (le_bin rs_eq nx_eq (LE.q (le_bin rs_ix nx_ix (LE.q (le_var 1 rfl)) (LE.q le_c))) (LE.q le_c)))) (ls_ret le_c) ls_next)
      (ls_ret (le_and (le_call lf_is_integer (lr_s (le_bin rs_ix nx_ix (LE.q (le_var 1 rfl)) (LE.q le_c)) (lr_s le_c (lr_s (le_bin rs_sub nx_sub (LE.q (le_attr (le_varQ 0 rfl (by decide)))) (LE.q le_c)) lr_nil)))) (le_call lf_is_integer (lr_s (le_bin rs_ix nx_ix (LE.q (le_var 1 rfl)) (LE.q le_c)) (lr_s le_c (lr_s (le_bin rs_sub nx_sub (LE.q (le_attr (le_varQ 0 rfl (by decide)))) (LE.q le_c)) lr_nil))))))))
theorem lf_Tape___init__ : LF [.p, .s, .s, .s] (.p 0) F_Tape___init__ G_Tape___init__ := by
  unfold F_Tape___init__ G_Tape___init__ B_Tape___init__
  exact lf_ofP (κ2 := [.s]) rfl rfl (ls_seq (ls_if (lt_or (lt_not (lt_tru (LE.q (le_call lf_is_integer (lr_s (le_var 1 rfl) (lr_s le_c (lr_s le_c lr_nil))))))) (lt_not (lt_tru (LE.q (le_call lf_is_integer (lr_s (le_var 2 rfl) (lr_s le_c (lr_s le_c lr_nil)))))))) ls_never ls_next)
      (ls_seq (ls_if (lt_b (le_bin rs_ne nx_ne (LE.q (le_bi (rl_len) (nx_len) (la_cons (LE.q (le_var 3 rfl)) la_nil))) (LE.q (le_bin rs_mul nx_mul (LE.q (le_var 1 rfl)) (LE.q (le_var 2 rfl)))))) ls_never ls_next)
      (ls_seq (ls_attr rfl rfl (le_var 1 rfl))
      (ls_seq (ls_attr rfl rfl (le_var 2 rfl))
      (ls_seq (ls_for (li_seq (le_var 3 rfl)) rfl (ls_if (lt_and (lt_b (le_bin rs_notN nx_notN (LE.q (le_var 4 rfl)) (LE.q le_c))) (lt_not (lt_tru (LE.q (le_meth lf_Tape__is_row (le_varQ 0 rfl (by decide)) (lr_s (le_var 4 rfl) lr_nil)))))) ls_never ls_next))
      (ls_attr rfl rfl (le_bi (rl_list) (nx_list) (la_cons (LE.q (le_var 3 rfl)) la_nil))))))))
theorem lf__law_trim : LF [.s] .v F__law_trim G__law_trim := by
  unfold F__law_trim G__law_trim B__law_trim
  exact lf_of (κ2 := [.s, .s]) rfl (ls_seq (ls_set 1 rfl (le_bi (rl_len) (nx_len) (la_cons (LE.q (le_lc (LI.le (li_range1 (le_bi (rl_len) (nx_len) (la_cons (LE.q (le_var 0 rfl)) la_nil)))) rfl rfl (lt_b (le_bin rs_gt nx_gt (LE.q (le_bi (rl_best max) (nx_best max) (la_cons (LE.q (le_bin rs_add nx_add (LE.q (le_tup (lv_cons le_c lv_nil))) (LE.q (le_cut (LE.q (le_var 0 rfl)) (lo_some (le_var 2 rfl)) lo_none)))) la_nil))) (LE.q le_c))) (le_var 2 rfl))) la_nil)))
      (ls_ret (le_cut (LE.q (le_var 0 rfl)) lo_none (lo_some (le_var 1 rfl)))))
theorem lf__law_side : LF [.s, .c, .s, .s] .v F__law_side G__law_side := by
  unfold F__law_side G__law_side B__law_side
  exact lf_of (κ2 := [.s, .s]) rfl (ls_seq (ls_set 4 rfl (le_tup lv_nil))
      (ls_seq (ls_for (li_range1 (le_bin rs_mod nx_mod (LE.q (le_call lf__law_take (lr_s (le_var 0 rfl) (lr_c 1 rfl lr_nil)))) (LE.q (le_bin rs_add nx_add (LE.q (le_var 3 rfl)) (LE.q le_c))))) rfl (ls_set 4 rfl (le_bin rs_add nx_add (LE.q (le_var 4 rfl)) (LE.q (le_tup (lv_cons (le_bin rs_mod nx_mod (LE.q (le_call lf__law_take (lr_s (le_var 0 rfl) (lr_c 1 rfl lr_nil)))) (LE.q (le_var 2 rfl))) lv_nil))))))
      (ls_ret (le_call lf__law_trim (lr_s (le_var 4 rfl) lr_nil)))))
theorem lf__law_configuration : LF [.s, .c, .s, .s, .s] .v F__law_configuration G__law_configuration_2 := by
  unfold F__law_configuration G__law_configuration_2 B__law_configuration
  exact lf_of (κ2 := [.s, .s]) rfl (ls_seq (ls_set 5 rfl (le_call lf__law_side (lr_s (le_var 0 rfl) (lr_c 1 rfl (lr_s (le_var 2 rfl) (lr_s (le_var 4 rfl) lr_nil))))))
      (ls_seq (ls_set 6 rfl (le_call lf__law_side (lr_s (le_var 0 rfl) (lr_c 1 rfl (lr_s (le_var 2 rfl) (lr_s (le_var 4 rfl) lr_nil))))))
      (ls_ret (le_tup (lv_cons (le_bin rs_mod nx_mod (LE.q (le_call lf__law_take (lr_s (le_var 0 rfl) (lr_c 1 rfl lr_nil)))) (LE.q (le_var 3 rfl))) (lv_cons (le_var 5 rfl) (lv_cons (le_bin rs_mod nx_mod (LE.q (le_call lf__law_take (lr_s (le_var 0 rfl) (lr_c 1 rfl lr_nil)))) (LE.q (le_var 2 rfl))) (lv_cons (le_var 6 rfl) lv_nil))))))))
theorem lf_Tape_row : LF [.f, .s, .s] .v F_Tape_row G_Tape_row := by
  unfold F_Tape_row G_Tape_row B_Tape_row
  exact lf_of (κ2 := []) rfl (ls_seq (ls_if (lt_or (lt_not (lt_tru (LE.q (le_call lf_is_integer (lr_s (le_var 1 rfl) (lr_s le_c (lr_s (le_bin rs_sub nx_sub (LE.q (le_attr (le_varQ 0 rfl (by decide)))) (LE.q le_c)) lr_nil))))))) (lt_not (lt_tru (LE.q (le_call lf_is_integer (lr_s (le_var 2 rfl) (lr_s le_c (lr_s (le_bin rs_sub nx_sub (LE.q (le_attr (le_varQ 0 rfl (by decide)))) (LE.q le_c)) lr_nil)))))))) ls_never ls_next)
      (ls_ret (le_bin rs_ix nx_ix (LE.q (le_attr (le_varQ 0 rfl (by decide)))) (LE.q (le_bin rs_add nx_add (LE.q (le_bin rs_mul nx_mul (LE.q (le_var 1 rfl)) (LE.q (le_attr (le_varQ 0 rfl (by decide)))))) (LE.q (le_var 2 rfl)))))))
theorem lf__places : LF [.s] .v F__places G__places := by
  unfold F__places G__places B__places
  exact lf_of (κ2 := [.o, .s, .s]) rfl (ls_seq (ls_setO 1 rfl (le_lstN lv_nil))
      (ls_seq (ls_for (li_range1 (le_attr (LE.q (le_var 0 rfl)))) rfl (ls_for (li_range1 (le_attr (LE.q (le_var 0 rfl)))) rfl (ls_if (lt_b (le_bin rs_notN nx_notN (LE.q (le_meth lf_Tape_row (LE.q (le_var 0 rfl)) (lr_s (le_var 2 rfl) (lr_s (le_var 3 rfl) lr_nil)))) (LE.q le_c))) (ls_app rfl rfl (le_tup (lv_cons (le_var 2 rfl) (lv_cons (le_var 3 rfl) lv_nil)))) ls_next)))
      (ls_retZ 1 rfl)))
theorem lf_clashes : LF [.s] .v F_clashes G_clashes := by
  unfold F_clashes G_clashes B_clashes
  exact lf_of (κ2 := [.s, .o, .s, .s, .s, .s, .s]) rfl (ls_seq (ls_set 1 rfl (le_call lf__places (lr_s (le_var 0 rfl) lr_nil)))
      (ls_seq (ls_setO 2 rfl (le_lstN lv_nil))
      (ls_seq (ls_for (li_enum (le_var 1 rfl)) rfl (ls_seq (ls_set 5 rfl (le_meth lf_Tape_row (LE.q (le_var 0 rfl)) (lr_s (le_bin rs_ix nx_ix (LE.q (le_var 4 rfl)) (LE.q le_c)) (lr_s (le_bin rs_ix nx_ix (LE.q (le_var 4 rfl)) (LE.q le_c)) lr_nil))))
      (ls_for (li_seq (le_cut (LE.q (le_var 1 rfl)) (lo_some (le_bin rs_add nx_add (LE.q (le_var 3 rfl)) (LE.q le_c))) lo_none)) rfl (ls_seq (ls_set 7 rfl (le_meth lf_Tape_row (LE.q (le_var 0 rfl)) (lr_s (le_bin rs_ix nx_ix (LE.q (le_var 6 rfl)) (LE.q le_c)) (lr_s (le_bin rs_ix nx_ix (LE.q (le_var 6 rfl)) (LE.q le_c)) lr_nil))))
      (ls_if (lt_and (lt_b (le_bin rs_eq nx_eq (LE.q (le_bin rs_ix nx_ix (LE.q (le_var 5 rfl)) (LE.q le_c))) (LE.q (le_bin rs_ix nx_ix (LE.q (le_var 7 rfl)) (LE.q le_c))))) (lt_or (lt_b (le_bin rs_ne nx_ne (LE.q (le_bin rs_ix nx_ix (LE.q (le_var 5 rfl)) (LE.q le_c))) (LE.q (le_bin rs_ix nx_ix (LE.q (le_var 7 rfl)) (LE.q le_c))))) (lt_b (le_bin rs_eq nx_eq (LE.q (le_bin rs_ix nx_ix (LE.q (le_var 5 rfl)) (LE.q le_c))) (LE.q (le_bin rs_ix nx_ix (LE.q (le_var 7 rfl)) (LE.q le_c))))))) (ls_app rfl rfl (le_tup (lv_cons (le_var 4 rfl) (lv_cons (le_var 6 rfl) lv_nil)))) ls_next)))))
      (ls_retZ 2 rfl))))
theorem lf_forgets : LF [.s] .v F_forgets G_forgets := by
  unfold F_forgets G_forgets B_forgets
  exact lf_of (κ2 := []) rfl (ls_ret (le_bin rs_gt nx_gt (LE.q (le_bi (rl_len) (nx_len) (la_cons (LE.q (le_call lf_clashes (lr_s (le_var 0 rfl) lr_nil))) la_nil))) (LE.q le_c)))
theorem lf__law_same : ∀ n, LF [.s, .s] .v (F__law_same n) (G__law_same n)
  | 0 => fun _ _ _ _ _ _ _ => trivial
  | n + 1 => by
    have ih := lf__law_same n
    rw [Fs__law_same, Gs__law_same]
    unfold H__law_same GH__law_same
    exact lf_of (κ2 := [.s]) rfl (ls_seq (ls_if (lt_tru (LE.q (le_bi (rl_isi) (nx_isi) (la_cons (LE.q (le_var 1 rfl)) (la_cons (LE.q le_c) la_nil))))) (ls_seq (ls_if (lt_or (lt_not (lt_tru (LE.q (le_bi (rl_isi) (nx_isi) (la_cons (LE.q (le_var 0 rfl)) (la_cons (LE.q le_c) la_nil)))))) (lt_b (le_bin rs_ne nx_ne (LE.q (le_bi (rl_len) (nx_len) (la_cons (LE.q (le_var 0 rfl)) la_nil))) (LE.q (le_bi (rl_len) (nx_len) (la_cons (LE.q (le_var 1 rfl)) la_nil)))))) (ls_ret le_c) ls_next)
      (ls_seq (ls_for (li_range1 (le_bi (rl_len) (nx_len) (la_cons (LE.q (le_var 1 rfl)) la_nil))) rfl (ls_if (lt_not (lt_tru (LE.q (le_call ih (lr_s (le_bin rs_ix nx_ix (LE.q (le_var 0 rfl)) (LE.q (le_var 2 rfl))) (lr_s (le_bin rs_ix nx_ix (LE.q (le_var 1 rfl)) (LE.q (le_var 2 rfl))) lr_nil)))))) (ls_ret le_c) ls_next))
      (ls_ret le_c))) ls_next)
      (ls_seq (ls_if (lt_b (le_bin rs_isN nx_isN (LE.q (le_var 1 rfl)) (LE.q le_c))) (ls_ret (le_bin rs_isN nx_isN (LE.q (le_var 0 rfl)) (LE.q le_c))) ls_next)
      (ls_seq (ls_if (lt_tru (LE.q (le_bi (rl_isi) (nx_isi) (la_cons (LE.q (le_var 1 rfl)) (la_cons (LE.q le_c) la_nil))))) (ls_ret (le_and (le_bi (rl_isi) (nx_isi) (la_cons (LE.q (le_var 0 rfl)) (la_cons (LE.q le_c) la_nil))) (le_bin rs_eq nx_eq (LE.q (le_var 0 rfl)) (LE.q (le_var 1 rfl))))) ls_next)
      (ls_ret (le_and (le_bi (rl_isi) (nx_isi) (la_cons (LE.q (le_var 0 rfl)) (la_cons (LE.q le_c) la_nil))) (le_and (le_not (le_bi (rl_isi) (nx_isi) (la_cons (LE.q (le_var 0 rfl)) (la_cons (LE.q le_c) la_nil)))) (le_bin rs_eq nx_eq (LE.q (le_var 0 rfl)) (LE.q (le_var 1 rfl)))))))))
theorem lf__law_step : LF [.s, .s, .s] .v F__law_step G__law_step_2 := by
  unfold F__law_step G__law_step_2 B__law_step
  exact lf_of (κ2 := [.s, .s, .s]) rfl (ls_seq (ls_set 3 rfl (le_bin rs_ix nx_ix (LE.q (le_var 0 rfl)) (LE.q (le_bin rs_add nx_add (LE.q (le_bin rs_mul nx_mul (LE.q (le_bin rs_ix nx_ix (LE.q (le_var 2 rfl)) (LE.q le_c))) (LE.q (le_var 1 rfl)))) (LE.q (le_bin rs_ix nx_ix (LE.q (le_var 2 rfl)) (LE.q le_c)))))))
      (ls_seq (ls_if (lt_b (le_bin rs_isN nx_isN (LE.q (le_var 3 rfl)) (LE.q le_c))) (ls_ret le_c) ls_next)
      (ls_seq (ls_set 4 rfl (le_bin rs_add nx_add (LE.q (le_bin rs_add nx_add (LE.q (le_un rs_tupRev nx_tupRev (LE.q (le_bin rs_ix nx_ix (LE.q (le_var 2 rfl)) (LE.q le_c))))) (LE.q (le_tup (lv_cons (le_bin rs_ix nx_ix (LE.q (le_var 3 rfl)) (LE.q le_c)) lv_nil))))) (LE.q (le_bin rs_ix nx_ix (LE.q (le_var 2 rfl)) (LE.q le_c)))))
      (ls_seq (ls_set 5 rfl (le_bin rs_add nx_add (LE.q (le_bi (rl_len) (nx_len) (la_cons (LE.q (le_bin rs_ix nx_ix (LE.q (le_var 2 rfl)) (LE.q le_c))) la_nil))) (LE.q (le_bin rs_ix nx_ix (LE.q (le_var 3 rfl)) (LE.q le_c)))))
      (ls_seq (ls_if (lt_b (le_bin rs_lt nx_lt (LE.q (le_var 5 rfl)) (LE.q le_c))) (ls_seq (ls_set 4 rfl (le_bin rs_add nx_add (LE.q (le_tup (lv_cons le_c lv_nil))) (LE.q (le_var 4 rfl))))
      (ls_set 5 rfl le_c)) ls_next)
      (ls_seq (ls_if (lt_b (le_bin rs_eq nx_eq (LE.q (le_var 5 rfl)) (LE.q (le_bi (rl_len) (nx_len) (la_cons (LE.q (le_var 4 rfl)) la_nil))))) (ls_set 4 rfl (le_bin rs_add nx_add (LE.q (le_var 4 rfl)) (LE.q (le_tup (lv_cons le_c lv_nil))))) ls_next)
      (ls_ret (le_tup (lv_cons (le_bin rs_ix nx_ix (LE.q (le_var 3 rfl)) (LE.q le_c)) (lv_cons (le_call lf__law_trim (lr_s (le_un rs_tupRev nx_tupRev (LE.q (le_cut (LE.q (le_var 4 rfl)) lo_none (lo_some (le_var 5 rfl))))) lr_nil)) (lv_cons (le_bin rs_ix nx_ix (LE.q (le_var 4 rfl)) (LE.q (le_var 5 rfl))) (lv_cons (le_call lf__law_trim (lr_s (le_cut (LE.q (le_var 4 rfl)) (lo_some (le_bin rs_add nx_add (LE.q (le_var 5 rfl)) (LE.q le_c))) lo_none) lr_nil)) lv_nil))))))))))))
theorem lf_trimmed : LF [.s] .v F_trimmed G_trimmed := by
  unfold F_trimmed G_trimmed B_trimmed
  exact lf_of (κ2 := [.s]) rfl (ls_seq (ls_set 1 rfl (le_bi (rl_len) (nx_len) (la_cons (LE.q (le_var 0 rfl)) la_nil)))
      (ls_seq (ls_while (lt_and (lt_b (le_bin rs_gt nx_gt (LE.q (le_var 1 rfl)) (LE.q le_c))) (lt_b (le_bin rs_eq nx_eq (LE.q (le_bin rs_ix nx_ix (LE.q (le_var 0 rfl)) (LE.q (le_bin rs_sub nx_sub (LE.q (le_var 1 rfl)) (LE.q le_c))))) (LE.q le_c)))) (ls_aug rs_sub nx_sub 1 rfl (LE.q le_c)))
      (ls_ret (le_bi (rl_tuple) (nx_tuple) (la_cons (LE.q (le_cut (LE.q (le_var 0 rfl)) lo_none (lo_some (le_var 1 rfl)))) la_nil)))))
theorem lf_Tape_step : LF [.f, .s] .v F_Tape_step G_Tape_step := by
  unfold F_Tape_step G_Tape_step B_Tape_step
  exact lf_of (κ2 := [.s, .s, .s, .s, .s, .s, .s, .s, .s]) rfl (ls_seq (ls_asg rfl (le_var 1 rfl))
      (ls_seq (ls_set 6 rfl (le_meth lf_Tape_row (le_varQ 0 rfl (by decide)) (lr_s (le_var 2 rfl) (lr_s (le_var 4 rfl) lr_nil))))
      (ls_seq (ls_if (lt_b (le_bin rs_isN nx_isN (LE.q (le_var 6 rfl)) (LE.q le_c))) (ls_ret le_c) ls_next)
      (ls_seq (ls_asg rfl (le_var 6 rfl))
      (ls_seq (ls_if (lt_b (le_bin rs_eq nx_eq (LE.q (le_var 8 rfl)) (LE.q le_c))) (ls_seq (ls_set 3 rfl (le_call lf_trimmed (lr_s (le_bin rs_add nx_add (LE.q (le_tup (lv_cons (le_var 7 rfl) lv_nil))) (LE.q (le_var 3 rfl))) lr_nil)))
      (ls_seq (ls_set 10 rfl (le_if (lt_tru (LE.q (le_var 5 rfl))) (le_bin rs_ix nx_ix (LE.q (le_var 5 rfl)) (LE.q le_c)) le_c))
      (ls_ret (le_tup (lv_cons (le_var 9 rfl) (lv_cons (le_var 3 rfl) (lv_cons (le_var 10 rfl) (lv_cons (le_cut (LE.q (le_var 5 rfl)) (lo_some le_c) lo_none) lv_nil)))))))) ls_next)
      (ls_seq (ls_set 5 rfl (le_call lf_trimmed (lr_s (le_bin rs_add nx_add (LE.q (le_tup (lv_cons (le_var 7 rfl) lv_nil))) (LE.q (le_var 5 rfl))) lr_nil)))
      (ls_seq (ls_set 10 rfl (le_if (lt_tru (LE.q (le_var 3 rfl))) (le_bin rs_ix nx_ix (LE.q (le_var 3 rfl)) (LE.q le_c)) le_c))
      (ls_ret (le_tup (lv_cons (le_var 9 rfl) (lv_cons (le_cut (LE.q (le_var 3 rfl)) (lo_some le_c) lo_none) (lv_cons (le_var 10 rfl) (lv_cons (le_var 5 rfl) lv_nil)))))))))))))
theorem lf_parted : LF [.s, .s, .s, .s] .v F_parted G_parted := by
  unfold F_parted G_parted B_parted
  exact lf_of (κ2 := [.s]) rfl (ls_seq (ls_for (li_range1 (le_bin rs_add nx_add (LE.q (le_var 3 rfl)) (LE.q le_c))) rfl (ls_seq (ls_if (lt_b (le_bin rs_eq nx_eq (LE.q (le_var 1 rfl)) (LE.q (le_var 2 rfl)))) (ls_ret (le_var 4 rfl)) ls_next)
      (ls_seq (ls_set 1 rfl (le_meth lf_Tape_step (LE.q (le_var 0 rfl)) (lr_s (le_var 1 rfl) lr_nil)))
      (ls_seq (ls_set 2 rfl (le_meth lf_Tape_step (LE.q (le_var 0 rfl)) (lr_s (le_var 2 rfl) lr_nil)))
      (ls_if (lt_or (lt_b (le_bin rs_isN nx_isN (LE.q (le_var 1 rfl)) (LE.q le_c))) (lt_b (le_bin rs_isN nx_isN (LE.q (le_var 2 rfl)) (LE.q le_c)))) (ls_ret (le_un rs_neg nx_neg (LE.q le_c))) ls_next)))))
      (ls_ret (le_un rs_neg nx_neg (LE.q le_c))))
theorem lf__taken_back : LF [.s, .s, .s] .v F__taken_back G__taken_back := by
  unfold F__taken_back G__taken_back B__taken_back
  exact lf_of (κ2 := [.s, .s, .s, .s, .s, .s, .s]) rfl (ls_seq (ls_asg rfl (le_var 0 rfl))
      (ls_seq (ls_asg rfl (le_var 2 rfl))
      (ls_seq (ls_if (lt_b (le_bin rs_eq nx_eq (LE.q (le_var 8 rfl)) (LE.q le_c))) (ls_seq (ls_if (lt_b (le_bin rs_ne nx_ne (LE.q (le_if (lt_tru (LE.q (le_var 4 rfl))) (le_bin rs_ix nx_ix (LE.q (le_var 4 rfl)) (LE.q le_c)) le_c)) (LE.q (le_var 7 rfl)))) (ls_ret le_c) ls_next)
      (ls_ret (le_tup (lv_cons (le_bin rs_ix nx_ix (LE.q (le_var 1 rfl)) (LE.q le_c)) (lv_cons (le_cut (LE.q (le_var 4 rfl)) (lo_some le_c) lo_none) (lv_cons (le_bin rs_ix nx_ix (LE.q (le_var 1 rfl)) (LE.q le_c)) (lv_cons (le_call lf_trimmed (lr_s (le_bin rs_add nx_add (LE.q (le_tup (lv_cons (le_var 5 rfl) lv_nil))) (LE.q (le_var 6 rfl))) lr_nil)) lv_nil))))))) ls_next)
      (ls_seq (ls_if (lt_b (le_bin rs_ne nx_ne (LE.q (le_if (lt_tru (LE.q (le_var 6 rfl))) (le_bin rs_ix nx_ix (LE.q (le_var 6 rfl)) (LE.q le_c)) le_c)) (LE.q (le_var 7 rfl)))) (ls_ret le_c) ls_next)
      (ls_ret (le_tup (lv_cons (le_bin rs_ix nx_ix (LE.q (le_var 1 rfl)) (LE.q le_c)) (lv_cons (le_call lf_trimmed (lr_s (le_bin rs_add nx_add (LE.q (le_tup (lv_cons (le_var 5 rfl) lv_nil))) (LE.q (le_var 4 rfl))) lr_nil)) (lv_cons (le_bin rs_ix nx_ix (LE.q (le_var 1 rfl)) (LE.q le_c)) (lv_cons (le_cut (LE.q (le_var 6 rfl)) (lo_some le_c) lo_none) lv_nil))))))))))
theorem lf_before : LF [.s, .s] .v F_before G_before_2 := by
  unfold F_before G_before_2 B_before
  exact lf_of (κ2 := [.o, .s, .s, .s]) rfl (ls_seq (ls_setO 2 rfl (le_lstN lv_nil))
      (ls_seq (ls_for (li_seq (le_call lf__places (lr_s (le_var 0 rfl) lr_nil))) rfl (ls_seq (ls_set 4 rfl (le_meth lf_Tape_row (LE.q (le_var 0 rfl)) (lr_s (le_bin rs_ix nx_ix (LE.q (le_var 3 rfl)) (LE.q le_c)) (lr_s (le_bin rs_ix nx_ix (LE.q (le_var 3 rfl)) (LE.q le_c)) lr_nil))))
      (ls_if (lt_b (le_bin rs_eq nx_eq (LE.q (le_bin rs_ix nx_ix (LE.q (le_var 4 rfl)) (LE.q le_c))) (LE.q (le_bin rs_ix nx_ix (LE.q (le_var 1 rfl)) (LE.q le_c))))) (ls_seq (ls_set 5 rfl (le_call lf__taken_back (lr_s (le_var 1 rfl) (lr_s (le_var 3 rfl) (lr_s (le_var 4 rfl) lr_nil)))))
      (ls_if (lt_b (le_bin rs_notN nx_notN (LE.q (le_var 5 rfl)) (LE.q le_c))) (ls_app rfl rfl (le_var 5 rfl)) ls_next)) ls_next)))
      (ls_ret (le_bi (rl_sortD) (nx_sortD) (la_cons (le_varQ 2 rfl (by decide)) la_nil)))))
theorem lf_lost : LF [.s, .s, .s] .v F_lost G_lost_2 := by
  unfold F_lost G_lost_2 B_lost
  exact lf_of (κ2 := [.s, .s, .o, .s]) rfl (ls_seq (ls_set 3 rfl (le_lst (lv_cons (le_var 1 rfl) lv_nil)))
      (ls_seq (ls_for (li_range1 (le_var 2 rfl)) rfl (ls_seq (ls_setO 5 rfl (le_lstN lv_nil))
      (ls_seq (ls_for (li_seq (le_var 3 rfl)) rfl (ls_ext rfl rfl (LE.q (le_call lf_before (lr_s (le_var 0 rfl) (lr_s (le_var 6 rfl) lr_nil))))))
      (ls_move 3 5 rfl rfl))))
      (ls_ret (le_bi (rl_len) (nx_len) (la_cons (LE.q (le_var 3 rfl)) la_nil)))))
theorem lf__law_back : LF [.s, .s, .s] .v F__law_back G__law_back := by
  unfold F__law_back G__law_back B__law_back
  exact lf_of (κ2 := [.o, .s, .s, .s]) rfl (ls_seq (ls_setO 3 rfl (le_lstN lv_nil))
      (ls_seq (ls_for (li_range1 (le_bi (rl_len) (nx_len) (la_cons (LE.q (le_var 0 rfl)) la_nil))) rfl (ls_if (lt_and (lt_b (le_bin rs_notN nx_notN (LE.q (le_bin rs_ix nx_ix (LE.q (le_var 0 rfl)) (LE.q (le_var 4 rfl)))) (LE.q le_c))) (lt_b (le_bin rs_eq nx_eq (LE.q (le_bin rs_ix nx_ix (LE.q (le_bin rs_ix nx_ix (LE.q (le_var 0 rfl)) (LE.q (le_var 4 rfl)))) (LE.q le_c))) (LE.q (le_bin rs_ix nx_ix (LE.q (le_var 2 rfl)) (LE.q le_c)))))) (ls_seq (ls_set 5 rfl (le_bin rs_add nx_add (LE.q (le_bin rs_add nx_add (LE.q (le_un rs_tupRev nx_tupRev (LE.q (le_bin rs_ix nx_ix (LE.q (le_var 2 rfl)) (LE.q le_c))))) (LE.q (le_tup (lv_cons (le_bin rs_ix nx_ix (LE.q (le_var 2 rfl)) (LE.q le_c)) lv_nil))))) (LE.q (le_bin rs_ix nx_ix (LE.q (le_var 2 rfl)) (LE.q le_c)))))
      (ls_seq (ls_set 6 rfl (le_bin rs_sub nx_sub (LE.q (le_bi (rl_len) (nx_len) (la_cons (LE.q (le_bin rs_ix nx_ix (LE.q (le_var 2 rfl)) (LE.q le_c))) la_nil))) (LE.q (le_bin rs_ix nx_ix (LE.q (le_bin rs_ix nx_ix (LE.q (le_var 0 rfl)) (LE.q (le_var 4 rfl)))) (LE.q le_c)))))
      (ls_seq (ls_if (lt_b (le_bin rs_lt nx_lt (LE.q (le_var 6 rfl)) (LE.q le_c))) (ls_seq (ls_set 5 rfl (le_bin rs_add nx_add (LE.q (le_tup (lv_cons le_c lv_nil))) (LE.q (le_var 5 rfl))))
      (ls_set 6 rfl le_c)) ls_next)
      (ls_seq (ls_if (lt_b (le_bin rs_eq nx_eq (LE.q (le_var 6 rfl)) (LE.q (le_bi (rl_len) (nx_len) (la_cons (LE.q (le_var 5 rfl)) la_nil))))) (ls_set 5 rfl (le_bin rs_add nx_add (LE.q (le_var 5 rfl)) (LE.q (le_tup (lv_cons le_c lv_nil))))) ls_next)
      (ls_if (lt_b (le_bin rs_eq nx_eq (LE.q (le_bin rs_ix nx_ix (LE.q (le_var 5 rfl)) (LE.q (le_var 6 rfl)))) (LE.q (le_bin rs_ix nx_ix (LE.q (le_bin rs_ix nx_ix (LE.q (le_var 0 rfl)) (LE.q (le_var 4 rfl)))) (LE.q le_c))))) (ls_seq (ls_set 5 rfl (le_bin rs_add nx_add (LE.q (le_bin rs_add nx_add (LE.q (le_cut (LE.q (le_var 5 rfl)) lo_none (lo_some (le_var 6 rfl)))) (LE.q (le_tup (lv_cons (le_bin rs_mod nx_mod (LE.q (le_var 4 rfl)) (LE.q (le_var 1 rfl))) lv_nil))))) (LE.q (le_cut (LE.q (le_var 5 rfl)) (lo_some (le_bin rs_add nx_add (LE.q (le_var 6 rfl)) (LE.q le_c))) lo_none))))
      (ls_app rfl rfl (le_tup (lv_cons (le_bin rs_fdiv nx_fdiv (LE.q (le_var 4 rfl)) (LE.q (le_var 1 rfl))) (lv_cons (le_call lf__law_trim (lr_s (le_un rs_tupRev nx_tupRev (LE.q (le_cut (LE.q (le_var 5 rfl)) lo_none (lo_some (le_var 6 rfl))))) lr_nil)) (lv_cons (le_bin rs_ix nx_ix (LE.q (le_var 5 rfl)) (LE.q (le_var 6 rfl))) (lv_cons (le_call lf__law_trim (lr_s (le_cut (LE.q (le_var 5 rfl)) (lo_some (le_bin rs_add nx_add (LE.q (le_var 6 rfl)) (LE.q le_c))) lo_none) lr_nil)) lv_nil))))))) ls_next))))) ls_next))
      (ls_retZ 3 rfl)))
theorem lf_law : LF [.s] .v F_law G_law_6 := by
  unfold F_law G_law_6 B_law
  exact lf_of (κ2 := [.s, .c, .s, .s, .s, .s, .s, .s, .s, .s, .s, .s, .s, .s]) rfl (ls_seq (ls_set 1 rfl (le_call lf__law_numbers (lr_s (le_var 0 rfl) (lr_s le_c lr_nil))))
      (ls_seq (ls_cell 2 rfl (le_lstN (lv_cons le_c lv_nil)))
      (ls_seq (ls_set 3 rfl (le_call lf__law_little (lr_s (le_var 1 rfl) (lr_c 2 rfl lr_nil))))
      (ls_seq (ls_set 4 rfl (le_frz (le_make lf_Tape___init__ (lr_s (le_bin rs_ix nx_ix (LE.q (le_var 3 rfl)) (LE.q le_c)) (lr_s (le_bin rs_ix nx_ix (LE.q (le_var 3 rfl)) (LE.q le_c)) (lr_s (le_bi (rl_list) (nx_list) (la_cons (LE.q (le_bin rs_ix nx_ix (LE.q (le_var 3 rfl)) (LE.q le_c))) la_nil)) lr_nil))))))
      (ls_seq (ls_set 5 rfl (le_call lf__law_configuration (lr_s (le_var 1 rfl) (lr_c 2 rfl (lr_s (le_bin rs_ix nx_ix (LE.q (le_var 3 rfl)) (LE.q le_c)) (lr_s (le_bin rs_ix nx_ix (LE.q (le_var 3 rfl)) (LE.q le_c)) (lr_s le_c lr_nil)))))))
      (ls_seq (ls_set 6 rfl (le_call lf__law_configuration (lr_s (le_var 1 rfl) (lr_c 2 rfl (lr_s (le_bin rs_ix nx_ix (LE.q (le_var 3 rfl)) (LE.q le_c)) (lr_s (le_bin rs_ix nx_ix (LE.q (le_var 3 rfl)) (LE.q le_c)) (lr_s le_c lr_nil)))))))
      (ls_seq (ls_set 7 rfl (le_bin rs_mod nx_mod (LE.q (le_call lf__law_take (lr_s (le_var 1 rfl) (lr_c 2 rfl lr_nil)))) (LE.q le_c)))
      (ls_seq (ls_if (lt_b (le_bin rs_ne nx_ne (LE.q (le_var 5 rfl)) (LE.q (le_var 6 rfl)))) (ls_seq (ls_set 8 rfl (le_un rs_neg nx_neg (LE.q le_c)))
      (ls_seq (ls_set 9 rfl (le_var 5 rfl))
      (ls_seq (ls_set 10 rfl (le_var 6 rfl))
      (ls_seq (ls_for (li_range2 le_c (le_bin rs_add nx_add (LE.q (le_var 7 rfl)) (LE.q le_c))) rfl (ls_if (lt_and (lt_b (le_bin rs_notN nx_notN (LE.q (le_var 9 rfl)) (LE.q le_c))) (lt_b (le_bin rs_notN nx_notN (LE.q (le_var 10 rfl)) (LE.q le_c)))) (ls_seq (ls_set 9 rfl (le_call lf__law_step (lr_s (le_bin rs_ix nx_ix (LE.q (le_var 3 rfl)) (LE.q le_c)) (lr_s (le_bin rs_ix nx_ix (LE.q (le_var 3 rfl)) (LE.q le_c)) (lr_s (le_var 9 rfl) lr_nil)))))
      (ls_seq (ls_set 10 rfl (le_call lf__law_step (lr_s (le_bin rs_ix nx_ix (LE.q (le_var 3 rfl)) (LE.q le_c)) (lr_s (le_bin rs_ix nx_ix (LE.q (le_var 3 rfl)) (LE.q le_c)) (lr_s (le_var 10 rfl) lr_nil)))))
      (ls_if (lt_and (lt_b (le_bin rs_notN nx_notN (LE.q (le_var 9 rfl)) (LE.q le_c))) (lt_and (lt_b (le_bin rs_eq nx_eq (LE.q (le_var 9 rfl)) (LE.q (le_var 10 rfl)))) (lt_b (le_bin rs_lt nx_lt (LE.q (le_var 8 rfl)) (LE.q le_c))))) (ls_set 8 rfl (le_var 11 rfl)) ls_next))) ls_next))
      (ls_if (lt_not (lt_tru (LE.q (le_call (lf__law_same 5) (lr_s (le_call lf_parted (lr_s (le_var 4 rfl) (lr_s (le_var 5 rfl) (lr_s (le_var 6 rfl) (lr_s (le_var 7 rfl) lr_nil))))) (lr_s (le_var 8 rfl) lr_nil)))))) (ls_ret le_c) ls_next))))) ls_next)
      (ls_seq (ls_set 12 rfl (le_lst (lv_cons (le_var 5 rfl) lv_nil)))
      (ls_seq (ls_for (li_range1 (le_bin rs_mod nx_mod (LE.q (le_var 7 rfl)) (LE.q le_c))) rfl (ls_seq (ls_if (lt_not (lt_tru (LE.q (le_call (lf__law_same 5) (lr_s (le_call lf_lost (lr_s (le_var 4 rfl) (lr_s (le_var 5 rfl) (lr_s (le_var 11 rfl) lr_nil)))) (lr_s (le_bi (rl_len) (nx_len) (la_cons (LE.q (le_var 12 rfl)) la_nil)) lr_nil)))))) (ls_ret le_c) ls_next)
      (ls_seq (ls_set 13 rfl (le_lst lv_nil))
      (ls_seq (ls_for (li_seq (le_var 12 rfl)) rfl (ls_set 13 rfl (le_bin rs_add nx_add (LE.q (le_var 13 rfl)) (LE.q (le_call lf__law_back (lr_s (le_bin rs_ix nx_ix (LE.q (le_var 3 rfl)) (LE.q le_c)) (lr_s (le_bin rs_ix nx_ix (LE.q (le_var 3 rfl)) (LE.q le_c)) (lr_s (le_var 14 rfl) lr_nil))))))))
      (ls_set 12 rfl (le_var 13 rfl))))))
      (ls_seq (ls_if (lt_not (lt_tru (LE.q (le_call lf_forgets (lr_s (le_var 4 rfl) lr_nil))))) (ls_seq (ls_set 12 rfl (le_lst (lv_cons (le_var 5 rfl) lv_nil)))
      (ls_seq (ls_for (li_range1 le_c) rfl (ls_seq (ls_set 13 rfl (le_lst lv_nil))
      (ls_seq (ls_for (li_seq (le_var 12 rfl)) rfl (ls_set 13 rfl (le_bin rs_add nx_add (LE.q (le_var 13 rfl)) (LE.q (le_call lf__law_back (lr_s (le_bin rs_ix nx_ix (LE.q (le_var 3 rfl)) (LE.q le_c)) (lr_s (le_bin rs_ix nx_ix (LE.q (le_var 3 rfl)) (LE.q le_c)) (lr_s (le_var 14 rfl) lr_nil))))))))
      (ls_set 12 rfl (le_var 13 rfl)))))
      (ls_ret (le_and (le_bin rs_lt nx_lt (LE.q (le_bi (rl_len) (nx_len) (la_cons (LE.q (le_var 12 rfl)) la_nil))) (LE.q le_c)) (le_bin rs_eq nx_eq (LE.q (le_call lf_lost (lr_s (le_var 4 rfl) (lr_s (le_var 5 rfl) (lr_s le_c lr_nil))))) (LE.q (le_bi (rl_len) (nx_len) (la_cons (LE.q (le_var 12 rfl)) la_nil)))))))) ls_next)
      (ls_ret le_c))))))))))))
end K82

/-! walks: tape.py -/
namespace BK
open PySem PySem.Spec L2 PM
theorem g_is_integer (x lo hi : Int) (S : Sto) : G_is_integer [.int x, .int lo, .int hi] S = .ok (.bl (decide (lo ≤ x) && decide (x ≤ hi))) S := by
  refine rn_eq ?_
  unfold G_is_integer
  rw [rn_runB]
  simp -dsimp
  by_cases h : lo ≤ x <;> simp [h] <;> omega
theorem at_two {α : Type} {a b : α} {i : Int} (h : i = 0 ∨ i = 1) : atI [a, b] i = some (if i = 0 then a else b) := by
  rcases h with rfl | rfl <;> simp
/-! data -/
structure Rw where
  (w mv t : Int)
def Rw.v (r : Rw) : Val := .tup [.int r.w, .int r.mv, .int r.t]
def orow : Option Rw → Val | none => .non | some r => r.v
def tapeV (m s : Int) (rows : List (Option Rw)) : Val := .ins 3 [.int m, .int s, .lst (rows.map orow)]
structure Cf where
  (q : Int) (l : List Int) (a : Int) (r : List Int)
def Cf.v (c : Cf) : Val := .tup [.int c.q, iv c.l, .int c.a, iv c.r]
/-- without the blanks at the end -/
def trim : List Int → List Int
  | [] => []
  | x :: xs => match trim xs with
    | [] => if x = 0 then [] else [x]
    | ys => x :: ys
@[simp] theorem orow_n : orow none = .non := nr
@[simp] theorem orow_s {r : Rw} : orow (some r) = r.v := nr
@[simp ↓] theorem notN_rw {r : Rw} {S : Sto} : vNotN r.v .non S = .ok (.bl true) S := nr
@[simp ↓] theorem isN_rw {r : Rw} {S : Sto} : vIsN r.v .non S = .ok (.bl false) S := nr
def Rw.ok (r : Rw) (m s : Int) : Prop := 0 ≤ r.w ∧ r.w < m ∧ (r.mv = 1 ∨ r.mv = -1) ∧ 0 ≤ r.t ∧ r.t < s
theorem g_is_row {r : Rw} {m s : Int} {vs : List Val} (h : r.ok m s) (S : Sto) : G_Tape__is_row [.ins 3 (.int m :: .int s :: vs), r.v] S = .ok (.bl true) S := by
  refine rn_eq ?_
  unfold G_Tape__is_row
  rw [rn_runB]
  obtain ⟨h1, h2, h3, h4, h5⟩ := h
  simp -dsimp [Rw.v, g_is_integer]
  rcases h3 with h3 | h3 <;> simp [h3, h1, h4] <;> omega
theorem g_tape_init {m s : Int} {rows : List (Option Rw)} (hm : 2 ≤ m) (hm8 : m ≤ 8) (hs : 1 ≤ s) (hs40 : s ≤ 40) (hl : (rows.length : Int) = m * s) (hr : ∀ r, some r ∈ rows → r.ok m s) (S : Sto) :
    G_Tape___init__ [.ins 3 [], .int m, .int s, .lst (rows.map orow)] S = .ok (.tup [.non, tapeV m s rows]) S := by
  refine rn_eq ?_
  unfold G_Tape___init__
  rw [rn_runBP]
  have c1 : -18446744073709551616 < s ∧ s < 18446744073709551616 := by omega
  simp -dsimp [g_is_integer, hm, hm8, hs, hs40, hl, c1]
  refine sn_forPM (f := orow) (I := fun _ ρ S' => (∃ x, ρ = [some (.ins 3 [.int m, .int s]), some (.int m), some (.int s), some (.lst (rows.map orow)), x]) ∧ S' = S) ⟨⟨_, rfl⟩, rfl⟩ ?_ ?_
  · rintro r rest ρ S' hmem ⟨⟨x, rfl⟩, rfl⟩
    refine ⟨_, tgt_name, ?_⟩
    cases r with
    | none => simp -dsimp
    | some r => simp -dsimp [g_is_row (hr r hmem)]
  · rintro ρ S' ⟨⟨x, rfl⟩, rfl⟩
    simp -dsimp
    rfl
theorem g_row {m s q a : Int} {rows : List (Option Rw)} {r : Option Rw} (hq : 0 ≤ q ∧ q < s) (ha : 0 ≤ a ∧ a < m) (hm : m ≤ 8) (hr : atI rows (q * m + a) = some r) (S : Sto) :
    G_Tape_row [tapeV m s rows, .int q, .int a] S = .ok (orow r) S := by
  refine rn_eq ?_
  unfold G_Tape_row
  rw [rn_runB]
  have c1 : -18446744073709551616 < m ∧ m < 18446744073709551616 := by omega
  simp -dsimp [tapeV, g_is_integer, hq.1, ha.1, c1, hr]
  exact ⟨by omega, by omega⟩
theorem trim_snoc0 : ∀ xs : List Int, trim (xs ++ [0]) = trim xs
  | [] => rfl
  | x :: xs => by simp only [List.cons_append, trim, trim_snoc0 xs]
theorem trim_snoc : ∀ (xs : List Int) {x : Int}, x ≠ 0 → trim (xs ++ [x]) = xs ++ [x]
  | [], x, h => by simp [trim, h]
  | y :: ys, x, h => by
    simp only [List.cons_append, trim, trim_snoc ys h]
    cases e : ys ++ [x] with
    | nil => simp at e
    | cons => rfl
theorem g_trimmed (xs : List Int) (hl : xs.length ≤ 100000) (S : Sto) : G_trimmed [iv xs] S = .ok (iv (trim xs)) S := by
  refine rn_eq ?_
  unfold G_trimmed
  rw [rn_runB]
  simp -dsimp
  refine sn_while (M := fun ρ _ => match ρ with | [_, some (.int n)] => n.toNat | _ => 0) (I := fun ρ S' => S' = S ∧ ∃ n : Nat, n ≤ xs.length ∧ ρ = [some (iv xs), some (.int n)] ∧ trim (xs.take n) = trim xs) ?_ ?_ ?_
  · rintro ρ S' ⟨rfl, n, hn, rfl, ht⟩
    cases n with
    | zero =>
      rw [List.take_zero] at ht
      simp -dsimp [← ht, trim]
      rw [← Int.ofNat_zero, cut_take]; rfl
    | succ n =>
      have hn' : n < xs.length := by omega
      have e1 : ((n + 1 : Nat) : Int) - 1 = (n : Int) := by omega
      have e2 : (0 : Int) < ((n + 1 : Nat) : Int) := by omega
      have e3 : xs.take (n + 1) = xs.take n ++ [xs[n]] := by rw [List.take_succ, List.getElem?_eq_getElem hn']; rfl
      simp -dsimp [e1, e2, atI_n, List.getElem?_eq_getElem hn']
      refine ⟨fun hz => ?_, fun hz => ?_⟩
      · refine ⟨n, by omega, rfl, ?_⟩
        rw [e3, hz, trim_snoc0] at ht; exact ht
      · rw [← ht, e3, trim_snoc _ hz]
  · exact ⟨rfl, xs.length, Nat.le_refl _, rfl, by rw [List.take_length]⟩
  · show ((xs.length : Int)).toNat < wMax; unfold wMax; omega
theorem trim_len : ∀ xs : List Int, (trim xs).length ≤ xs.length
  | [] => Nat.le_refl _
  | x :: xs => by
    have := trim_len xs
    unfold trim
    split
    · split <;> simp
    · rename_i h; simp only [List.length_cons]; omega
/-- the tape after a move -/
def goes (mv : Int) (l : List Int) (a : Int) (r : List Int) : List Int × Int × List Int :=
  if mv = 1 then (trim (a :: l), r.headD 0, r.tail) else (l.tail, l.headD 0, trim (a :: r))
def Rw.app (r : Rw) (c : Cf) : Cf := let g := goes r.mv c.l r.w c.r; ⟨r.t, g.1, g.2.1, g.2.2⟩
/-- the row of a state and a mark -/
def rowAt (m : Int) (rows : List (Option Rw)) (q a : Int) : Option Rw := (atI rows (q * m + a)).join
structure Tp where
  (m s : Int) (rows : List (Option Rw))
def Tp.v (T : Tp) : Val := tapeV T.m T.s T.rows
structure Tp.ok (T : Tp) : Prop where
  m2 : 2 ≤ T.m
  m8 : T.m ≤ 8
  s1 : 1 ≤ T.s
  s40 : T.s ≤ 40
  len : (T.rows.length : Int) = T.m * T.s
  rows : ∀ r, some r ∈ T.rows → r.ok T.m T.s
def Tp.row (T : Tp) (q a : Int) : Option Rw := rowAt T.m T.rows q a
def Tp.step (T : Tp) (c : Cf) : Option Cf := (T.row c.q c.a).map (·.app c)
/-- marks -/
def mks (m : Int) (l : List Int) : Prop := ∀ a ∈ l, 0 ≤ a ∧ a < m
structure Cf.ok (c : Cf) (T : Tp) : Prop where
  q : 0 ≤ c.q ∧ c.q < T.s
  a : 0 ≤ c.a ∧ c.a < T.m
  l : mks T.m c.l
  r : mks T.m c.r
theorem mul_lt {q m s a : Int} (hq : 0 ≤ q ∧ q < s) (ha : 0 ≤ a ∧ a < m) : 0 ≤ q * m + a ∧ q * m + a < m * s := by
  have h1 : 0 ≤ q * m := Int.mul_nonneg hq.1 (by omega)
  have h2 : q * m + m ≤ m * s := by
    have : (q + 1) * m ≤ s * m := Int.mul_le_mul_of_nonneg_right (by omega) (by omega)
    rw [Int.mul_comm m s]; rw [Int.add_mul] at this; omega
  omega
theorem Tp.ok.at_ {T : Tp} (h : T.ok) {q a : Int} (hq : 0 ≤ q ∧ q < T.s) (ha : 0 ≤ a ∧ a < T.m) : atI T.rows (q * T.m + a) = some (T.row q a) ∧ T.row q a ∈ T.rows := by
  obtain ⟨h1, h2⟩ := mul_lt hq ha
  have h3 := h.len
  obtain ⟨b, e, hb⟩ := atI_mem (l := T.rows) h1 (by omega)
  unfold Tp.row rowAt
  rw [e]; exact ⟨rfl, hb⟩
theorem Tp.ok.rok {T : Tp} (h : T.ok) {q a : Int} (hq : 0 ≤ q ∧ q < T.s) (ha : 0 ≤ a ∧ a < T.m) {r : Rw} (e : T.row q a = some r) : r.ok T.m T.s := h.rows r (e ▸ (h.at_ hq ha).2)
theorem g_row' {T : Tp} (h : T.ok) {q a : Int} (hq : 0 ≤ q ∧ q < T.s) (ha : 0 ≤ a ∧ a < T.m) (S : Sto) : G_Tape_row [T.v, .int q, .int a] S = .ok (orow (T.row q a)) S :=
  g_row hq ha h.m8 (h.at_ hq ha).1 S
@[simp] theorem insOf_tp {T : Tp} : insOf Z0 T.v = some (3, [.int T.m, .int T.s, .lst (T.rows.map orow)]) := nr
@[simp] theorem isInst_tp {T : Tp} {S : Sto} : isInst 3 S T.v = true := nr
theorem mks.tail {m : Int} {l : List Int} (h : mks m l) : mks m l.tail := fun a ha => h a (List.mem_of_mem_tail ha)
theorem mks.head {m : Int} {l : List Int} (h : mks m l) (hm : 0 < m) : 0 ≤ l.headD 0 ∧ l.headD 0 < m := by
  cases l with
  | nil => exact ⟨Int.le_refl _, hm⟩
  | cons a l => exact h a List.mem_cons_self
theorem trim_mem {a : Int} : ∀ {l : List Int}, a ∈ trim l → a ∈ l
  | [], h => by cases h
  | x :: xs, h => by
    unfold trim at h
    split at h
    · split at h
      · cases h
      · rw [List.mem_singleton.mp h]; exact List.mem_cons_self
    · rename_i q
      rcases List.mem_cons.mp h with rfl | h
      · exact List.mem_cons_self
      · exact List.mem_cons_of_mem _ (trim_mem h)
theorem mks.trim {m a : Int} {l : List Int} (h : mks m l) (ha : 0 ≤ a ∧ a < m) : mks m (trim (a :: l)) := fun b hb => by
  rcases List.mem_cons.mp (trim_mem hb) with rfl | hb
  · exact ha
  · exact h b hb
theorem Rw.app_ok {r : Rw} {c : Cf} {T : Tp} (hT : T.ok) (hr : r.ok T.m T.s) (h : c.ok T) : (r.app c).ok T := by
  obtain ⟨h1, h2, h3, h4, h5⟩ := hr
  have hm : 0 < T.m := by have := hT.m2; omega
  unfold Rw.app goes
  dsimp only
  split
  · exact ⟨⟨h4, h5⟩, h.r.head hm, h.l.trim ⟨h1, h2⟩, h.r.tail⟩
  · exact ⟨⟨h4, h5⟩, h.l.head hm, h.l.tail, h.r.trim ⟨h1, h2⟩⟩
theorem Tp.step_ok {T : Tp} {c d : Cf} (hT : T.ok) (h : c.ok T) (e : T.step c = some d) : d.ok T := by
  unfold Tp.step at e
  obtain ⟨r, e1, rfl⟩ := Option.map_eq_some_iff.mp e
  exact Rw.app_ok hT (hT.rok h.q h.a e1) h
/-- its size -/
def Cf.sz (c : Cf) (n : Nat) : Prop := c.l.length ≤ n ∧ c.r.length ≤ n
theorem goes_sz {mv a : Int} {l r : List Int} {n : Nat} (h : l.length ≤ n ∧ r.length ≤ n) : (goes mv l a r).1.length ≤ n + 1 ∧ (goes mv l a r).2.2.length ≤ n + 1 := by
  have h1 := trim_len (a :: l)
  have h2 := trim_len (a :: r)
  rw [List.length_cons] at h1 h2
  unfold goes
  split <;> simp only [List.length_tail] <;> omega
theorem Tp.step_sz {T : Tp} {c d : Cf} {n : Nat} (h : c.sz n) (e : T.step c = some d) : d.sz (n + 1) := by
  unfold Tp.step at e
  obtain ⟨r, e1, rfl⟩ := Option.map_eq_some_iff.mp e
  exact goes_sz h
theorem at_head {r : List Int} : atI (r ++ [0]) 0 = some (r.headD 0) := by
  cases r <;> simp
theorem hd_if {b : Bool} {r : List Int} : r = [] ∨ ∃ x xs, r = x :: xs := by cases r <;> simp
def ocf : Option Cf → Val | none => .non | some c => c.v
@[simp] theorem ocf_n : ocf none = .non := nr
@[simp] theorem ocf_s {c : Cf} : ocf (some c) = c.v := nr
@[simp ↓] theorem isN_ocf {c : Option Cf} {S : Sto} : vIsN (ocf c) .non S = .ok (.bl c.isNone) S := by cases c <;> exact nr
@[simp ↓] theorem notN_ocf {c : Option Cf} {S : Sto} : vNotN (ocf c) .non S = .ok (.bl c.isSome) S := by cases c <;> exact nr
@[simp ↓] theorem isN_cf {c : Cf} {S : Sto} : vIsN c.v .non S = .ok (.bl false) S := nr
@[simp ↓] theorem notN_cf {c : Cf} {S : Sto} : vNotN c.v .non S = .ok (.bl true) S := nr
@[simp ↓] theorem ix_cf0 {c : Cf} {S : Sto} : vIx c.v (.int 0) S = .ok (.int c.q) S := nr
@[simp ↓] theorem ix_cf1 {c : Cf} {S : Sto} : vIx c.v (.int 1) S = .ok (iv c.l) S := nr
@[simp ↓] theorem ix_cf2 {c : Cf} {S : Sto} : vIx c.v (.int 2) S = .ok (.int c.a) S := nr
@[simp ↓] theorem ix_cf3 {c : Cf} {S : Sto} : vIx c.v (.int 3) S = .ok (iv c.r) S := nr
@[simp ↓] theorem ix_rw0 {r : Rw} {S : Sto} : vIx r.v (.int 0) S = .ok (.int r.w) S := nr
@[simp ↓] theorem ix_rw1 {r : Rw} {S : Sto} : vIx r.v (.int 1) S = .ok (.int r.mv) S := nr
@[simp ↓] theorem ix_rw2 {r : Rw} {S : Sto} : vIx r.v (.int 2) S = .ok (.int r.t) S := nr
@[simp] theorem nc_cf {k : Nat} {c : Cf} : nc (k + 2) c.v = true := by unfold Cf.v; simp
@[simp] theorem nc_rw {k : Nat} {r : Rw} : nc (k + 1) r.v = true := by unfold Rw.v; simp
theorem cf_inj {c d : Cf} : c.v = d.v ↔ c = d := by
  constructor
  · intro h
    cases c; cases d
    unfold Cf.v at h
    simp at h
    obtain ⟨rfl, rfl, rfl, rfl⟩ := h; rfl
  · intro h; rw [h]
theorem g_step {T : Tp} (hT : T.ok) {c : Cf} (h : c.ok T) (hz : c.sz 1000) (S : Sto) : G_Tape_step [T.v, c.v] S = .ok (ocf (T.step c)) S := by
  refine rn_eq ?_
  unfold G_Tape_step
  rw [rn_runB]
  unfold Tp.step
  obtain ⟨l1, l2⟩ := hz
  simp -dsimp [Cf.v, Tgt.set, Tgt.sets, g_row' hT h.q h.a]
  cases e : T.row c.q c.a with
  | none => simp -dsimp
  | some r =>
    simp -dsimp (disch := first | assumption | omega | (simp only [List.length_cons, List.length_append, List.length_map, List.length_tail, List.length_reverse, List.length_nil, List.length_replicate, List.length_range]; omega)) [Rw.v, Tgt.set, Tgt.sets, g_trimmed]
    refine ⟨fun hm => ?_, fun hm => ?_⟩
    · rcases hl : c.r with _ | ⟨x, xs⟩ <;> simp -dsimp (disch := first | assumption | omega | (simp only [List.length_cons, List.length_append, List.length_map, List.length_tail, List.length_reverse, List.length_nil, List.length_replicate, List.length_range]; omega)) [hl, Rw.app, goes, hm, Cf.v]
    · rcases hl : c.l with _ | ⟨x, xs⟩ <;> simp -dsimp (disch := first | assumption | omega | (simp only [List.length_cons, List.length_append, List.length_map, List.length_tail, List.length_reverse, List.length_nil, List.length_replicate, List.length_range]; omega)) [hl, Rw.app, goes, hm, Cf.v]
def Cf.tr (c : Cf) : Prop := trim c.l = c.l ∧ trim c.r = c.r
end BK

/-! walks: what the laws k20 to k27 share -/
namespace BK
open PySem PySem.Spec L2 PM
def dOk (ds : List Int) : Prop := ∀ d ∈ ds, 0 ≤ d ∧ d < 65521
theorem dOk.app {ds : List Int} {d : Int} (h : dOk ds) (h1 : 0 ≤ d ∧ d < 65521) : dOk (ds ++ [d]) := fun z hz => by
  rcases List.mem_append.mp hz with q | q
  · exact h z q
  · rw [List.mem_singleton.mp q]; exact h1
theorem mod_ok (a b : Int) (h : 0 < b) (hb : b ≤ 65521) : 0 ≤ a % b ∧ a % b < 65521 := ⟨Int.emod_nonneg _ (by omega), Int.lt_of_lt_of_le (Int.emod_lt_of_pos _ h) hb⟩
def drI (ns : List Int) (m : Nat) (S0 : Sto) (b : Nat) (ρ : Ev) (S' : Sto) : Prop := S' = S0 ∧ ∃ (ds : List Int) (s : Int) (x4 x5 x6 : Option Val), ds.length ≤ b ∧ dOk ds ∧ 0 ≤ s ∧ s < 2147483647 ∧ ρ = [some (.fz (ns.map .int)), some (.int m), some (il ds), some (.int s), x4, x5, x6]
def drJ (ns : List Int) (m : Nat) (S0 : Sto) (s v : Int) (b : Nat) (ρ : Ev) (S' : Sto) : Prop := S' = S0 ∧ ∃ (ds : List Int) (x6 : Option Val) (w : Int), ds.length ≤ b ∧ dOk ds ∧ 0 ≤ w ∧ ρ = [some (.fz (ns.map .int)), some (.int m), some (il ds), some (.int s), some (.int v), some (.int w), x6]
def drK (ns : List Int) (m : Nat) (S0 : Sto) (i : Nat) (ρ : Ev) (S' : Sto) : Prop := S' = S0 ∧ ∃ (ds : List Int) (s : Int) (x4 x5 x6 : Option Val), (i ≤ ds.length ∨ m ≤ ds.length) ∧ ds.length ≤ 4000 + i ∧ dOk ds ∧ 0 ≤ s ∧ s < 2147483647 ∧ ρ = [some (.fz (ns.map .int)), some (.int m), some (il ds), some (.int s), x4, x5, x6]
theorem g_draws (ns : List Int) (hn : ns.length ≤ 63) (m : Nat) (hm : m ≤ 1000) (S0 : Sto) : ∃ ds, G__law_draws [.fz (ns.map .int), .int m] S0 = .ok (il ds) S0 ∧ ds.length = m ∧ dOk ds := by
  have : Rn (G__law_draws [.fz (ns.map .int), .int m] S0) (fun v S' => ∃ ds, v = il ds ∧ S' = S0 ∧ ds.length = m ∧ dOk ds) X0 := by
    unfold G__law_draws
    rw [rn_runB]
    simp -dsimp
    rw [show (63 : Int) = ((63 : Nat) : Int) from rfl, cut_take, List.take_of_length_le (by simpa using hn)]
    refine sn_forPM (f := Val.int) (I := fun r ρ S' => r.length ≤ ns.length ∧ drI ns m S0 (60 * (ns.length - r.length)) ρ S')
      ⟨Nat.le_refl _, rfl, [], 7, none, none, none, by simp, fun _ h => (nomatch h), by decide, by decide, rfl⟩ ?_ ?_
    · rintro v r ρ S' hv ⟨hr, e, ds, s, x4, x5, x6, hl, hd, hs, hs2, rfl⟩
      refine ⟨_, tgt_name, ?_⟩
      rw [List.length_cons] at hr hl
      have hle : r.length ≤ ns.length := by omega
      simp -dsimp [hle]
      generalize hw : (if v < 0 then -v else v) = w
      have hw0 : 0 ≤ w := by rw [← hw]; split <;> omega
      generalize hs' : (s * 48271 + w + 11) % 2147483647 = s'
      have h1 : 0 ≤ s' ∧ s' < 2147483647 := by omega
      refine ⟨fun hc => ?_, fun hc => ?_⟩
      · refine sn_forPR (I := fun i => drJ ns m S0 s' v (ds.length + i)) ⟨e, ds, x6, w, Nat.le_refl _, hd, hw0, rfl⟩ ?_ ?_
        · rintro i ρ S2 hi ⟨e2, ds', x6, w, hl2, hd2, hw, rfl⟩
          refine ⟨_, tgt_name, ?_⟩
          by_cases hc : 0 < w
          · simp -dsimp [hc, lst_snoc]
            exact ⟨by omega, e2, _, _, _, by simp; omega, hd2.app (mod_ok _ _ (by decide) (by decide)), by omega, rfl⟩
          · simp -dsimp [hc]
            exact ⟨e2, _, _, _, by omega, hd2, hw, rfl⟩
        · rintro ρ S2 ⟨e2, ds', x6, w, hl2, hd2, hw, rfl⟩
          simp -dsimp [hle]
          exact ⟨e2, _, _, _, _, _, by omega, hd2, h1.1, h1.2, rfl⟩
      · simp -dsimp [lst_snoc]
        exact ⟨by omega, e, _, _, _, _, _, by simp; omega, hd.app (mod_ok _ _ (by decide) (by decide)), h1.1, h1.2, rfl⟩
    · rintro ρ S' ⟨_, e, ds, s, x4, x5, x6, hl, hd, hs, hs2, rfl⟩
      simp at hl
      simp -dsimp
      refine ⟨by omega, ?_⟩
      refine sn_forPR (I := drK ns m S0) ⟨e, ds, s, x4, x5, x6, .inl (Nat.zero_le _), by omega, hd, hs, hs2, rfl⟩ ?_ ?_
      · rintro i ρ S2 hi ⟨e2, ds, s, x4, x5, x6, hl, hl2, hd, hs, hs2, rfl⟩
        refine ⟨_, tgt_name, ?_⟩
        by_cases hc : ds.length < m
        · simp -dsimp [hc, lst_snoc]
          exact ⟨by omega, e2, _, _, _, _, _, by simp; omega, by simp; omega, hd.app (mod_ok _ _ (by decide) (by decide)), by omega, by omega, rfl⟩
        · simp -dsimp [hc]
          exact ⟨e2, _, _, _, _, _, by omega, by omega, hd, hs, hs2, rfl⟩
      · rintro ρ S2 ⟨e2, ds, s, x4, x5, x6, hl, hl2, hd, hs, hs2, rfl⟩
        simp -dsimp [cut_take]
        exact ⟨e2, by omega, fun d h => hd d (List.mem_of_mem_take h)⟩
  obtain ⟨v, S', e, ds, rfl, rfl, q⟩ := this.get
  exact ⟨ds, e, q⟩
/-! reading draws -/
def ga (ds : List Int) (i : Int) : Int := (atI ds i).getD 0
theorem at_ga {ds : List Int} {i : Int} (h0 : 0 ≤ i) (h1 : i < ds.length) : atI ds i = some (ga ds i) := by
  obtain ⟨b, e, _⟩ := atI_mem h0 h1
  unfold ga; rw [e]; rfl
theorem ga_ok {ds : List Int} {i : Int} (h : dOk ds) : 0 ≤ ga ds i ∧ ga ds i < 65521 := by
  unfold ga
  cases e : atI ds i with
  | none => simp
  | some b =>
    unfold atI at e
    cases q : ixN ds.length i with
    | none => rw [q] at e; cases e
    | some j => rw [q] at e; exact h b (List.mem_of_getElem? e)
/-! the machine -/
def rowOf (m s d : Int) : Option Rw := if d / 40 % 4 = 0 then none else some ⟨d % m, if d / 4 % 2 = 0 then -1 else 1, d / 8 % s⟩
theorem rowOf_ok {m s d : Int} {r : Rw} (hm : 0 < m) (hs : 0 < s) (e : rowOf m s d = some r) : r.ok m s := by
  unfold rowOf at e
  split at e
  · cases e
  · cases e
    have h1 := Int.emod_nonneg d (show m ≠ 0 by omega)
    have h2 := Int.emod_lt_of_pos d hm
    have h3 := Int.emod_nonneg (d / 8) (show s ≠ 0 by omega)
    have h4 := Int.emod_lt_of_pos (d / 8) hs
    refine ⟨h1, h2, ?_, h3, h4⟩
    dsimp only
    split <;> simp
def rows1 (ds : List Int) (m s : Int) (n : Nat) : List (Option Rw) := (List.range n).map fun (k : Nat) => rowOf m s (ga ds k)
def lmI (ds : List Int) (m s : Int) (S0 : Sto) (i : Nat) (ρ : Ev) (S' : Sto) : Prop := S' = S0 ∧ ∃ x4 x5 x6, ρ = [some (il ds), some (.int m), some (.int s), some (.lst ((rows1 ds m s i).map orow)), x4, x5, x6]
theorem rows1_len {ds : List Int} {m s : Int} {n : Nat} : (rows1 ds m s n).length = n := by simp [rows1]
theorem g_law_machine {ds : List Int} {m s : Int} (hm : 0 < m) (hm4 : m ≤ 4) (hs : 0 < s) (hs4 : s ≤ 4) (hd : dOk ds) (hl : 16 ≤ ds.length) (S0 : Sto) :
    G__law_machine [il ds, .int m, .int s] S0 = .ok (.lst ((rows1 ds m s (m * s).toNat).map orow)) S0 := by
  have hms : m * s ≤ 16 := by
    have : m * s ≤ 4 * 4 := Int.mul_le_mul hm4 hs4 (by omega) (by omega)
    omega
  have hms0 : 0 < m * s := Int.mul_pos hm hs
  refine rn_eq ?_
  unfold G__law_machine
  rw [rn_runB]
  have c1 : -18446744073709551616 < s ∧ s < 18446744073709551616 := by omega
  simp -dsimp [c1]
  refine ⟨by omega, ?_⟩
  refine sn_forPR (I := lmI ds m s S0) ⟨rfl, _, _, _, rfl⟩ ?_ ?_
  · rintro i ρ S' hi ⟨e, x4, x5, x6, rfl⟩
    refine ⟨_, tgt_name, ?_⟩
    have hi2 : (i : Int) < ds.length := by omega
    have hg := ga_ok (i := (i : Int)) hd
    have hst : ((rows1 ds m s (i + 1)).map orow) = (rows1 ds m s i).map orow ++ [orow (rowOf m s (ga ds i))] := by simp [rows1, List.range_succ]
    have e2 : atI [Val.int (-1), Val.int 1] (ga ds i / 4 % 2) = some (.int (if ga ds i / 4 % 2 = 0 then -1 else 1)) := by
      rw [at_two (by omega)]; split <;> rfl
    have hlen : (rows1 ds m s i).length < 1000 := by rw [rows1_len]; omega
    by_cases hz : ga ds i / 40 % 4 = 0
    · simp -dsimp [at_ga (Int.natCast_nonneg i) hi2, hm, hs, e2, hz]
      exact ⟨by omega, e, _, _, _, by rw [hst]; simp [rowOf, hz]; exact ⟨rfl, rfl, rfl⟩⟩
    · simp -dsimp [at_ga (Int.natCast_nonneg i) hi2, hm, hs, e2, hz]
      exact ⟨by omega, e, _, _, _, by rw [hst]; simp [rowOf, hz]; exact ⟨rfl, rfl, rfl, rfl⟩⟩
  · rintro ρ S' ⟨e, x4, x5, x6, rfl⟩
    simp -dsimp
    exact e
/-! trimmed, the law's way -/
theorem at_last {α : Type} {xs : List α} {x : α} : atI (xs ++ [x]) (-1) = some x := by
  unfold atI ixN
  rw [if_neg (by decide), if_pos (by simp; omega)]
  have : (-1 + ((xs ++ [x]).length : Int)).toNat = xs.length := by simp; omega
  rw [this]; simp
def ltI (xs : List Int) (S0 : Sto) (i : Nat) (ρ : Ev) (S' : Sto) : Prop := S' = S0 ∧ ∃ ys x1, ρ = [some (iv ys), x1] ∧ trim ys = trim xs ∧ (ys.length + i ≤ xs.length ∨ trim ys = ys)
theorem g_law_trimmed (xs : List Int) (hl : xs.length ≤ 100000) (S0 : Sto) : G__law_trimmed [iv xs] S0 = .ok (iv (trim xs)) S0 := by
  refine rn_eq ?_
  unfold G__law_trimmed
  rw [rn_runB]
  simp -dsimp
  refine ⟨by omega, ?_⟩
  refine sn_forPR (I := ltI xs S0) ⟨rfl, xs, _, rfl, rfl, .inl (Nat.le_refl _)⟩ ?_ ?_
  · rintro i ρ S' hi ⟨e, ys, x1, rfl, h1, h2⟩
    refine ⟨_, tgt_name, ?_⟩
    rcases List.eq_nil_or_concat ys with rfl | ⟨zs, z, rfl⟩
    · simp -dsimp
      exact ⟨e, [], _, rfl, h1, .inr rfl⟩
    · have hpos : (0 : Int) < (zs.length : Int) + 1 := by omega
      simp -dsimp [at_last, cut_but]
      rw [List.concat_eq_append] at *
      refine ⟨fun hz => ?_, fun hz => ?_⟩
      · subst hz
        rw [trim_snoc0] at h1
        refine ⟨e, zs, _, rfl, h1, ?_⟩
        rcases h2 with h2 | h2
        · left; simp at h2; omega
        · exfalso
          rw [trim_snoc0] at h2
          have := congrArg List.length h2
          have h3 := trim_len zs
          simp at this; omega
      · exact ⟨e, _, _, rfl, h1, .inr (trim_snoc _ hz)⟩
  · rintro ρ S' ⟨e, ys, x1, rfl, h1, h2⟩
    simp -dsimp
    refine ⟨?_, e⟩
    rcases h2 with h2 | h2
    · have : ys = [] := List.eq_nil_of_length_eq_zero (by omega)
      subst this; exact h1
    · rw [← h1, h2]
theorem trim_trim : ∀ xs : List Int, trim (trim xs) = trim xs
  | [] => rfl
  | x :: xs => by
    have ih := trim_trim xs
    cases e : trim xs with
    | nil =>
      by_cases h : x = 0
      · simp [trim, e, h]
      · simp [trim, e, h]
    | cons y ys =>
      rw [e] at ih
      have : trim (x :: xs) = x :: y :: ys := by simp [trim, e]
      rw [this]
      show (match trim (y :: ys) with | [] => _ | zs => x :: zs) = _
      rw [ih]
/-! a configuration -/
def sideOf (ds : List Int) (m : Int) (a n : Nat) : List Int := (List.range n).map fun (k : Nat) => ga ds (a + k) % m
def cfOf (ds : List Int) (m s : Int) (most : Nat) : Cf := ⟨ga ds 9 % s, trim (sideOf ds m 1 (ga ds 0 % (most + 1)).toNat), ga ds 10 % m, trim (sideOf ds m 5 (ga ds 0 / 7 % (most + 1)).toNat)⟩
theorem side_ok {ds : List Int} {m : Int} {a n : Nat} (hm : 0 < m) : mks m (sideOf ds m a n) := fun x hx => by
  obtain ⟨k, _, rfl⟩ := List.mem_map.mp hx
  exact ⟨Int.emod_nonneg _ (by omega), Int.emod_lt_of_pos _ hm⟩
theorem mks.trim' {m : Int} {l : List Int} (h : mks m l) : mks m (BK.trim l) := fun b hb => h b (trim_mem hb)
theorem g_law_configuration {ds : List Int} {m s : Int} {most : Nat} (hm : 0 < m) (hs : 0 < s) (hd : dOk ds) (hmost : most ≤ 3) (hl : 11 ≤ ds.length) (S0 : Sto) :
    G__law_configuration [il ds, .int m, .int s, .int most] S0 = .ok (cfOf ds m s most).v S0 := by
  refine rn_eq ?_
  unfold G__law_configuration
  rw [rn_runB]
  have g0 := ga_ok (i := 0) hd
  have a0 : atI ds 0 = some (ga ds 0) := at_ga (by decide) (by omega)
  have a9 : atI ds 9 = some (ga ds 9) := at_ga (by decide) (by omega)
  have a10 : atI ds 10 = some (ga ds 10) := at_ga (by decide) (by omega)
  have hmp : (0 : Int) < most + 1 := by omega
  have lc : ∀ (a : Nat) (e : IP) (x4 x5 : Option Val) (n : Nat), n ≤ 4 → a ≤ 5 → (∀ S, e [some (il ds), some (.int m), some (.int s), some (.int most), x4, x5, none] S = .ok (rangeL 0 n) S) →
      eLcP e (.name 6) tYesM (eBinP vMod (eBIP vInt (aCons (eBinP vIx (eVar 0) (eBinP (vAdd false) (eC (.int (a : Nat))) (eVar 6))) aNil)) (eVar 1)) [6] [some (il ds), some (.int m), some (.int s), some (.int most), x4, x5, none] S0 = .ok (il (sideOf ds m a n)) S0 := by
    intro a e x4 x5 n hn ha he
    rw [eLcP_map (f := fun (i : Nat) => Val.int (0 + (i : Int))) (g := fun (k : Nat) => Val.int (ga ds (a + k) % m)) (xs := List.range n) (he S0) (by simp; omega) fun k hk => ⟨_, tgt_name, rn_eq ?_⟩]
    · unfold il sideOf; rw [List.map_map]; rfl
    · have := List.mem_range.mp hk
      have ak : atI ds ((a : Int) + (k : Int)) = some (ga ds (a + k)) := at_ga (by omega) (by omega)
      simp -dsimp [wipeE, ak, hm]
  have q1 := Int.emod_nonneg (ga ds 0) (show (most : Int) + 1 ≠ 0 by omega)
  have q2 := Int.emod_lt_of_pos (ga ds 0) hmp
  have q3 := Int.emod_nonneg (ga ds 0 / 7) (show (most : Int) + 1 ≠ 0 by omega)
  have q4 := Int.emod_lt_of_pos (ga ds 0 / 7) hmp
  have i1 := lc 1 (iRange1P (eBinP vMod (eBIP vInt (aCons (eBinP vIx (eVar 0) (eC (.int 0))) aNil)) (eBinP (vAdd false) (eVar 3) (eC (.int 1))))) none none (ga ds 0 % (most + 1)).toNat (by omega) (by decide) fun S => rn_eq (by simp -dsimp [a0, hmp]; omega)
  have i2 := lc 5 (iRange1P (eBinP vMod (eBIP vInt (aCons (eBinP vFdiv (eBinP vIx (eVar 0) (eC (.int 0))) (eC (.int 7))) aNil)) (eBinP (vAdd false) (eVar 3) (eC (.int 1))))) (some (iv (sideOf ds m 1 (ga ds 0 % (most + 1)).toNat))) none (ga ds 0 / 7 % (most + 1)).toNat (by omega) (by decide) fun S => rn_eq (by simp -dsimp [a0, hmp]; omega)
  have l1 : (sideOf ds m 1 (ga ds 0 % (most + 1)).toNat).length ≤ 100000 := by simp [sideOf]; omega
  have l2 : (sideOf ds m 5 (ga ds 0 / 7 % (most + 1)).toNat).length ≤ 100000 := by simp [sideOf]; omega
  simp -dsimp
  refine rn_is i1 ?_
  simp -dsimp
  refine rn_is i2 ?_
  simp -dsimp [a9, a10, hm, hs, g_law_trimmed _ l1, g_law_trimmed _ l2]
  rfl
/-! a step, the law's way -/
theorem g_law_step {T : Tp} (hT : T.ok) {c : Cf} (h : c.ok T) (hz : c.sz 1000) (S : Sto) : G__law_step [.lst (T.rows.map orow), .int T.m, c.v] S = .ok (ocf (T.step c)) S := by
  refine rn_eq ?_
  unfold G__law_step
  rw [rn_runB]
  unfold Tp.step
  obtain ⟨l1, l2⟩ := hz
  have m8 := hT.m8
  have m2 := hT.m2
  have c1 : -18446744073709551616 < T.m ∧ T.m < 18446744073709551616 := by omega
  have hx := (hT.at_ h.q h.a).1
  simp -dsimp [Cf.v, Tgt.set, Tgt.sets, c1, hx]
  cases e : T.row c.q c.a with
  | none => simp -dsimp
  | some r =>
    simp -dsimp (disch := first | assumption | omega | (simp only [List.length_cons, List.length_append, List.length_map, List.length_tail, List.length_reverse, List.length_nil, List.length_replicate, List.length_range]; omega)) [g_law_trimmed, at_head]
    refine ⟨fun hm => ?_, fun hm => ?_⟩
    · simp [Rw.app, goes, hm, Cf.v]
    · simp [Rw.app, goes, hm, Cf.v]
end BK

/-! walks and the plain law: k23 -/
namespace BK
open PySem PySem.Spec L2 PM
def ref1 : Val := .tup [.str "refused"]
/-- the configuration before, by the row of a state and a mark -/
def Tp.undo (T : Tp) (c : Cf) (q a : Int) : Option Cf := match T.row q a with
  | none => none
  | some r => if r.t = c.q then (let g := goes (-r.mv) c.l c.a c.r; if g.2.1 = r.w then some ⟨q, g.1, a, g.2.2⟩ else none) else none
def tapV (g : List Int × Int × List Int) : Val := .tup [iv g.1, .int g.2.1, iv g.2.2]
theorem g_moved {l r : List Int} {a mv : Int} (hl : l.length ≤ 1000) (hr : r.length ≤ 1000) (h : mv = 1 ∨ mv = -1) (S : Sto) : G_moved [.tup [iv l, .int a, iv r], .int mv] S = .ok (tapV (goes mv l a r)) S := by
  refine rn_eq ?_
  unfold G_moved
  rw [rn_runB]
  simp -dsimp [Tgt.set, Tgt.sets]
  rcases h with rfl | rfl
  · simp -dsimp (disch := first | assumption | omega | (simp only [List.length_cons, List.length_append, List.length_map, List.length_tail, List.length_reverse, List.length_nil, List.length_replicate, List.length_range]; omega)) [g_trimmed]
    rcases r with _ | ⟨x, xs⟩ <;> simp -dsimp (disch := first | assumption | omega | (simp only [List.length_cons, List.length_append, List.length_map, List.length_tail, List.length_reverse, List.length_nil, List.length_replicate, List.length_range]; omega)) [goes, tapV, g_trimmed]
  · simp -dsimp (disch := first | assumption | omega | (simp only [List.length_cons, List.length_append, List.length_map, List.length_tail, List.length_reverse, List.length_nil, List.length_replicate, List.length_range]; omega)) [g_trimmed]
    rcases l with _ | ⟨x, xs⟩ <;> simp -dsimp (disch := first | assumption | omega | (simp only [List.length_cons, List.length_append, List.length_map, List.length_tail, List.length_reverse, List.length_nil, List.length_replicate, List.length_range]; omega)) [goes, tapV, g_trimmed]
theorem g_undone {T : Tp} (hT : T.ok) {c : Cf} (hz : c.sz 1000) {q a : Int} (hq : 0 ≤ q ∧ q < T.s) (ha : 0 ≤ a ∧ a < T.m) (S : Sto) :
    G_undone [T.v, c.v, .tup [.int q, .int a]] S = (match T.undo c q a with | some d => .ok d.v S | none => .ex 8 [] S) := by
  obtain ⟨l1, l2⟩ := hz
  unfold Tp.undo
  have key : ∀ {P : Val → Sto → Prop} {X : XP}, (match T.row q a with
      | none => X 8 [] S
      | some r => if r.t = c.q then (if (goes (-r.mv) c.l c.a c.r).2.1 = r.w then P (Cf.v ⟨q, (goes (-r.mv) c.l c.a c.r).1, a, (goes (-r.mv) c.l c.a c.r).2.2⟩) S else X 8 [] S) else X 8 [] S) → Rn (G_undone [T.v, c.v, .tup [.int q, .int a]] S) P X := by
    intro P X h
    unfold G_undone
    rw [rn_runB]
    simp -dsimp [Cf.v, Tgt.set, Tgt.sets, g_row' hT hq ha]
    cases e : T.row q a with
    | none => rw [e] at h; simp -dsimp; exact h
    | some r =>
      rw [e] at h
      dsimp only at h
      have hmv : -r.mv = 1 ∨ -r.mv = -1 := by
        obtain ⟨_, _, h3, _⟩ := hT.rok hq ha e
        omega
      by_cases h1 : r.t = c.q
      · rw [if_pos h1] at h
        simp -dsimp [h1, g_moved l1 l2 hmv]
        by_cases h2 : (goes (-r.mv) c.l c.a c.r).2.1 = r.w
        · rw [if_pos h2] at h
          simp -dsimp [tapV, h2]
          exact h
        · rw [if_neg h2] at h
          simp -dsimp [tapV, h2]
          exact h
      · rw [if_neg h1] at h
        simp -dsimp [h1]
        exact h
  cases e : T.row q a with
  | none => exact rn_eqx (key (by rw [e]; exact ⟨rfl, rfl, rfl⟩))
  | some r =>
    dsimp only
    by_cases h1 : r.t = c.q
    · rw [if_pos h1]
      by_cases h2 : (goes (-r.mv) c.l c.a c.r).2.1 = r.w
      · rw [if_pos h2]; exact rn_eq (key (by rw [e]; dsimp only; rw [if_pos h1, if_pos h2]; exact ⟨rfl, rfl⟩))
      · rw [if_neg h2]; exact rn_eqx (key (by rw [e]; dsimp only; rw [if_pos h1, if_neg h2]; exact ⟨rfl, rfl, rfl⟩))
    · rw [if_neg h1]; exact rn_eqx (key (by rw [e]; dsimp only; rw [if_neg h1]; exact ⟨rfl, rfl, rfl⟩))
/-- .. the law's way -/
def oref : Option Cf → Val | none => ref1 | some c => c.v
theorem g_law_before {T : Tp} (hT : T.ok) {c : Cf} (hz : c.sz 1000) {q a : Int} (hq : 0 ≤ q ∧ q < T.s) (ha : 0 ≤ a ∧ a < T.m) (S : Sto) :
    G__law_before [.lst (T.rows.map orow), .int T.m, c.v, .tup [.int q, .int a]] S = .ok (oref (T.undo c q a)) S := by
  obtain ⟨l1, l2⟩ := hz
  refine rn_eq ?_
  unfold G__law_before
  rw [rn_runB]
  have m8 := hT.m8
  have m2 := hT.m2
  have c1 : -18446744073709551616 < T.m ∧ T.m < 18446744073709551616 := by omega
  have hx := (hT.at_ hq ha).1
  unfold Tp.undo
  simp -dsimp [Cf.v, Tgt.set, Tgt.sets, c1, hx]
  cases e : T.row q a with
  | none => simp -dsimp; rfl
  | some r =>
    obtain ⟨_, _, h3, _⟩ := hT.rok hq ha e
    by_cases h1 : r.t = c.q
    · rcases h3 with h3 | h3
      · simp -dsimp (disch := first | assumption | omega | (simp only [List.length_cons, List.length_append, List.length_map, List.length_tail, List.length_reverse, List.length_nil, List.length_replicate, List.length_range]; omega)) [h1, h3, g_law_trimmed, at_head, goes, oref, ref1]
        refine ⟨fun h => ?_, fun h => ?_⟩
        · rw [if_neg (by simpa using h)]
        · rw [if_pos (by simpa using h)]; rfl
      · simp -dsimp (disch := first | assumption | omega | (simp only [List.length_cons, List.length_append, List.length_map, List.length_tail, List.length_reverse, List.length_nil, List.length_replicate, List.length_range]; omega)) [h1, h3, g_law_trimmed, at_head, goes, oref, ref1]
        refine ⟨fun h => ?_, fun h => ?_⟩
        · rw [if_neg (by simpa using h)]
        · rw [if_pos (by simpa using h)]; rfl
    · simp -dsimp [h1]; rfl
/-! going back pair by pair -/
def pv (p : Int × Int) : Val := .tup [.int p.1, .int p.2]
def Tp.chain (T : Tp) : Cf → List (Int × Int) → Option (List Cf)
  | c, [] => some [c]
  | c, p :: ps => match T.undo c p.1 p.2 with
    | none => none
    | some d => (T.chain d ps).map (c :: ·)
theorem chain_n {T : Tp} {c : Cf} {p : Int × Int} {ps : List (Int × Int)} (e : T.undo c p.1 p.2 = none) : T.chain c (p :: ps) = none := by
  show (match T.undo c p.1 p.2 with | none => none | some d => (T.chain d ps).map (c :: ·)) = none
  rw [e]
theorem chain_s {T : Tp} {c d : Cf} {p : Int × Int} {ps : List (Int × Int)} (e : T.undo c p.1 p.2 = some d) : T.chain c (p :: ps) = (T.chain d ps).map (c :: ·) := by
  show (match T.undo c p.1 p.2 with | none => none | some d => (T.chain d ps).map (c :: ·)) = _
  rw [e]
def pok (T : Tp) (p : Int × Int) : Prop := (0 ≤ p.1 ∧ p.1 < T.s) ∧ (0 ≤ p.2 ∧ p.2 < T.m)
theorem undo_sz {T : Tp} {c d : Cf} {q a : Int} {n : Nat} (h : c.sz n) (e : T.undo c q a = some d) : d.sz (n + 1) := by
  unfold Tp.undo at e
  split at e
  · cases e
  · split at e
    · dsimp only at e
      split at e
      · cases e; exact goes_sz h
      · cases e
    · cases e
/-- what trail hands out: the configurations, or BadPast -/
def cfs (l : List Cf) : Val := .lst (l.map Cf.v)
def trI (k : Nat) (T : Tp) (c : Cf) (past : List (Int × Int)) (S0 : Sto) (r : List (Int × Int)) (ρ : Ev) (S' : Sto) : Prop := S' = S0 ∧ ∃ (fs : List Cf) (d : Cf) (x4 : Option Val), ρ = [some T.v, some c.v, some (.tup (past.map pv)), some (cfs (fs ++ [d])), x4] ∧ d.sz (past.length - r.length + k) ∧ r.length ≤ past.length ∧ fs.length + r.length ≤ past.length ∧
  T.chain c past.reverse = (T.chain d r).map (fs ++ ·)
theorem g_trail {T : Tp} (hT : T.ok) {c : Cf} {k : Nat} (hk : k ≤ 100) (hz : c.sz k) {past : List (Int × Int)} (hp : ∀ p ∈ past, pok T p) (hl : past.length ≤ 100) (S0 : Sto) :
    G_trail [T.v, c.v, .tup (past.map pv)] S0 = (match T.chain c past.reverse with | some l => .ok (cfs l.reverse) S0 | none => .ex 8 [] S0) := by
  have key : ∀ {P : Val → Sto → Prop} {X : XP}, (∀ l, T.chain c past.reverse = some l → P (cfs l.reverse) S0) → (T.chain c past.reverse = none → X 8 [] S0) → Rn (G_trail [T.v, c.v, .tup (past.map pv)] S0) P X := by
    intro P X h1 h2
    unfold G_trail
    rw [rn_runB]
    simp -dsimp
    rw [← List.map_reverse]
    refine sn_forPM (f := pv) (I := trI k T c past S0) ⟨rfl, [], c, _, rfl, by simpa using hz, by simp, by simp, by simp⟩ ?_ ?_
    · rintro p r ρ S' hpm ⟨e, fs, d, x4, rfl, hd, hr, hlen, hc⟩
      refine ⟨_, tgt_name, ?_⟩
      subst e
      have hpo := hp p (List.mem_reverse.mp hpm)
      rw [List.length_cons] at hr hlen hd
      have hd' : d.sz 1000 := ⟨by have := hd.1; omega, by have := hd.2; omega⟩
      have hu := g_undone hT hd' hpo.1 hpo.2 S'
      have el : atI (fs.map Cf.v ++ [d.v]) (-1) = some d.v := at_last
      cases e : T.undo d p.1 p.2 with
      | none =>
        rw [e] at hu
        rw [chain_n e] at hc
        simp -dsimp [cfs, el, pv, hu]
        exact h2 hc
      | some d2 =>
        rw [e] at hu
        rw [chain_s e] at hc
        simp -dsimp [cfs, el, pv, hu]
        refine ⟨by omega, rfl, fs ++ [d], d2, some (pv p), by simp [cfs, pv], ?_, by omega, by simp; omega, ?_⟩
        · have := undo_sz hd e
          rwa [show past.length - (r.length + 1) + k + 1 = past.length - r.length + k by omega] at this
        · rw [hc]
          cases T.chain d2 r <;> simp
    · rintro ρ S' ⟨e, fs, d, x4, rfl, hd, hr, hlen, hc⟩
      subst e
      simp -dsimp [cfs]
      have := h1 (fs ++ [d]) (by rw [hc]; rfl)
      simpa [cfs] using this
  cases e : T.chain c past.reverse with
  | some l => exact rn_eq (key (fun l' h => by rw [e] at h; cases h; exact ⟨rfl, rfl⟩) (fun h => by rw [e] at h; cases h))
  | none => exact rn_eqx (key (fun l' h => by rw [e] at h; cases h) (fun h => ⟨rfl, rfl, rfl⟩))
def ltrI (k : Nat) (T : Tp) (c : Cf) (past : List (Int × Int)) (S0 : Sto) (r : List (Int × Int)) (ρ : Ev) (S' : Sto) : Prop := S' = S0 ∧ ∃ (fs : List Cf) (d : Cf) (x5 x6 : Option Val), ρ = [some (.lst (T.rows.map orow)), some (.int T.m), some c.v, some (.tup (past.map pv)), some (cfs (d :: fs.reverse)), x5, x6] ∧ d.sz (past.length - r.length + k) ∧ r.length ≤ past.length ∧ fs.length + r.length ≤ past.length ∧
  T.chain c past.reverse = (T.chain d r).map (fs ++ ·)
theorem fl_ref : nc 60 ref1 = true := by unfold ref1; decide +kernel
theorem cf_ref {c : Cf} : c.v ≠ ref1 := by unfold Cf.v ref1; intro h; cases h
theorem g_law_trail {T : Tp} (hT : T.ok) {c : Cf} {k : Nat} (hk : k ≤ 100) (hz : c.sz k) {past : List (Int × Int)} (hp : ∀ p ∈ past, pok T p) (hl : past.length ≤ 100) (S0 : Sto) :
    G__law_trail [.lst (T.rows.map orow), .int T.m, c.v, .tup (past.map pv)] S0 = .ok (match T.chain c past.reverse with | some l => cfs l.reverse | none => ref1) S0 := by
  refine rn_eq ?_
  unfold G__law_trail
  rw [rn_runB]
  simp -dsimp
  rw [← List.map_reverse]
  refine sn_forPM (f := pv) (I := ltrI k T c past S0) ⟨rfl, [], c, _, _, rfl, by simpa using hz, by simp, by simp, by simp⟩ ?_ ?_
  · rintro p r ρ S' hpm ⟨e, fs, d, x5, x6, rfl, hd, hr, hlen, hc⟩
    refine ⟨_, tgt_name, ?_⟩
    subst e
    have hpo := hp p (List.mem_reverse.mp hpm)
    rw [List.length_cons] at hr hlen hd
    have hd' : d.sz 1000 := ⟨by have := hd.1; omega, by have := hd.2; omega⟩
    have hu := g_law_before hT hd' hpo.1 hpo.2 S'
    have er : Val.tup [Val.str "refused"] = ref1 := rfl
    cases e : T.undo d p.1 p.2 with
    | none =>
      rw [e] at hu
      rw [chain_n e] at hc
      simp -dsimp [cfs, pv, hu, oref, er, v_eqR fl_ref]
      rw [hc]; rfl
    | some d2 =>
      rw [e] at hu
      rw [chain_s e] at hc
      have ne : vEq d2.v ref1 Z0 = .ok (.bl false) Z0 := by rw [v_eqN nc_cf fl_ref]; simp [cf_ref]
      simp -dsimp [cfs, pv, hu, oref, er, ne]
      refine ⟨by omega, rfl, fs ++ [d], d2, some (pv p), some d2.v, by simp [cfs, pv], ?_, by omega, by simp; omega, ?_⟩
      · have := undo_sz hd e
        rwa [show past.length - (r.length + 1) + k + 1 = past.length - r.length + k by omega] at this
      · rw [hc]
        cases T.chain d2 r <;> simp
  · rintro ρ S' ⟨e, fs, d, x5, x6, rfl, hd, hr, hlen, hc⟩
    subst e
    simp -dsimp [cfs]
    rw [hc]
    simp [Tp.chain]
/-! runs -/
def Tp.pasts (T : Tp) : Cf → Nat → List (Int × Int)
  | _, 0 => []
  | c, n + 1 => match T.step c with
    | none => []
    | some d => (c.q, c.a) :: T.pasts d n
def Tp.walk (T : Tp) : Cf → Nat → List Cf
  | c, 0 => [c]
  | c, n + 1 => match T.step c with
    | none => [c]
    | some d => c :: T.walk d n
theorem pasts_n {T : Tp} {c : Cf} {n : Nat} (e : T.step c = none) : T.pasts c (n + 1) = [] := by
  show (match T.step c with | none => [] | some d => (c.q, c.a) :: T.pasts d n) = []
  rw [e]
theorem pasts_s {T : Tp} {c d : Cf} {n : Nat} (e : T.step c = some d) : T.pasts c (n + 1) = (c.q, c.a) :: T.pasts d n := by
  show (match T.step c with | none => [] | some d => (c.q, c.a) :: T.pasts d n) = _
  rw [e]
theorem walk_n {T : Tp} {c : Cf} {n : Nat} (e : T.step c = none) : T.walk c (n + 1) = [c] := by
  show (match T.step c with | none => [c] | some d => c :: T.walk d n) = _
  rw [e]
theorem walk_s {T : Tp} {c d : Cf} {n : Nat} (e : T.step c = some d) : T.walk c (n + 1) = c :: T.walk d n := by
  show (match T.step c with | none => [c] | some d => c :: T.walk d n) = _
  rw [e]
theorem pasts_0 {T : Tp} {c : Cf} (e : T.step c = none) : ∀ n, T.pasts c n = []
  | 0 => rfl
  | _ + 1 => pasts_n e
theorem walk_0 {T : Tp} {c : Cf} (e : T.step c = none) : ∀ n, T.walk c n = [c]
  | 0 => rfl
  | _ + 1 => walk_n e
def poI (T : Tp) (c : Cf) (n : Nat) (S0 : Sto) (i : Nat) (ρ : Ev) (S' : Sto) : Prop := S' = S0 ∧ ∃ (ps : List (Int × Int)) (d : Cf) (x4 x5 : Option Val), ρ = [some T.v, some d.v, some (.int n), some (.lst (ps.map pv)), x4, x5] ∧ d.ok T ∧ d.sz (3 + i) ∧ ps.length = i ∧ i ≤ n ∧ T.pasts c n = ps ++ T.pasts d (n - i)
theorem g_past_of {T : Tp} (hT : T.ok) {c : Cf} (h : c.ok T) (hz : c.sz 3) {n : Nat} (hn : n ≤ 100) (S0 : Sto) : G_past_of [T.v, c.v, .int n] S0 = .ok (.tup ((T.pasts c n).map pv)) S0 := by
  refine rn_eq ?_
  unfold G_past_of
  rw [rn_runB]
  simp -dsimp
  refine ⟨by omega, ?_⟩
  refine sn_forPR (I := poI T c n S0) ⟨rfl, [], c, _, _, rfl, h, hz, rfl, Nat.zero_le _, rfl⟩ ?_ ?_
  · rintro i ρ S' hi ⟨e, ps, d, x4, x5, rfl, hd, hdz, hl, hin, hp⟩
    refine ⟨_, tgt_name, ?_⟩
    have hs := g_step hT hd ⟨by have := hdz.1; omega, by have := hdz.2; omega⟩ S'
    rw [show n - i = (n - (i + 1)) + 1 by omega] at hp
    cases es : T.step d with
    | none =>
      rw [es] at hs
      rw [pasts_n es] at hp
      simp -dsimp [hs]
      exact ⟨by rw [hp]; simp, e⟩
    | some d2 =>
      rw [es] at hs
      rw [pasts_s es] at hp
      simp -dsimp [hs]
      exact ⟨by omega, e, ps ++ [(d.q, d.a)], d2, some (.int i), some d2.v, by simp [pv], hT |> fun q => Tp.step_ok q hd es, Tp.step_sz hdz es, by simp; omega, by omega, by simpa using hp⟩
  · rintro ρ S' ⟨e, ps, d, x4, x5, rfl, hd, hdz, hl, hin, hp⟩
    simp -dsimp
    refine ⟨?_, e⟩
    rw [hp, Nat.sub_self]; simp [Tp.pasts]
/-! going back leads back -/
theorem trim_hd {x : Int} {l : List Int} : (trim (x :: l)).headD 0 = x := by
  unfold trim
  split
  · split
    · rename_i h; simp [h]
    · simp
  · simp
theorem trim_c {x : Int} {l : List Int} : trim (x :: l) = if trim l = [] then (if x = 0 then [] else [x]) else x :: trim l := by
  conv => lhs; unfold trim
  cases e : trim l with
  | nil => simp
  | cons a l => simp
theorem trim_tl {x : Int} {l : List Int} : (trim (x :: l)).tail = trim l := by
  rw [trim_c]
  split
  · rename_i h; rw [h]; split <;> rfl
  · rfl
theorem trim_hd' {x : Int} {l : List Int} : (trim (x :: l)).head?.getD 0 = x := by
  have := trim_hd (x := x) (l := l)
  simpa using this
theorem trim_ht {r : List Int} (h : trim r = r) : trim (r.headD 0 :: r.tail) = r := by
  cases r with
  | nil => simp [trim]
  | cons x xs => simpa using h
theorem trim_tail {r : List Int} (h : trim r = r) : trim r.tail = r.tail := by
  cases r with
  | nil => rfl
  | cons x xs =>
    have := congrArg List.tail h
    rw [trim_tl] at this; exact this
theorem app_tr {r : Rw} {c : Cf} (h : c.tr) : (r.app c).tr := by
  obtain ⟨h1, h2⟩ := h
  unfold Rw.app goes Cf.tr
  dsimp only
  split
  · exact ⟨trim_trim _, trim_tail h2⟩
  · exact ⟨trim_tail h1, trim_trim _⟩
theorem step_tr {T : Tp} {c d : Cf} (h : c.tr) (e : T.step c = some d) : d.tr := by
  unfold Tp.step at e
  obtain ⟨r, e1, rfl⟩ := Option.map_eq_some_iff.mp e
  exact app_tr h
theorem undo_step {T : Tp} (hT : T.ok) {c d : Cf} (h : c.ok T) (ht : c.tr) (e : T.step c = some d) : T.undo d c.q c.a = some c := by
  unfold Tp.step at e
  obtain ⟨r, e1, rfl⟩ := Option.map_eq_some_iff.mp e
  obtain ⟨_, _, h3, _⟩ := hT.rok h.q h.a e1
  obtain ⟨t1, t2⟩ := ht
  unfold Tp.undo
  rw [e1]
  unfold Rw.app goes
  dsimp only
  rw [if_pos rfl]
  rcases h3 with h3 | h3
  · rw [h3]
    simp [trim_hd', trim_tl, t1]
    have := trim_ht t2
    simp at this
    cases c; simp_all
  · rw [h3]
    simp [trim_hd', trim_tl, t2]
    have := trim_ht t1
    simp at this
    cases c; simp_all
theorem chain_app {T : Tp} {d : Cf} {p : Int × Int} : ∀ {ps : List (Int × Int)} {c : Cf} {l : List Cf} {z : Cf}, T.chain c ps = some (l ++ [z]) → T.undo z p.1 p.2 = some d → T.chain c (ps ++ [p]) = some (l ++ [z, d])
  | [], c, l, z, h, e => by
    have h : some [c] = some (l ++ [z]) := h
    cases l with
    | nil =>
      simp at h; subst h
      show T.chain c (p :: []) = _
      rw [chain_s e]; rfl
    | cons a l => simp at h
  | q :: ps, c, l, z, h, e => by
    cases eu : T.undo c q.1 q.2 with
    | none => rw [chain_n eu] at h; cases h
    | some c2 =>
      rw [chain_s eu] at h
      obtain ⟨l2, h1, h2⟩ := Option.map_eq_some_iff.mp h
      cases l with
      | nil =>
        simp at h2
        obtain ⟨_, rfl⟩ := h2
        exfalso
        have : ∀ {ps : List (Int × Int)} {c : Cf}, T.chain c ps ≠ some [] := by
          intro ps c h
          cases ps with
          | nil => cases h
          | cons p ps =>
            cases eu : T.undo c p.1 p.2 with
            | none => rw [chain_n eu] at h; cases h
            | some d => rw [chain_s eu] at h; obtain ⟨_, _, h⟩ := Option.map_eq_some_iff.mp h; cases h
        exact this h1
      | cons a l =>
        simp at h2
        obtain ⟨rfl, rfl⟩ := h2
        rw [List.cons_append, chain_s eu, chain_app h1 e]; rfl
/-- the way back of a run -/
theorem chain_walk {T : Tp} (hT : T.ok) : ∀ {n : Nat} {c : Cf}, c.ok T → c.tr → ∃ l z, T.walk c n = l ++ [z] ∧ T.chain z (T.pasts c n).reverse = some (T.walk c n).reverse
  | 0, c, _, _ => ⟨[], c, rfl, rfl⟩
  | n + 1, c, h, ht => by
    cases e : T.step c with
    | none => rw [walk_n e, pasts_n e]; exact ⟨[], c, rfl, rfl⟩
    | some d =>
      obtain ⟨l, z, h1, h2⟩ := chain_walk hT (n := n) (Tp.step_ok hT h e) (step_tr ht e)
      rw [walk_s e, pasts_s e]
      refine ⟨c :: l, z, by rw [h1]; rfl, ?_⟩
      rw [List.reverse_cons, List.reverse_cons]
      have hd : ∃ l', (T.walk d n).reverse = l' ++ [d] := by
        cases n with
        | zero => exact ⟨[], rfl⟩
        | succ n =>
          cases e2 : T.step d with
          | none => rw [walk_n e2]; exact ⟨[], rfl⟩
          | some d2 => rw [walk_s e2]; exact ⟨_, List.reverse_cons⟩
      obtain ⟨l', hl'⟩ := hd
      rw [hl'] at h2 ⊢
      rw [chain_app h2 (undo_step hT h ht e)]; simp
end BK

/-! walks: what the laws of tape machines share -/
namespace BK
open PySem PySem.Spec L2 PM
/-- numbers below 1000 -/
def nOk (ds : List Int) : Prop := ∀ d ∈ ds, 0 ≤ d ∧ d < 1000
theorem nOk.app {ds : List Int} {d : Int} (h : nOk ds) (h1 : 0 ≤ d ∧ d < 1000) : nOk (ds ++ [d]) := fun z hz => by
  rcases List.mem_append.mp hz with q | q
  · exact h z q
  · rw [List.mem_singleton.mp q]; exact h1
def nmI (ns : List Int) (m : Nat) (S0 : Sto) (i : Nat) (ρ : Ev) (S' : Sto) : Prop := S' = S0 ∧ ∃ (ds : List Int) (x3 x4 x5 x6 : Option Val), ds.length ≤ 60 * i ∧ nOk ds ∧ ρ = [some (.fz (ns.map .int)), some (.int m), some (il ds), x3, x4, x5, x6]
def nmJ (ns : List Int) (m : Nat) (S0 : Sto) (k : Int) (b : Nat) (i : Nat) (ρ : Ev) (S' : Sto) : Prop := S' = S0 ∧ ∃ (ds : List Int) (c : Int) (x5 x6 : Option Val), ds.length ≤ b + i ∧ nOk ds ∧ 0 ≤ c ∧ ρ = [some (.fz (ns.map .int)), some (.int m), some (il ds), some (.int k), some (.int c), x5, x6]
def nmK (ns : List Int) (m : Nat) (S0 : Sto) (k c : Int) (b : Nat) (i : Nat) (ρ : Ev) (S' : Sto) : Prop := S' = S0 ∧ ∃ (ds : List Int) (x5 x6 : Option Val), ds.length ≤ b + i ∧ nOk ds ∧ ρ = [some (.fz (ns.map .int)), some (.int m), some (il ds), some (.int k), some (.int c), x5, x6]
theorem g_numbers (ns : List Int) (hn : ns.length ≤ 63) (m : Nat) (hm : m ≤ 1000) (S0 : Sto) : ∃ ds, G__law_numbers [.fz (ns.map .int), .int m] S0 = .ok (il ds) S0 ∧ ds.length ≤ m ∧ nOk ds := by
  have : Rn (G__law_numbers [.fz (ns.map .int), .int m] S0) (fun v S' => ∃ ds, v = il ds ∧ S' = S0 ∧ ds.length ≤ m ∧ nOk ds) X0 := by
    unfold G__law_numbers
    rw [rn_runB]
    simp -dsimp
    refine ⟨by omega, ?_⟩
    refine sn_forPR (I := nmI ns m S0) ⟨rfl, [], none, none, none, none, by simp, fun _ h => (nomatch h), rfl⟩ ?_ ?_
    · intro i ρ S' hi ⟨e, ds, x3, x4, x5, x6, hl, hd, hρ⟩
      subst hρ
      refine ⟨_, tgt_name, ?_⟩
      have hx : atI ns (i : Int) = some ns[i] := by rw [atI_n, List.getElem?_eq_getElem hi]
      generalize hc : (if ns[i] < 0 then -ns[i] else ns[i]) = c
      have hc0 : 0 ≤ c := by rw [← hc]; split <;> omega
      simp -dsimp [hx, hc]
      refine ⟨fun hb => ?_, fun hb => ?_⟩
      · refine sn_forPR (I := nmJ ns m S0 i ds.length) ⟨e, ds, c, _, _, Nat.le_refl _, hd, hc0, rfl⟩ ?_ ?_
        · intro j ρ S2 hj ⟨e2, ds', c', x5, x6, hl2, hd2, hc2, hρ⟩
          subst hρ
          refine ⟨_, tgt_name, ?_⟩
          simp -dsimp [lst_snoc]
          refine ⟨fun h1 => ⟨fun h2 => ⟨by omega, e2, _, _, _, _, by simp; omega, hd2.app (by omega), by omega, rfl⟩, fun h2 => ⟨e2, _, _, _, _, by omega, hd2, hc2, rfl⟩⟩, fun h1 => ⟨e2, _, _, _, _, by omega, hd2, hc2, rfl⟩⟩
        · intro ρ S2 ⟨e2, ds', c', x5, x6, hl2, hd2, hc2, hρ⟩
          subst hρ
          exact ⟨e2, _, _, _, _, _, by omega, hd2, rfl⟩
      · refine sn_forPR (I := nmK ns m S0 i c ds.length) ⟨e, ds, _, _, Nat.le_refl _, hd, rfl⟩ ?_ ?_
        · intro j ρ S2 hj ⟨e2, ds', x5, x6, hl2, hd2, hρ⟩
          subst hρ
          refine ⟨_, tgt_name, ?_⟩
          simp -dsimp [lst_snoc]
          exact ⟨by omega, by omega, e2, _, _, _, by simp; omega, hd2.app (by omega), rfl⟩
        · intro ρ S2 ⟨e2, ds', x5, x6, hl2, hd2, hρ⟩
          subst hρ
          exact ⟨e2, _, _, _, _, _, by omega, hd2, rfl⟩
    · rintro ρ S' ⟨e, ds, x3, x4, x5, x6, hl, hd, rfl⟩
      simp -dsimp [cut_take]
      exact ⟨e, by omega, fun d h => hd d (List.mem_of_mem_take h)⟩
  obtain ⟨v, S', e, ds, rfl, rfl, q⟩ := this.get
  exact ⟨ds, e, q⟩
/-! taking the next number -/
theorem g_take {ds : List Int} (hd : nOk ds) (p : Nat) : ∃ d q, 0 ≤ d ∧ d < 1000 ∧ G__law_take [il ds, .loc 0] (cl p) = .ok (.int d) (cl q) := by
  have hp : vIx (.loc 0) (.int 0) (cl p) = .ok (.int p) (cl p) := rfl
  have hp1 : vIx (.loc 0) (.int 0) (cl (p + 1)) = .ok (.int (p + 1 : Nat)) (cl (p + 1)) := rfl
  have hs : setIx (.loc 0) (.int 0) (.int ((p : Int) + 1)) (cl p) = some (cl (p + 1)) := cl_set
  by_cases h : p < ds.length
  · have hg : atI ds (p : Int) = some ds[p] := by rw [atI_n, List.getElem?_eq_getElem h]
    have e1 : ((p + 1 : Nat) : Int) - 1 = (p : Int) := by omega
    refine ⟨ds[p], p + 1, (hd _ (List.getElem_mem h)).1, (hd _ (List.getElem_mem h)).2, rn_eq ?_⟩
    unfold G__law_take
    rw [rn_runB]
    simp -dsimp [hp, hp1, hs, h, hg, e1]
  · refine ⟨0, p, by decide, by decide, rn_eq ?_⟩
    unfold G__law_take
    rw [rn_runB]
    simp -dsimp [hp, h]
theorem g_sizes {ds : List Int} (hd : nOk ds) (p : Nat) : ∃ (m s : Int) (q : Nat), 2 ≤ m ∧ m ≤ 8 ∧ 1 ≤ s ∧ s ≤ 40 ∧ G__law_sizes [il ds, .loc 0] (cl p) = .ok (iv [m, s]) (cl q) := by
  obtain ⟨a, p1, a0, a1, ea⟩ := g_take hd p
  obtain ⟨b, p2, b0, b1, eb⟩ := g_take hd p1
  by_cases h : a / 3 % 12 = 11
  · have h3 : b % 3 = 0 ∨ b % 3 = 1 ∨ b % 3 = 2 := by omega
    rcases h3 with h3 | h3 | h3
    · refine ⟨5 + a % 4, 40, p2, by omega, by omega, by omega, by omega, rn_eq ?_⟩
      unfold G__law_sizes
      rw [rn_runB]
      simp -dsimp [ea, eb, h, h3]
      rfl
    · refine ⟨5 + a % 4, 7 + b % 14, p2, by omega, by omega, by omega, by omega, rn_eq ?_⟩
      unfold G__law_sizes
      rw [rn_runB]
      simp -dsimp [ea, eb, h, h3]
      rfl
    · refine ⟨5 + a % 4, 7 + b % 34, p2, by omega, by omega, by omega, by omega, rn_eq ?_⟩
      unfold G__law_sizes
      rw [rn_runB]
      simp -dsimp [ea, eb, h, h3]
      rfl
  · refine ⟨2 + a % 3, 1 + b % 6, p2, by omega, by omega, by omega, by omega, rn_eq ?_⟩
    unfold G__law_sizes
    rw [rn_runB]
    simp -dsimp [ea, eb, h]
    rfl
def mcI (ds : List Int) (m s st : Int) (i : Nat) (ρ : Ev) (S' : Sto) : Prop := ∃ (rows : List (Option Rw)) (q : Nat) (x6 x7 x8 : Option Val), S' = cl q ∧ rows.length = i ∧ (∀ r, some r ∈ rows → r.ok m s) ∧ ρ = [some (il ds), some (.loc 0), some (.int m), some (.int s), some (.lst (rows.map orow)), some (.int st), x6, x7, x8]
theorem rows_app {rows : List (Option Rw)} {m s : Int} {o : Option Rw} (h : ∀ r, some r ∈ rows → r.ok m s) (ho : ∀ r, o = some r → r.ok m s) : ∀ r, some r ∈ rows ++ [o] → r.ok m s := fun r hr => by
  rcases List.mem_append.mp hr with q | q
  · exact h r q
  · exact ho r (List.mem_singleton.mp q).symm
theorem g_machine {ds : List Int} (hd : nOk ds) {m s : Int} (hm : 2 ≤ m) (hm8 : m ≤ 8) (hs : 1 ≤ s) (hs40 : s ≤ 40) (p : Nat) : ∃ (rows : List (Option Rw)) (q : Nat), (rows.length : Int) = m * s ∧ (∀ r, some r ∈ rows → r.ok m s) ∧
    G__law_machine_2 [il ds, .loc 0, .int m, .int s] (cl p) = .ok (.lst (rows.map orow)) (cl q) := by
  have hms : m * s ≤ 320 := by
    have : m * s ≤ 8 * 40 := Int.mul_le_mul hm8 hs40 (by omega) (by omega)
    omega
  have hms0 : 0 < m * s := Int.mul_pos (by omega) (by omega)
  have : Rn (G__law_machine_2 [il ds, .loc 0, .int m, .int s] (cl p)) (fun v S' => ∃ (rows : List (Option Rw)) (q : Nat), v = .lst (rows.map orow) ∧ S' = cl q ∧ (rows.length : Int) = m * s ∧ (∀ r, some r ∈ rows → r.ok m s)) X0 := by
    unfold G__law_machine_2
    rw [rn_runB]
    obtain ⟨a, p1, a0, a1, ea⟩ := g_take hd p
    have c1 : -18446744073709551616 < s ∧ s < 18446744073709551616 := by omega
    simp -dsimp [ea, c1]
    refine ⟨by omega, ?_⟩
    refine sn_forPR (I := mcI ds m s (a % 4)) ⟨[], p1, _, _, _, rfl, rfl, fun _ h => (nomatch h), rfl⟩ ?_ ?_
    · intro i ρ S' hi ⟨rows, q, x6, x7, x8, hS, hl, hr, hρ⟩
      subst hρ hS
      refine ⟨_, tgt_name, ?_⟩
      obtain ⟨d, p2, d0, d1, ed⟩ := g_take hd q
      have hi4 : (i : Int) < 400 := by omega
      have hlen : rows.length < 1000 := by omega
      generalize hn : d + 17 * ((i : Int) / 24) = n
      have hn0 : 0 ≤ n := by omega
      have e2 : atI [Val.int (-1), Val.int 1] (n / 4 % 2) = some (.int (if n / 4 % 2 = 0 then -1 else 1)) := by
        rw [at_two (by omega)]; split <;> rfl
      have cN : ∀ y7 y8, mcI ds m s (a % 4) (i + 1) [some (il ds), some (.loc 0), some (.int m), some (.int s), some (.lst (rows.map orow ++ [.non])), some (.int (a % 4)), some (.int i), y7, y8] (cl p2) := fun y7 y8 =>
        ⟨rows ++ [none], p2, _, _, _, rfl, by simp [hl], rows_app hr (fun r h => by cases h), by rw [List.map_append]; rfl⟩
      have cR : ∀ w mv t y7 y8, (⟨w, mv, t⟩ : Rw).ok m s → mcI ds m s (a % 4) (i + 1) [some (il ds), some (.loc 0), some (.int m), some (.int s), some (.lst (rows.map orow ++ [.tup [.int w, .int mv, .int t]])), some (.int (a % 4)), some (.int i), y7, y8] (cl p2) := fun w mv t y7 y8 ho =>
        ⟨rows ++ [some ⟨w, mv, t⟩], p2, _, _, _, rfl, by simp [hl], rows_app hr (fun r h => by cases h; exact ho), by rw [List.map_append]; rfl⟩
      have hw : 0 ≤ n % m ∧ n % m < m := ⟨Int.emod_nonneg _ (by omega), Int.emod_lt_of_pos _ (by omega)⟩
      have ht : 0 ≤ n / 8 % s ∧ n / 8 % s < s := ⟨Int.emod_nonneg _ (by omega), Int.emod_lt_of_pos _ (by omega)⟩
      have cR1 := fun y7 y8 => cR (n % m) 1 (n / 8 % s) y7 y8 ⟨hw.1, hw.2, .inl rfl, ht.1, ht.2⟩
      have cR0 := fun y7 y8 => cR (n % m) (if n / 4 % 2 = 0 then -1 else 1) (n / 8 % s) y7 y8 ⟨hw.1, hw.2, by dsimp only; split <;> simp, ht.1, ht.2⟩
      have m0 : 0 < m := by omega
      have s0 : 0 < s := by omega
      have l0 : rows.length < 16777216 := by omega
      simp -dsimp [ed, hi4, hn, e2, m0, s0, l0, cN, cR1, cR0]
    · intro ρ S' ⟨rows, q, x6, x7, x8, hS, hl, hr, hρ⟩
      subst hρ hS
      simp -dsimp
      exact ⟨rows, rfl, ⟨q, rfl⟩, by omega, hr⟩
  obtain ⟨v, S', e, rows, q, rfl, rfl, h1, h2⟩ := this.get
  exact ⟨rows, q, h1, h2, e⟩
/-! trimming -/
def nng (xs : List Int) : Prop := ∀ x ∈ xs, 0 ≤ x
theorem trim_nil : ∀ {xs : List Int}, trim xs = [] ↔ ∀ x ∈ xs, x = 0
  | [] => by simp [trim]
  | a :: xs => by
    have ih := trim_nil (xs := xs)
    unfold trim
    split
    · rename_i h
      have := ih.mp h
      by_cases ha : a = 0
      · simp only [ha, if_true, true_iff]; intro x hx; rcases List.mem_cons.mp hx with q | hx
        · exact q
        · exact this x hx
      · simp [ha]
    · rename_i h
      simp only [reduceCtorEq, false_iff]
      intro q
      exact h (ih.mpr fun x hx => q x (List.mem_cons_of_mem _ hx))
theorem trim_lt : ∀ {xs : List Int} {k : Nat}, nng xs → (k < (trim xs).length ↔ ∃ x ∈ xs.drop k, 0 < x)
  | [], k, _ => by simp [trim]
  | a :: xs, 0, h => by
    rw [List.drop_zero]
    have : (0 < (trim (a :: xs)).length) ↔ ¬ trim (a :: xs) = [] := by cases trim (a :: xs) <;> simp
    rw [this, trim_nil]
    constructor
    · intro q
      apply Classical.byContradiction
      intro r
      apply q
      intro x hx
      have h1 := h x hx
      have h2 : ¬ 0 < x := fun h2 => r ⟨x, hx, h2⟩
      omega
    · rintro ⟨x, hx, h1⟩ q
      have := q x hx
      omega
  | a :: xs, k + 1, h => by
    rw [List.drop_succ_cons]
    have ih := trim_lt (xs := xs) (k := k) fun x hx => h x (List.mem_cons_of_mem _ hx)
    rw [← ih]
    show k + 1 < (match trim xs with | [] => if a = 0 then [] else [a] | ys => a :: ys).length ↔ _
    split
    · rename_i e; rw [e]; split <;> simp
    · simp
theorem trim_take : ∀ xs : List Int, xs.take (trim xs).length = trim xs
  | [] => rfl
  | a :: xs => by
    have ih := trim_take xs
    show (a :: xs).take (match trim xs with | [] => if a = 0 then [] else [a] | ys => a :: ys).length = match trim xs with | [] => if a = 0 then [] else [a] | ys => a :: ys
    split
    · split <;> simp
    · rw [List.length_cons, List.take_succ_cons, ih]
theorem count_lt {c : Nat} : ∀ n : Nat, c ≤ n → ((List.range n).filter fun k => decide (k < c)).length = c
  | 0, h => by simp; omega
  | n + 1, h => by
    rw [List.range_succ, List.filter_append, List.length_append]
    by_cases q : c = n + 1
    · subst q
      have : (List.range n).filter (fun k => decide (k < n + 1)) = List.range n := List.filter_eq_self.mpr fun a ha => by have := List.mem_range.mp ha; simp; omega
      rw [this]; simp
    · rw [count_lt n (by omega)]
      have : ¬ n < c := by omega
      simp [this]
theorem g_law_trim {xs : List Int} (h : nng xs) (hl : xs.length ≤ 100000) (S : Sto) : G__law_trim [iv xs] S = .ok (iv (trim xs)) S := by
  refine rn_eq ?_
  unfold G__law_trim
  rw [rn_runB]
  have e : eLcP (iRange1P (eBIP vLen (aCons (eVar 0) aNil))) (.name 2) (tB (eBinP vGt (eBIP (vBest max) (aCons (eBinP (vAdd false) (eTup (aCons (eC (.int 0)) aNil)) (eCutP (eVar 0) (oSome (eVar 2)) oNone)) aNil)) (eC (.int 0)))) (eVar 2) [2] [some (iv xs), none, none] S
      = .ok (.lst (((List.range xs.length).filter fun k => decide (k < (trim xs).length)).map fun (i : Nat) => Val.int (0 + (i : Int)))) S := by
    refine eLcP_filter (f := fun (i : Nat) => Val.int (0 + (i : Int))) (g := fun (i : Nat) => Val.int (0 + (i : Int))) (t := fun k => decide (k < (trim xs).length)) (xs := List.range xs.length) ?_ (by rw [List.length_range]; exact sz (by omega)) fun k hk => ⟨_, tgt_name, ?_, ?_⟩
    · refine rn_eq ?_
      simp -dsimp
      exact ⟨by omega, by simp [rangeL]⟩
    · refine rn_eq ?_
      have hd : vAdd false (.tup [.int 0]) (iv (xs.drop k)) Z0 = .ok (iv (0 :: xs.drop k)) Z0 := v_consIv (by rw [List.length_drop]; omega)
      have : decide (k < (trim xs).length) = decide (0 < (xs.drop k).foldl max 0) := by
        rw [decide_eq_decide, trim_lt h, foldl_max_pos]; simp
      simp -dsimp [wipeE, cut_drop, hd, v_bestIv, this]
    · intro _
      refine rn_eq ?_
      simp -dsimp [wipeE]
  simp -dsimp
  with_reducible refine rn_is e ?_
  have hc : ((List.range xs.length).filter fun k => decide (k < (trim xs).length)).length = (trim xs).length := count_lt _ (trim_len xs)
  simp -dsimp [hc, cut_take, trim_take]
/-! sides, configurations -/
def sdI (ds : List Int) (m most : Int) (i : Nat) (ρ : Ev) (S' : Sto) : Prop := ∃ (ys : List Int) (q : Nat) (x5 : Option Val), S' = cl q ∧ ys.length = i ∧ mks m ys ∧ ρ = [some (il ds), some (.loc 0), some (.int m), some (.int most), some (iv ys), x5]
theorem mks.nng {m : Int} {xs : List Int} (h : mks m xs) : nng xs := fun x hx => (h x hx).1
theorem mks.app {m : Int} {xs ys : List Int} (h : mks m xs) (k : mks m ys) : mks m (xs ++ ys) := fun x hx => by
  rcases List.mem_append.mp hx with q | q
  · exact h x q
  · exact k x q
theorem mks.trim'' {m : Int} {l : List Int} (h : mks m l) : mks m (BK.trim l) := fun b hb => h b (trim_mem hb)
theorem trim_trim' : ∀ xs : List Int, trim (trim xs) = trim xs
  | [] => rfl
  | x :: xs => by
    have ih := trim_trim' xs
    cases e : trim xs with
    | nil =>
      by_cases h : x = 0
      · simp [trim, e, h]
      · simp [trim, e, h]
    | cons y ys =>
      rw [e] at ih
      have : trim (x :: xs) = x :: y :: ys := by simp [trim, e]
      rw [this]
      show (match trim (y :: ys) with | [] => _ | zs => x :: zs) = _
      rw [ih]
theorem g_side {ds : List Int} (hd : nOk ds) {m most : Int} (hm : 1 ≤ m) (h0 : 0 ≤ most) (h1 : most ≤ 20) (p : Nat) : ∃ (xs : List Int) (q : Nat), mks m xs ∧ trim xs = xs ∧ (xs.length : Int) ≤ most ∧
    G__law_side [il ds, .loc 0, .int m, .int most] (cl p) = .ok (iv xs) (cl q) := by
  have : Rn (G__law_side [il ds, .loc 0, .int m, .int most] (cl p)) (fun v S' => ∃ (xs : List Int) (q : Nat), v = iv xs ∧ S' = cl q ∧ mks m xs ∧ trim xs = xs ∧ (xs.length : Int) ≤ most) X0 := by
    unfold G__law_side
    rw [rn_runB]
    obtain ⟨a, p1, a0, a1, ea⟩ := g_take hd p
    have hmost : 0 < most + 1 := by omega
    have hk := Int.emod_lt_of_pos a hmost
    have hk0 := Int.emod_nonneg a (show most + 1 ≠ 0 by omega)
    have m0 : 0 < m := by omega
    simp -dsimp [ea, hmost]
    refine ⟨by omega, ?_⟩
    refine sn_forPR (I := sdI ds m most) ⟨[], p1, _, rfl, rfl, fun _ h => (nomatch h), rfl⟩ ?_ ?_
    · intro i ρ S' hi ⟨ys, q, x5, hS, hl, hy, hρ⟩
      subst hρ hS
      refine ⟨_, tgt_name, ?_⟩
      obtain ⟨d, p2, d0, d1, ed⟩ := g_take hd q
      have hyl : ys.length ≤ 1000000 := by omega
      simp -dsimp [ed, m0, hyl]
      exact ⟨ys ++ [d % m], p2, _, rfl, by simp [hl], hy.app fun x hx => by rw [List.mem_singleton.mp hx]; exact ⟨Int.emod_nonneg _ (by omega), Int.emod_lt_of_pos _ m0⟩, rfl⟩
    · intro ρ S' ⟨ys, q, x5, hS, hl, hy, hρ⟩
      subst hρ hS
      simp -dsimp [g_law_trim hy.nng (by omega)]
      have := trim_len ys
      exact ⟨⟨q, rfl⟩, hy.trim'', trim_trim' ys, by omega⟩
  obtain ⟨v, S', e, xs, q, rfl, rfl, h1, h2⟩ := this.get
  exact ⟨xs, q, h1, h2.1, h2.2, e⟩
theorem g_configuration {ds : List Int} (hd : nOk ds) {m s most : Int} (hm : 1 ≤ m) (hs : 1 ≤ s) (h0 : 0 ≤ most) (h1 : most ≤ 20) (p : Nat) : ∃ (c : Cf) (q : Nat), (∀ rows, c.ok ⟨m, s, rows⟩) ∧ c.tr ∧ c.sz most.toNat ∧
    G__law_configuration_2 [il ds, .loc 0, .int m, .int s, .int most] (cl p) = .ok c.v (cl q) := by
  obtain ⟨l, p1, l1, l2, l3, el⟩ := g_side hd hm h0 h1 p
  obtain ⟨r, p2, r1, r2, r3, er⟩ := g_side hd hm h0 h1 p1
  obtain ⟨a, p3, a0, a1, ea⟩ := g_take hd p2
  obtain ⟨b, p4, b0, b1, eb⟩ := g_take hd p3
  have m0 : 0 < m := by omega
  have s0 : 0 < s := by omega
  refine ⟨⟨a % s, l, b % m, r⟩, p4, fun rows => ⟨⟨Int.emod_nonneg _ (by omega), Int.emod_lt_of_pos _ s0⟩, ⟨Int.emod_nonneg _ (by omega), Int.emod_lt_of_pos _ m0⟩, l1, r1⟩, ⟨l2, r2⟩, ⟨by dsimp only; omega, by dsimp only; omega⟩, rn_eq ?_⟩
  unfold G__law_configuration_2
  rw [rn_runB]
  simp -dsimp [el, er, ea, eb, m0, s0]
  rfl
@[simp ↓] theorem v_tupRevIv {l : List Int} {S : Sto} : vTupRev (iv l) S = .ok (iv l.reverse) S := by unfold iv; rw [v_tupRevT, List.map_reverse]
theorem trim_tlx {xs : List Int} (h : trim xs = xs) : trim xs.tail = xs.tail := by
  cases xs with
  | nil => rfl
  | cons a xs =>
    have h' : (match trim xs with | [] => if a = 0 then [] else [a] | ys => a :: ys) = a :: xs := h
    split at h'
    · rename_i e
      split at h'
      · cases h'
      · cases h'; rfl
    · exact (List.cons.inj h').2
theorem tp1 {l xs : List Int} {w : Int} : List.take (l.length + 1) (l.reverse ++ w :: xs) = l.reverse ++ [w] := by
  rw [List.take_append, List.take_of_length_le (by simp)]
  simp
theorem tp2 {l xs : List Int} {w y : Int} : atI (l.reverse ++ w :: y :: xs) ((l.length : Int) + 1) = some y := by
  rw [show (l.length : Int) + 1 = ((l.length + 1 : Nat) : Int) by omega, atI_n, List.getElem?_append_right (by simp)]
  simp
theorem tp3 {l xs : List Int} {w y : Int} : List.drop (l.length + 1 + 1) (l.reverse ++ w :: y :: xs) = xs := by
  rw [List.drop_append, show l.length + 1 + 1 - l.reverse.length = 2 by simp; omega, List.drop_eq_nil_of_le (by simp; omega)]
  rfl
theorem tp4 {l xs : List Int} : List.take l.length (l.reverse ++ xs) = l.reverse := by
  rw [List.take_append, List.take_of_length_le (by simp)]
  simp
theorem tp5 {l xs : List Int} {y : Int} : atI (l.reverse ++ y :: xs) (l.length : Int) = some y := by
  rw [atI_n, List.getElem?_append_right (by simp)]
  simp
theorem tp6 {l xs : List Int} {y : Int} : List.drop (l.length + 1) (l.reverse ++ y :: xs) = xs := by
  rw [List.drop_append]
  simp
theorem tp2' {l xs : List Int} {w y : Int} : (l.reverse ++ w :: y :: xs)[l.length + 1]? = some y := by
  rw [List.getElem?_append_right (by simp)]
  simp
theorem tp5' {l xs : List Int} {y : Int} : (l.reverse ++ y :: xs)[l.length]? = some y := by
  rw [List.getElem?_append_right (by simp)]
  simp
theorem tp1c {l xs : List Int} {w : Int} : cutG (l.reverse ++ w :: xs) none (some ((l.length : Int) + 1)) = l.reverse ++ [w] := by
  rw [show (l.length : Int) + 1 = ((l.length + 1 : Nat) : Int) by omega, cut_take, tp1]
theorem tp3c {l xs : List Int} {w y : Int} : cutG (l.reverse ++ w :: y :: xs) (some ((l.length : Int) + 1 + 1)) none = xs := by
  rw [show (l.length : Int) + 1 + 1 = ((l.length + 1 + 1 : Nat) : Int) by omega, cut_drop, tp3]
theorem tp4c {l xs : List Int} : cutG (l.reverse ++ xs) none (some (l.length : Int)) = l.reverse := by rw [cut_take, tp4]
theorem tp6c {l xs : List Int} {y : Int} : cutG (l.reverse ++ y :: xs) (some ((l.length : Int) + 1)) none = xs := by
  rw [show (l.length : Int) + 1 = ((l.length + 1 : Nat) : Int) by omega, cut_drop, tp6]
theorem tp7 {l : List Int} : cutG l none (some 0) = [] := by
  rw [show (0 : Int) = ((0 : Nat) : Int) by rfl, cut_take, List.take_zero]
theorem tp8 {l : List Int} {a : Int} : cutG (a :: l) (some (0 + 1)) none = l := by
  rw [show (0 : Int) + 1 = ((1 : Nat) : Int) by rfl, cut_drop]; rfl
theorem tp9 {l : List Int} {a : Int} : cutG (a :: l) (some 1) none = l := by
  rw [show (1 : Int) = ((1 : Nat) : Int) by rfl, cut_drop]; rfl
theorem g_law_step2 {T : Tp} (hT : T.ok) {c : Cf} (h : c.ok T) (hz : c.sz 1000) (ht : c.tr) (S : Sto) : G__law_step_2 [.lst (T.rows.map orow), .int T.m, c.v] S = .ok (ocf (T.step c)) S := by
  refine rn_eq ?_
  unfold G__law_step_2
  rw [rn_runB]
  unfold Tp.step
  obtain ⟨l1, l2⟩ := hz
  have m8 := hT.m8
  have m2 := hT.m2
  have c1 : -18446744073709551616 < T.m ∧ T.m < 18446744073709551616 := by omega
  have hx := (hT.at_ h.q h.a).1
  simp -dsimp [c1, hx]
  cases e : T.row c.q c.a with
  | none => simp -dsimp
  | some r =>
    obtain ⟨q, l, a, rr⟩ := c
    have hr := hT.rok h.q h.a e
    obtain ⟨hw0, hw1, hmv, ht0, ht1⟩ := hr
    dsimp only at *
    obtain ⟨t1, t2⟩ := ht
    dsimp only at t1 t2
    have k1 : ∀ ws : List Int, mks T.m ws → ws.length ≤ 2000 → ∀ S, G__law_trim [iv ws] S = .ok (iv (trim ws)) S := fun ws hw hl S => g_law_trim hw.nng (by omega) S
    have hl' := h.l
    have hr' := h.r
    dsimp only at hl' hr'
    rcases hmv with hmv | hmv
    · have n1 : ((l.length : Int) + 1 < 0) = False := by first | (simp; done) | (simp; omega)
      have kk := k1 (r.w :: l) (fun x hx => by rcases List.mem_cons.mp hx with rfl | hx; exact ⟨hw0, hw1⟩; exact hl' x hx) (by simp; omega)
      cases rr with
      | nil =>
        have k0 := k1 [] (fun _ h => by cases h) (by simp)
        simp -dsimp (disch := first | assumption | omega | (simp only [List.length_cons, List.length_append, List.length_map, List.length_tail, List.length_reverse, List.length_nil, List.length_replicate, List.length_range]; omega)) [hmv, n1, tp1, tp2, tp3, tp2', tp1c, tp3c, kk, k0]
        simp [Rw.app, goes, hmv, Cf.v, trim]
      | cons y ys =>
        simp only [List.length_cons] at l2
        have n2 : ((1 : Int) = (ys.length : Int) + 1 + 1) = False := by first | (simp; done) | (simp; omega)
        have k0 := k1 ys (fun x hx => hr' x (List.mem_cons_of_mem _ hx)) (by omega)
        simp -dsimp (disch := first | assumption | omega | (simp only [List.length_cons, List.length_append, List.length_map, List.length_tail, List.length_reverse, List.length_nil, List.length_replicate, List.length_range]; omega)) [hmv, n1, n2, tp1, tp2, tp3, tp2', tp1c, tp3c, kk, k0]
        simp [Rw.app, goes, hmv, Cf.v, trim, show trim ys = ys from trim_tlx t2]
    · have kk := k1 (r.w :: rr) (fun x hx => by rcases List.mem_cons.mp hx with rfl | hx; exact ⟨hw0, hw1⟩; exact hr' x hx) (by simp; omega)
      cases l with
      | nil =>
        have n2 : ((0 : Int) = (rr.length : Int) + 1 + 1) = False := by first | (simp; done) | (simp; omega)
        have k0 := k1 [] (fun _ h => by cases h) (by simp)
        simp -dsimp (disch := first | assumption | omega | (simp only [List.length_cons, List.length_append, List.length_map, List.length_tail, List.length_reverse, List.length_nil, List.length_replicate, List.length_range]; omega)) [hmv, n2, tp7, tp8, tp9, kk, k0]
        simp [Rw.app, goes, hmv, Cf.v, trim]
      | cons y ys =>
        simp only [List.length_cons] at l1
        have k0 := k1 ys (fun x hx => hl' x (List.mem_cons_of_mem _ hx)) (by omega)
        have n3 : (ys.length : Int) + 1 + -1 = (ys.length : Int) := by omega
        have n4 : ((ys.length : Int) < 0) = False := by first | (simp; done) | (simp; omega)
        have n5 : ((ys.length : Int) = (ys.length : Int) + ((rr.length : Int) + 1 + 1)) = False := by first | (simp; done) | (simp; omega)
        simp -dsimp (disch := first | assumption | omega | (simp only [List.length_cons, List.length_append, List.length_map, List.length_tail, List.length_reverse, List.length_nil, List.length_replicate, List.length_range]; omega)) [hmv, n3, n4, n5, tp4, tp5, tp6, tp5', tp4c, tp6c, kk, k0]
        simp [Rw.app, goes, hmv, Cf.v, trim, show trim ys = ys from trim_tlx t1]
theorem Cf.tr_app {r : Rw} {c : Cf} (h : c.tr) : (r.app c).tr := by
  unfold Rw.app goes
  dsimp only
  split
  · exact ⟨trim_trim' _, trim_tlx h.2⟩
  · exact ⟨trim_tlx h.1, trim_trim' _⟩
theorem Tp.step_tr {T : Tp} {c d : Cf} (h : c.tr) (e : T.step c = some d) : d.tr := by
  unfold Tp.step at e
  obtain ⟨r, e1, rfl⟩ := Option.map_eq_some_iff.mp e
  exact Cf.tr_app h
/-! runs -/
def Tp.run (T : Tp) : Nat → Cf → Cf × Nat
  | 0, c => (c, 0)
  | n + 1, c => match T.step c with
    | none => (c, 0)
    | some d => ((T.run n d).1, (T.run n d).2 + 1)
def runI (T : Tp) (c : Cf) (n b : Nat) (i : Nat) (d : Cf) : Prop := i ≤ n ∧ d.ok T ∧ d.tr ∧ d.sz (b + i) ∧ T.run n c = ((T.run (n - i) d).1, (T.run (n - i) d).2 + i)
theorem runI.nxt {T : Tp} (hT : T.ok) {c d e : Cf} {n b i : Nat} (h : runI T c n b i d) (hi : i < n) (q : T.step d = some e) : runI T c n b (i + 1) e := by
  obtain ⟨h1, h2, h3, h4, h5⟩ := h
  refine ⟨hi, T.step_ok hT h2 q, T.step_tr h3 q, T.step_sz h4 q, ?_⟩
  rw [h5, show n - i = (n - (i + 1)) + 1 by omega]
  show ((match T.step d with | none => (d, 0) | some d => ((T.run (n - (i + 1)) d).1, (T.run (n - (i + 1)) d).2 + 1)).1, _) = _
  simp only [Tp.run, q]
  congr 1
  omega
theorem runI.stop {T : Tp} {c d : Cf} {n b i : Nat} (h : runI T c n b i d) (q : T.step d = none) : T.run n c = (d, i) := by
  rw [h.2.2.2.2]
  cases e : n - i with
  | zero => simp [Tp.run]
  | succ k => simp [Tp.run, q]
theorem runI.fin {T : Tp} {c d : Cf} {n b : Nat} (h : runI T c n b n d) : T.run n c = (d, n) := by
  rw [h.2.2.2.2]; simp [Tp.run]
def rnV (x : Cf × Nat) : Val := .tup [x.1.v, .int x.2]
def lrI (T : Tp) (c : Cf) (n b : Nat) (S0 : Sto) (i : Nat) (ρ : Ev) (S' : Sto) : Prop := S' = S0 ∧ ∃ d x5 x6, runI T c n b i d ∧ ρ = [some (.lst (T.rows.map orow)), some (.int T.m), some d.v, some (.int n), some (.int i), x5, x6]
theorem g_law_run {T : Tp} (hT : T.ok) {c : Cf} (h : c.ok T) (ht : c.tr) {b : Nat} (hz : c.sz b) (hb : b ≤ 500) {n : Nat} (hn : n ≤ 400) (S : Sto) : G__law_run [.lst (T.rows.map orow), .int T.m, c.v, .int n] S = .ok (rnV (T.run n c)) S := by
  refine rn_eq ?_
  unfold G__law_run
  rw [rn_runB]
  simp -dsimp
  refine ⟨by omega, ?_⟩
  refine sn_forPR (I := lrI T c n b S) ⟨rfl, c, _, _, ⟨Nat.zero_le _, h, ht, hz, rfl⟩, rfl⟩ ?_ ?_
  · intro i ρ S' hi ⟨e, d, x5, x6, hd, hρ⟩
    subst hρ e
    refine ⟨_, tgt_name, ?_⟩
    obtain ⟨_, h2, h3, h4, _⟩ := id hd
    have hz' : d.sz 1000 := ⟨by have := h4.1; omega, by have := h4.2; omega⟩
    cases q : T.step d with
    | none =>
      simp -dsimp [g_law_step2 hT h2 hz' h3, q, hd.stop q, rnV]
    | some e =>
      simp -dsimp [g_law_step2 hT h2 hz' h3, q]
      exact ⟨rfl, e, _, _, hd.nxt hT hi q, rfl⟩
  · intro ρ S' ⟨e, d, x5, x6, hd, hρ⟩
    subst hρ e
    simp -dsimp [hd.fin, rnV]
def trunI (T : Tp) (c : Cf) (n b : Nat) (S0 : Sto) (ρ : Ev) (S' : Sto) : Prop := S' = S0 ∧ ∃ i d x4, runI T c n b i d ∧ ρ = [some T.v, some d.v, some (.int n), some (.int (i : Nat)), x4]
theorem g_tape_run {T : Tp} (hT : T.ok) {c : Cf} (h : c.ok T) (ht : c.tr) {b : Nat} (hz : c.sz b) (hb : b ≤ 500) {n : Nat} (hn : n ≤ 400) (S : Sto) : G_Tape_run [T.v, c.v, .int n] S = .ok (rnV (T.run n c)) S := by
  refine rn_eq ?_
  unfold G_Tape_run
  rw [rn_runB]
  simp -dsimp
  refine sn_while (M := fun ρ _ => match ρ with | [_, _, _, some (.int i), _] => n - i.toNat | _ => 0) (I := trunI T c n b S) ?_ ⟨rfl, 0, c, _, ⟨Nat.zero_le _, h, ht, hz, rfl⟩, rfl⟩ ?_
  · intro ρ S' ⟨e, i, d, x4, hd, hρ⟩
    subst hρ e
    obtain ⟨h1, h2, h3, h4, _⟩ := id hd
    have hz' : d.sz 1000 := ⟨by have := h4.1; omega, by have := h4.2; omega⟩
    by_cases hi : i < n
    · cases q : T.step d with
      | none => simp -dsimp [hi, g_step hT h2 hz', q, hd.stop q, rnV]
      | some e =>
        simp -dsimp [hi, g_step hT h2 hz', q]
        exact ⟨⟨rfl, i + 1, e, some e.v, hd.nxt hT hi q, by simp⟩, by first | omega | (simp; omega)⟩
    · have : i = n := by omega
      subst this
      simp -dsimp [hd.fin, rnV]
  · show n - (0 : Int).toNat < wMax; unfold wMax; omega
/-! the law's _law_same -/
@[simp ↓] theorem isN_str {x : Str} {S : Sto} : vIsN (.str x) .non S = .ok (.bl false) S := nr
def sm : Nat → Val → Bool
  | 0, _ => false
  | n + 1, .tup vs => decide (vs.length ≤ 1000000) && vs.all (sm n)
  | _ + 1, .int _ => true
  | _ + 1, .non => true
  | _ + 1, .str x => PyData.strOk x
  | _, _ => false
theorem g_same : ∀ (n : Nat) (v : Val) (S : Sto), sm n v = true → G__law_same n [v, v] S = .ok (.bl true) S
  | 0, _, _, h => by cases h
  | n + 1, v, S, h => by
    refine rn_eq ?_
    rw [Gs__law_same]
    unfold GH__law_same
    rw [rn_runB]
    cases v with
    | tup vs =>
      unfold sm at h
      rw [Bool.and_eq_true, decide_eq_true_iff, List.all_eq_true] at h
      obtain ⟨h1, h2⟩ := h
      simp -dsimp
      refine ⟨by omega, ?_⟩
      refine sn_forPR (I := fun i ρ S' => S' = S ∧ ∃ x, ρ = [some (.tup vs), some (.tup vs), x]) ⟨rfl, _, rfl⟩ ?_ ?_
      · intro i ρ S' hi ⟨e, x, hρ⟩
        subst hρ e
        refine ⟨_, tgt_name, ?_⟩
        have hx : atI vs (i : Int) = some vs[i] := by rw [atI_n, List.getElem?_eq_getElem hi]
        simp -dsimp [hx, g_same n vs[i] _ (h2 _ (List.getElem_mem hi))]
      · intro ρ S' ⟨e, x, hρ⟩
        subst hρ e
        simp -dsimp
    | int i => simp -dsimp
    | non => simp -dsimp
    | str x =>
      have h' : PyData.strOk x = true := h
      simp -dsimp [v_eqR (v := .str x) h']
    | _ => cases h
@[simp] theorem sm_int {n : Nat} {i : Int} : sm (n + 1) (.int i) = true := nr
@[simp] theorem sm_non {n : Nat} : sm (n + 1) .non = true := nr
@[simp] theorem sm_tup {n : Nat} {vs : List Val} : sm (n + 1) (.tup vs) = (decide (vs.length ≤ 1000000) && vs.all (sm n)) := nr
@[simp] theorem sm_iv {n : Nat} {l : List Int} : sm (n + 2) (iv l) = decide (l.length ≤ 1000000) := by unfold iv; rw [sm_tup, List.length_map, List.all_map]; simp [Function.comp_def]
theorem sm_cf {n k : Nat} {c : Cf} (h : c.sz k) (hk : k ≤ 1000000) : sm (n + 3) c.v = true := by
  obtain ⟨h1, h2⟩ := h
  unfold Cf.v
  simp
  omega
@[simp] theorem sm_rw {n : Nat} {r : Rw} : sm (n + 2) r.v = true := by unfold Rw.v; simp
@[simp] theorem sm_orow {n : Nat} {r : Option Rw} : sm (n + 2) (orow r) = true := by cases r <;> simp
theorem sm_rows {n : Nat} {rows : List (Option Rw)} (h : rows.length ≤ 1000000) : sm (n + 3) (.tup (rows.map orow)) = true := by
  rw [sm_tup, List.length_map, List.all_map]; simp [Function.comp_def, h]
theorem sm_ocf {n k : Nat} {c : Option Cf} (h : ∀ d, c = some d → d.sz k) (hk : k ≤ 1000000) : sm (n + 3) (ocf c) = true := by
  cases c with
  | none => simp
  | some c => exact sm_cf (h c rfl) hk
theorem run_sz {T : Tp} : ∀ {n : Nat} {c : Cf} {b : Nat}, c.sz b → (T.run n c).1.sz (b + n)
  | 0, c, b, h => h
  | n + 1, c, b, h => by
    unfold Tp.run
    cases e : T.step c with
    | none => exact ⟨Nat.le_trans h.1 (by omega), Nat.le_trans h.2 (by omega)⟩
    | some d =>
      have := run_sz (T := T) (n := n) (T.step_sz h e)
      exact ⟨Nat.le_trans this.1 (by omega), Nat.le_trans this.2 (by omega)⟩
theorem sm_run {T : Tp} {n k b : Nat} {c : Cf} (h : c.sz b) (hk : b + k ≤ 1000000) : sm (n + 4) (rnV (T.run k c)) = true := by
  unfold rnV
  rw [sm_tup]
  simp [sm_cf (run_sz h) hk]
end BK

/-! walks: forget.py -/
namespace BK
open PySem PySem.Spec L2 PM
theorem g_taken_back {T : Tp} (hT : T.ok) {c : Cf} (hz : c.sz 1000) {q a : Int} {r : Rw} (hq : 0 ≤ q ∧ q < T.s) (ha : 0 ≤ a ∧ a < T.m) (e : T.row q a = some r) (ht : r.t = c.q) (S : Sto) :
    G__taken_back [c.v, .tup [.int q, .int a], r.v] S = .ok (ocf (T.undo c q a)) S := by
  refine rn_eq ?_
  unfold G__taken_back
  rw [rn_runB]
  obtain ⟨l1, l2⟩ := hz
  obtain ⟨_, _, hmv, _⟩ := hT.rok hq ha e
  obtain ⟨cq, l, ca, rr⟩ := c
  dsimp only at *
  unfold Tp.undo
  rw [e]
  dsimp only
  rw [if_pos ht]
  rcases hmv with hmv | hmv
  · cases l with
    | nil =>
      have hg : goes (-r.mv) [] ca rr = ([], 0, trim (ca :: rr)) := by rw [hmv]; rfl
      rw [hg]
      simp -dsimp (disch := first | assumption | omega | (simp only [List.length_cons, List.length_append, List.length_map, List.length_tail, List.length_reverse, List.length_nil, List.length_replicate, List.length_range]; omega)) [Cf.v, Rw.v, Tgt.set, Tgt.sets, hmv, g_trimmed]
      by_cases h : (0 : Int) = r.w
      · simp [h, Cf.v]
      · simp [h]
    | cons y ys =>
      have hg : goes (-r.mv) (y :: ys) ca rr = (ys, y, trim (ca :: rr)) := by rw [hmv]; rfl
      rw [hg]
      simp only [List.length_cons] at l1
      simp -dsimp (disch := first | assumption | omega | (simp only [List.length_cons, List.length_append, List.length_map, List.length_tail, List.length_reverse, List.length_nil, List.length_replicate, List.length_range]; omega)) [Cf.v, Rw.v, Tgt.set, Tgt.sets, hmv, g_trimmed]
      by_cases h : y = r.w
      · simp [h, Cf.v]
      · simp [h]
  · cases rr with
    | nil =>
      have hg : goes (-r.mv) l ca [] = (trim (ca :: l), 0, []) := by rw [hmv]; rfl
      rw [hg]
      simp -dsimp (disch := first | assumption | omega | (simp only [List.length_cons, List.length_append, List.length_map, List.length_tail, List.length_reverse, List.length_nil, List.length_replicate, List.length_range]; omega)) [Cf.v, Rw.v, Tgt.set, Tgt.sets, hmv, g_trimmed]
      by_cases h : (0 : Int) = r.w
      · simp [h, Cf.v]
      · simp [h]
    | cons y ys =>
      have hg : goes (-r.mv) l ca (y :: ys) = (trim (ca :: l), y, ys) := by rw [hmv]; rfl
      rw [hg]
      simp only [List.length_cons] at l2
      simp -dsimp (disch := first | assumption | omega | (simp only [List.length_cons, List.length_append, List.length_map, List.length_tail, List.length_reverse, List.length_nil, List.length_replicate, List.length_range]; omega)) [Cf.v, Rw.v, Tgt.set, Tgt.sets, hmv, g_trimmed]
      by_cases h : y = r.w
      · simp [h, Cf.v]
      · simp [h]
/-! the places of the table that have a row -/
def Tp.has (T : Tp) (k : Nat) : Bool := (T.rows[k]?).join.isSome
def Tp.plv (T : Tp) (k : Nat) : Val := .tup [.int ((k : Int) / T.m), .int ((k : Int) % T.m)]
def Tp.pls (T : Tp) (n : Nat) : List Nat := (List.range n).filter T.has
theorem pls_succ {T : Tp} {n : Nat} : T.pls (n + 1) = T.pls n ++ (if T.has n then [n] else []) := by
  unfold Tp.pls
  rw [List.range_succ, List.filter_append]
  congr 1
  cases h : T.has n <;> simp [h]
theorem pls_len {T : Tp} {n : Nat} : (T.pls n).length ≤ n := by
  unfold Tp.pls
  refine Nat.le_trans (List.length_filter_le _ _) ?_
  simp
theorem row_at {T : Tp} {i j m : Nat} (hm : T.m = m) : T.row (i : Int) (j : Int) = (T.rows[i * m + j]?).join := by
  unfold Tp.row rowAt
  rw [hm, show (i : Int) * (m : Int) + (j : Int) = ((i * m + j : Nat) : Int) by simp, atI_n]
theorem plv_at {T : Tp} {i j m : Nat} (hm : T.m = m) (hj : j < m) : T.plv (i * m + j) = .tup [.int i, .int j] := by
  unfold Tp.plv
  rw [hm]
  have h1 : ((i * m + j : Nat) : Int) / (m : Int) = i := by
    rw [← Int.natCast_ediv, Nat.add_comm, Nat.add_mul_div_right _ _ (by omega), Nat.div_eq_of_lt hj, Nat.zero_add]
  have h2 : ((i * m + j : Nat) : Int) % (m : Int) = j := by
    rw [← Int.natCast_emod, Nat.add_comm, Nat.add_mul_mod_self_right, Nat.mod_eq_of_lt hj]
  rw [h1, h2]
def plI (T : Tp) (m : Nat) (S0 : Sto) (i : Nat) (ρ : Ev) (S' : Sto) : Prop := S' = S0 ∧ ∃ x2 x3, ρ = [some T.v, some (.lst ((T.pls (i * m)).map T.plv)), x2, x3]
def plJ (T : Tp) (m : Nat) (S0 : Sto) (i j : Nat) (ρ : Ev) (S' : Sto) : Prop := S' = S0 ∧ ∃ x3, ρ = [some T.v, some (.lst ((T.pls (i * m + j)).map T.plv)), some (.int i), x3]
theorem g_places {T : Tp} (hT : T.ok) (S : Sto) : G__places [T.v] S = .ok (.lst ((T.pls T.rows.length).map T.plv)) S := by
  have m2 := hT.m2
  have m8 := hT.m8
  have s1 := hT.s1
  have s40 := hT.s40
  obtain ⟨m, hm⟩ : ∃ m : Nat, T.m = m := ⟨T.m.toNat, by omega⟩
  obtain ⟨n, hn⟩ : ∃ n : Nat, T.s = n := ⟨T.s.toNat, by omega⟩
  have hl : T.rows.length = n * m := by
    have := hT.len
    rw [hm, hn, Int.mul_comm] at this
    have h2 : ((T.rows.length : Nat) : Int) = ((n * m : Nat) : Int) := by rw [this]; simp
    exact Int.ofNat.inj h2
  refine rn_eq ?_
  unfold G__places
  rw [rn_runB]
  simp -dsimp [hn]
  refine ⟨by omega, ?_⟩
  refine sn_forPR (I := plI T m S) ⟨rfl, none, none, by simp [Tp.pls]⟩ ?_ ?_
  · intro i ρ S' hi ⟨e, x2, x3, hρ⟩
    subst hρ e
    refine ⟨_, tgt_name, ?_⟩
    simp -dsimp [hm]
    refine ⟨by omega, ?_⟩
    refine sn_forPR (I := plJ T m S' i) ⟨rfl, _, rfl⟩ ?_ ?_
    · intro j ρ S2 hj ⟨e, x3, hρ⟩
      subst hρ e
      refine ⟨_, tgt_name, ?_⟩
      have hq : 0 ≤ (i : Int) ∧ (i : Int) < T.s := by omega
      have ha : 0 ≤ (j : Int) ∧ (j : Int) < T.m := by omega
      have hr := g_row' hT hq ha
      have hra := row_at (T := T) (i := i) (j := j) hm
      have hps : T.pls (i * m + (j + 1)) = T.pls (i * m + j) ++ (if T.has (i * m + j) then [i * m + j] else []) := pls_succ
      have hpl := pls_len (T := T) (n := i * m + j)
      have hhas : T.has (i * m + j) = (T.row i j).isSome := by unfold Tp.has; rw [hra]
      have hbig : i * m + j < 1000 := by
        have : i * m ≤ 40 * 8 := Nat.mul_le_mul (by omega) (by omega)
        omega
      cases e : T.row i j with
      | none =>
        simp -dsimp [hr, e]
        exact ⟨rfl, _, by rw [hps, hhas, e]; simp; rfl⟩
      | some r =>
        simp -dsimp [hr, e]
        exact ⟨by omega, rfl, _, by rw [hps, hhas, e]; simp [plv_at hm (show j < m by omega)]; rfl⟩
    · intro ρ S2 ⟨e, x3, hρ⟩
      subst hρ e
      exact ⟨rfl, _, _, by rw [show (i + 1) * m = i * m + m from by rw [Nat.add_mul, Nat.one_mul]]⟩
  · intro ρ S' ⟨e, x2, x3, hρ⟩
    subst hρ e
    simp -dsimp [hl]
/-! configurations are alike data -/
def cfD (c : Cf) : PyData := .tuple [.int c.q, .tuple (c.l.map .int), .int c.a, .tuple (c.r.map .int)]
theorem cf_dat (c : Cf) : c.v.dat = some (cfD c) := by
  unfold Cf.v cfD iv
  rw [dat_tup, dats_cons dat_int (dats_cons (show Val.dat (.tup (c.l.map Val.int)) = some (.tuple (c.l.map .int)) by rw [dat_tup, dat_ints]; rfl) (dats_cons dat_int (dats_cons (show Val.dat (.tup (c.r.map Val.int)) = some (.tuple (c.r.map .int)) by rw [dat_tup, dat_ints]; rfl) dats_nil)))]
  rfl
theorem cf_datD (c : Cf) : datD c.v = cfD c := by unfold datD; rw [cf_dat]; rfl
theorem alike_ints : ∀ l k : List Int, PySem.W.alikeAll (l.map PyData.int) (k.map PyData.int) = true
  | [], k => by unfold PySem.W.alikeAll; rfl
  | a :: l, [] => by rw [List.map_cons, List.map_nil]; unfold PySem.W.alikeAll; rfl
  | a :: l, b :: k => by
    rw [List.map_cons, List.map_cons]
    unfold PySem.W.alikeAll
    rw [alike_ints l k]
    unfold PySem.W.alike; rfl
theorem alike_cf (c d : Cf) : PySem.W.alike (cfD c) (cfD d) = true := by
  unfold cfD
  simp [PySem.W.alike, PySem.W.alikeAll, alike_ints]
theorem depth_ints : ∀ l : List Int, PyData.depthAll (l.map PyData.int) = 0
  | [] => by unfold PyData.depthAll; rfl
  | a :: l => by rw [List.map_cons]; unfold PyData.depthAll; rw [depth_ints l]; unfold PyData.depth; rfl
theorem okSD_cf (cs : List Cf) : OkSD (cs.map Cf.v) where
  dat := fun v hv => by obtain ⟨c, _, rfl⟩ := List.mem_map.mp hv; exact ⟨_, cf_dat c⟩
  alike := fun d hd d' hd' => by
    obtain ⟨v, hv, rfl⟩ := List.mem_map.mp hd
    obtain ⟨v', hv', rfl⟩ := List.mem_map.mp hd'
    obtain ⟨c, _, rfl⟩ := List.mem_map.mp hv
    obtain ⟨c', _, rfl⟩ := List.mem_map.mp hv'
    rw [cf_datD, cf_datD]; exact alike_cf c c'
  sort := .inl fun d hd => by
    obtain ⟨v, hv, rfl⟩ := List.mem_map.mp hd
    obtain ⟨c, _, rfl⟩ := List.mem_map.mp hv
    rw [cf_datD]; exact ⟨_, _, rfl⟩
  depth := fun v hv => by
    obtain ⟨c, _, rfl⟩ := List.mem_map.mp hv
    rw [cf_datD]
    unfold cfD
    simp [PyData.depth, PyData.depthAll, depth_ints]
/-! before -/
def Tp.bef (T : Tp) (c : Cf) (ks : List Nat) : List Cf := ks.filterMap fun (k : Nat) => T.undo c ((k : Int) / T.m) ((k : Int) % T.m)
theorem bef_app {T : Tp} {c : Cf} {ks js : List Nat} : T.bef c (ks ++ js) = T.bef c ks ++ T.bef c js := List.filterMap_append
theorem bef_len {T : Tp} {c : Cf} {ks : List Nat} : (T.bef c ks).length ≤ ks.length := List.length_filterMap_le _ _
theorem has_at {T : Tp} (hT : T.ok) {k : Nat} (hk : k ∈ T.pls T.rows.length) : k < T.rows.length ∧ (0 ≤ (k : Int) / T.m ∧ (k : Int) / T.m < T.s) ∧ (0 ≤ (k : Int) % T.m ∧ (k : Int) % T.m < T.m) ∧ ∃ r, T.row ((k : Int) / T.m) ((k : Int) % T.m) = some r ∧ T.rows[k]? = some (some r) := by
  have h := List.mem_filter.mp hk
  have hlt := List.mem_range.mp h.1
  have m2 := hT.m2
  have hl := hT.len
  have h1 : 0 ≤ (k : Int) / T.m := Int.ediv_nonneg (by omega) (by omega)
  have h2 : (k : Int) / T.m < T.s := by
    apply Int.ediv_lt_of_lt_mul (by omega)
    rw [Int.mul_comm]; omega
  have h3 := Int.emod_nonneg (k : Int) (show T.m ≠ 0 by omega)
  have h4 := Int.emod_lt_of_pos (k : Int) (show 0 < T.m by omega)
  have h5 : (k : Int) / T.m * T.m + (k : Int) % T.m = k := by rw [Int.mul_comm]; exact Int.mul_ediv_add_emod _ _
  refine ⟨hlt, ⟨h1, h2⟩, ⟨h3, h4⟩, ?_⟩
  have hh := h.2
  unfold Tp.has at hh
  rw [List.getElem?_eq_getElem hlt] at hh
  unfold Tp.row rowAt
  rw [h5, atI_n, List.getElem?_eq_getElem hlt]
  cases e : T.rows[k] with
  | none => rw [e] at hh; cases hh
  | some r => exact ⟨r, rfl, rfl⟩
theorem ix_plv0 {T : Tp} {k : Nat} {S : Sto} : vIx (T.plv k) (.int 0) S = .ok (.int ((k : Int) / T.m)) S := rfl
theorem ix_plv1 {T : Tp} {k : Nat} {S : Sto} : vIx (T.plv k) (.int 1) S = .ok (.int ((k : Int) % T.m)) S := rfl
def bfI (T : Tp) (c : Cf) (S0 : Sto) (r : List Nat) (ρ : Ev) (S' : Sto) : Prop := S' = S0 ∧ ∃ dn x3 x4 x5, dn ++ r = T.pls T.rows.length ∧ ρ = [some T.v, some c.v, some (.lst ((T.bef c dn).map Cf.v)), x3, x4, x5]
theorem g_before {T : Tp} (hT : T.ok) {c : Cf} (hz : c.sz 1000) (S : Sto) : G_before_2 [T.v, c.v] S = .ok (.lst (sortD ((T.bef c (T.pls T.rows.length)).map Cf.v))) S := by
  have hl := hT.len
  have hprod : T.m * T.s ≤ 320 := by
    have : T.m * T.s ≤ 8 * 40 := Int.mul_le_mul hT.m8 hT.s40 (by have := hT.s1; omega) (by omega)
    omega
  refine rn_eq ?_
  unfold G_before_2
  rw [rn_runB]
  simp -dsimp [g_places hT]
  refine sn_forPM (f := T.plv) (I := bfI T c S) ⟨rfl, [], none, none, none, rfl, by simp [Tp.bef]⟩ ?_ ?_
  · intro k r ρ S' hk ⟨e, dn, x3, x4, x5, hdn, hρ⟩
    subst hρ e
    refine ⟨_, tgt_name, ?_⟩
    obtain ⟨hlt, hq, ha, rw_, hr, _⟩ := has_at hT hk
    have hgr := g_row' hT hq ha
    have hdl : dn.length ≤ 320 := by
      have h1 := congrArg List.length hdn
      have h2 := pls_len (T := T) (n := T.rows.length)
      simp at h1; omega
    have hbl := bef_len (T := T) (c := c) (ks := dn)
    have hdn' : (dn ++ [k]) ++ r = T.pls T.rows.length := by rw [← hdn]; simp
    have hb1 : T.bef c (dn ++ [k]) = T.bef c dn ++ (T.undo c ((k : Int) / T.m) ((k : Int) % T.m)).toList := by
      rw [bef_app]; congr 1
    by_cases ht : rw_.t = c.q
    · have hb : ∀ S, G__taken_back [c.v, T.plv k, rw_.v] S = .ok (ocf (T.undo c ((k : Int) / T.m) ((k : Int) % T.m))) S := g_taken_back hT hz hq ha hr ht
      cases eu : T.undo c ((k : Int) / T.m) ((k : Int) % T.m) with
      | none =>
        simp -dsimp [ix_plv0, ix_plv1, hgr, hr, ht, hb, eu]
        exact ⟨rfl, dn ++ [k], some (T.plv k), some rw_.v, some .non, hdn', by rw [hb1, eu]; simp⟩
      | some d =>
        have hbl2 : (T.bef c dn).length < 16777216 := by omega
        simp -dsimp [ix_plv0, ix_plv1, hgr, hr, ht, hb, eu, hbl2]
        exact ⟨rfl, dn ++ [k], some (T.plv k), some rw_.v, some d.v, hdn', by rw [hb1, eu]; simp⟩
    · have eu : T.undo c ((k : Int) / T.m) ((k : Int) % T.m) = none := by unfold Tp.undo; rw [hr]; dsimp only; rw [if_neg ht]
      simp -dsimp [ix_plv0, ix_plv1, hgr, hr, ht]
      exact ⟨rfl, dn ++ [k], some (T.plv k), some rw_.v, x5, hdn', by rw [hb1, eu]; simp⟩
  · intro ρ S' ⟨e, dn, x3, x4, x5, hdn, hρ⟩
    subst hρ e
    rw [List.append_nil] at hdn
    subst hdn
    simp -dsimp [v_sortD (okSD_cf _)]
end BK

/-! law k05: the law's own before -/
namespace BK
open PySem PySem.Spec L2 PM
def lbI (T : Tp) (c : Cf) (S0 : Sto) (i : Nat) (ρ : Ev) (S' : Sto) : Prop := S' = S0 ∧ ∃ x4 x5 x6, ρ = [some (.lst (T.rows.map orow)), some (iv [T.m, T.s]), some c.v, some (.lst ((T.bef c (T.pls i)).map Cf.v)), x4, x5, x6]
theorem g_law_before2 {T : Tp} (hT : T.ok) {c : Cf} (hc : c.ok T) (ht : c.tr) (hz : c.sz 900) (S : Sto) : G__law_before_2 [.lst (T.rows.map orow), iv [T.m, T.s], c.v] S = .ok (.lst (sortD ((T.bef c (T.pls T.rows.length)).map Cf.v))) S := by
  have hl := hT.len
  have m2 := hT.m2
  have m8 := hT.m8
  have hprod : T.m * T.s ≤ 320 := by
    have : T.m * T.s ≤ 8 * 40 := Int.mul_le_mul hT.m8 hT.s40 (by have := hT.s1; omega) (by omega)
    omega
  refine rn_eq ?_
  unfold G__law_before_2
  rw [rn_runB]
  simp -dsimp
  refine ⟨by omega, ?_⟩
  refine sn_forPR (I := lbI T c S) ⟨rfl, none, none, none, by simp [Tp.bef, Tp.pls]⟩ ?_ ?_
  · intro k ρ S' hk ⟨e, x4, x5, x6, hρ⟩
    subst hρ e
    refine ⟨_, tgt_name, ?_⟩
    have hx : atI (T.rows.map orow) (k : Int) = some (orow T.rows[k]) := by rw [atI_map, atI_n, List.getElem?_eq_getElem hk]; rfl
    have hb1 : T.bef c (T.pls (k + 1)) = T.bef c (T.pls k) ++ T.bef c (if T.has k then [k] else []) := by rw [pls_succ, bef_app]
    have hbl : (T.bef c (T.pls k)).length < 1000 := by
      have h1 := bef_len (T := T) (c := c) (ks := T.pls k)
      have h2 := pls_len (T := T) (n := k)
      omega
    cases e : T.rows[k] with
    | none =>
      have hh : T.has k = false := by unfold Tp.has; rw [List.getElem?_eq_getElem hk, e]; rfl
      simp -dsimp [hx, e]
      exact ⟨rfl, some (.int k), x5, x6, by rw [hb1, hh]; simp [Tp.bef]⟩
    | some r =>
      have hh : T.has k = true := by unfold Tp.has; rw [List.getElem?_eq_getElem hk, e]; rfl
      obtain ⟨_, hq, ha, r', hr, hr2⟩ := has_at hT (k := k) (List.mem_filter.mpr ⟨List.mem_range.mpr hk, hh⟩)
      rw [List.getElem?_eq_getElem hk, e] at hr2
      cases hr2
      have hb2 : T.bef c (T.pls (k + 1)) = T.bef c (T.pls k) ++ (T.undo c ((k : Int) / T.m) ((k : Int) % T.m)).toList := by
        rw [hb1, hh]; congr 1
      by_cases htt : r.t = c.q
      · obtain ⟨cq, l, a, rr⟩ := c
        obtain ⟨t1, t2⟩ := ht
        obtain ⟨l1, l2⟩ := hz
        have hl' := hc.l
        have hr' := hc.r
        have hca := hc.a
        dsimp only at *
        obtain ⟨hw0, hw1, hmv, _⟩ := hT.rok hq ha hr
        have m0 : 0 < T.m := by omega
        have mb : T.m < 1073741824 := by omega
        have k1 : ∀ ws : List Int, mks T.m ws → ws.length ≤ 2000 → ∀ S, G__law_trim [iv ws] S = .ok (iv (trim ws)) S := fun ws hw hl S => g_law_trim hw.nng (by omega) S
        have k0 := k1 [] (fun _ h => nomatch h) (by simp)
        have ra : ∀ c : Cf, ∀ g, goes (-r.mv) c.l c.a c.r = g → r.t = c.q → T.undo c ((k : Int) / T.m) ((k : Int) % T.m) = if g.2.1 = r.w then some ⟨(k : Int) / T.m, g.1, (k : Int) % T.m, g.2.2⟩ else none := fun c g hg h => by
          unfold Tp.undo; rw [hr]; dsimp only; rw [if_pos h, hg]
        rcases hmv with hmv | hmv
        · have kk := k1 (a :: rr) (fun x hx => by rcases List.mem_cons.mp hx with rfl | hx; exact hca; exact hr' x hx) (by simp; omega)
          cases l with
          | nil =>
            have n2 : ((0 : Int) = (rr.length : Int) + 1 + 1) = False := by first | (simp; done) | (simp; omega)
            have hg : goes (-r.mv) [] a rr = ([], 0, trim (a :: rr)) := by rw [hmv]; rfl
            have eu := ra ⟨cq, [], a, rr⟩ _ hg htt
            dsimp only at eu
            by_cases h : (0 : Int) = r.w
            · rw [if_pos h] at eu
              simp -dsimp (disch := first | assumption | omega | (simp only [List.length_cons, List.length_append, List.length_map, List.length_tail, List.length_reverse, List.length_nil, List.length_replicate, List.length_range]; omega)) [hx, e, htt, hmv, n2, tp7, tp8, tp9, kk, k0, ← h, m0, mb]
              exact ⟨by omega, rfl, some (.int k), _, _, by rw [hb2, eu, List.map_append]; rfl⟩
            · rw [if_neg h] at eu
              simp -dsimp (disch := first | assumption | omega | (simp only [List.length_cons, List.length_append, List.length_map, List.length_tail, List.length_reverse, List.length_nil, List.length_replicate, List.length_range]; omega)) [hx, e, htt, hmv, n2, tp7, tp8, tp9, kk, k0, h, m0, mb]
              exact ⟨rfl, some (.int k), _, _, by rw [hb2, eu, Option.toList, List.append_nil]⟩
          | cons y ys =>
            simp only [List.length_cons] at l1
            have n3 : (ys.length : Int) + 1 - 1 = (ys.length : Int) := by omega
            have n4 : ((ys.length : Int) < 0) = False := by first | (simp; done) | (simp; omega)
            have n5 : ((ys.length : Int) = (ys.length : Int) + ((rr.length : Int) + 1 + 1)) = False := by first | (simp; done) | (simp; omega)
            have t3 : trim ys = ys := trim_tlx t1
            have k2 := k1 ys (fun x hx => hl' x (List.mem_cons_of_mem _ hx)) (by omega)
            have hg : goes (-r.mv) (y :: ys) a rr = (ys, y, trim (a :: rr)) := by rw [hmv]; rfl
            have eu := ra ⟨cq, y :: ys, a, rr⟩ _ hg htt
            dsimp only at eu
            by_cases h : y = r.w
            · rw [if_pos h] at eu
              simp -dsimp (disch := first | assumption | omega | (simp only [List.length_cons, List.length_append, List.length_map, List.length_tail, List.length_reverse, List.length_nil, List.length_replicate, List.length_range]; omega)) [hx, e, htt, hmv, n3, n4, n5, tp4, tp5, tp6, tp5', tp4c, tp6c, kk, k2, t3, ← h, m0, mb]
              exact ⟨by omega, rfl, some (.int k), _, _, by rw [hb2, eu, List.map_append]; rfl⟩
            · rw [if_neg h] at eu
              simp -dsimp (disch := first | assumption | omega | (simp only [List.length_cons, List.length_append, List.length_map, List.length_tail, List.length_reverse, List.length_nil, List.length_replicate, List.length_range]; omega)) [hx, e, htt, hmv, n3, n4, n5, tp4, tp5, tp6, tp5', tp4c, tp6c, kk, k2, t3, h, m0, mb]
              exact ⟨rfl, some (.int k), _, _, by rw [hb2, eu, Option.toList, List.append_nil]⟩
        · have kk := k1 (a :: l) (fun x hx => by rcases List.mem_cons.mp hx with rfl | hx; exact hca; exact hl' x hx) (by simp; omega)
          have n3 : (l.length : Int) - -1 = (l.length : Int) + 1 := by omega
          have n1 : ((l.length : Int) + 1 < 0) = False := by simp; omega
          cases rr with
          | nil =>
            have hg : goes (-r.mv) l a [] = (trim (a :: l), 0, []) := by rw [hmv]; rfl
            have eu := ra ⟨cq, l, a, []⟩ _ hg htt
            dsimp only at eu
            by_cases h : (0 : Int) = r.w
            · rw [if_pos h] at eu
              simp -dsimp (disch := first | assumption | omega | (simp only [List.length_cons, List.length_append, List.length_map, List.length_tail, List.length_reverse, List.length_nil, List.length_replicate, List.length_range]; omega)) [hx, e, htt, hmv, n3, n1, tp1, tp2, tp3, tp2', tp1c, tp3c, kk, k0, ← h, m0, mb]
              exact ⟨by omega, rfl, some (.int k), _, _, by rw [hb2, eu, List.map_append]; rfl⟩
            · rw [if_neg h] at eu
              simp -dsimp (disch := first | assumption | omega | (simp only [List.length_cons, List.length_append, List.length_map, List.length_tail, List.length_reverse, List.length_nil, List.length_replicate, List.length_range]; omega)) [hx, e, htt, hmv, n3, n1, tp1, tp2, tp3, tp2', tp1c, tp3c, kk, k0, h, m0, mb]
              exact ⟨rfl, some (.int k), _, _, by rw [hb2, eu, Option.toList, List.append_nil]⟩
          | cons y ys =>
            simp only [List.length_cons] at l2
            have n2 : ((1 : Int) = (ys.length : Int) + 1 + 1) = False := by simp; omega
            have t3 : trim ys = ys := trim_tlx t2
            have k2 := k1 ys (fun x hx => hr' x (List.mem_cons_of_mem _ hx)) (by omega)
            have hg : goes (-r.mv) l a (y :: ys) = (trim (a :: l), y, ys) := by rw [hmv]; rfl
            have eu := ra ⟨cq, l, a, y :: ys⟩ _ hg htt
            dsimp only at eu
            by_cases h : y = r.w
            · rw [if_pos h] at eu
              simp -dsimp (disch := first | assumption | omega | (simp only [List.length_cons, List.length_append, List.length_map, List.length_tail, List.length_reverse, List.length_nil, List.length_replicate, List.length_range]; omega)) [hx, e, htt, hmv, n3, n1, n2, tp1, tp2, tp3, tp2', tp1c, tp3c, kk, k2, t3, ← h, m0, mb]
              exact ⟨by omega, rfl, some (.int k), _, _, by rw [hb2, eu, List.map_append]; rfl⟩
            · rw [if_neg h] at eu
              simp -dsimp (disch := first | assumption | omega | (simp only [List.length_cons, List.length_append, List.length_map, List.length_tail, List.length_reverse, List.length_nil, List.length_replicate, List.length_range]; omega)) [hx, e, htt, hmv, n3, n1, n2, tp1, tp2, tp3, tp2', tp1c, tp3c, kk, k2, t3, h, m0, mb]
              exact ⟨rfl, some (.int k), _, _, by rw [hb2, eu, Option.toList, List.append_nil]⟩
      · have eu : T.undo c ((k : Int) / T.m) ((k : Int) % T.m) = none := by unfold Tp.undo; rw [hr]; dsimp only; rw [if_neg htt]
        simp -dsimp [hx, e, htt]
        exact ⟨rfl, some (.int k), x5, x6, by rw [hb2, eu]; simp⟩
  · intro ρ S' ⟨e, x4, x5, x6, hρ⟩
    subst hρ e
    simp -dsimp [v_sortD (okSD_cf _)]
end BK

/-! law k05: clashes -/
namespace BK
open PySem PySem.Spec L2 PM
def rcl (a b : Rw) : Bool := decide (a.t = b.t) && (!decide (a.mv = b.mv) || decide (a.w = b.w))
def Tp.cl2 (T : Tp) (k j : Nat) : Bool := match (T.rows[k]?).join, (T.rows[j]?).join with
  | some a, some b => rcl a b
  | _, _ => false
/-- the pairs of k with what comes behind it, the first n of these -/
def Tp.clk (T : Tp) (k n : Nat) : List (Nat × Nat) := (((List.range n).map fun i => k + 1 + i).filter (T.cl2 k)).map fun j => (k, j)
def Tp.cls (T : Tp) (i : Nat) : List (Nat × Nat) := (List.range i).flatMap fun k => T.clk k (T.rows.length - (k + 1))
def Tp.prv (T : Tp) (p : Nat × Nat) : Val := .tup [T.plv p.1, T.plv p.2]
theorem clk_succ {T : Tp} {k n : Nat} : T.clk k (n + 1) = T.clk k n ++ (if T.cl2 k (k + 1 + n) then [(k, k + 1 + n)] else []) := by
  unfold Tp.clk
  rw [List.range_succ, List.map_append, List.filter_append, List.map_append]
  congr 1
  cases h : T.cl2 k (k + 1 + n) <;> simp [h]
theorem cls_succ {T : Tp} {i : Nat} : T.cls (i + 1) = T.cls i ++ T.clk i (T.rows.length - (i + 1)) := by
  unfold Tp.cls
  rw [List.range_succ, List.flatMap_append]; simp
theorem clk_len {T : Tp} {k n : Nat} : (T.clk k n).length ≤ n := by
  unfold Tp.clk
  rw [List.length_map]
  refine Nat.le_trans (List.length_filter_le _ _) ?_
  simp
theorem cls_len {T : Tp} : ∀ {i : Nat}, (T.cls i).length ≤ i * T.rows.length
  | 0 => by simp [Tp.cls]
  | i + 1 => by
    have h1 := cls_len (T := T) (i := i)
    have h2 := clk_len (T := T) (k := i) (n := T.rows.length - (i + 1))
    rw [cls_succ, List.length_append, Nat.add_mul]
    omega
def lcI (T : Tp) (S0 : Sto) (i : Nat) (ρ : Ev) (S' : Sto) : Prop := S' = S0 ∧ ∃ x3 x4 x5 x6, ρ = [some (.lst (T.rows.map orow)), some (iv [T.m, T.s]), some (.lst ((T.cls i).map T.prv)), x3, x4, x5, x6]
def lcJ (T : Tp) (S0 : Sto) (i n : Nat) (ρ : Ev) (S' : Sto) : Prop := S' = S0 ∧ ∃ x4 x5 x6, ρ = [some (.lst (T.rows.map orow)), some (iv [T.m, T.s]), some (.lst ((T.cls i ++ T.clk i n).map T.prv)), some (.int i), x4, x5, x6]
theorem g_law_clashes {T : Tp} (hT : T.ok) (S : Sto) : G__law_clashes [.lst (T.rows.map orow), iv [T.m, T.s]] S = .ok (.lst ((T.cls T.rows.length).map T.prv)) S := by
  have hl := hT.len
  have m2 := hT.m2
  have m8 := hT.m8
  have hprod : T.m * T.s ≤ 320 := by
    have : T.m * T.s ≤ 8 * 40 := Int.mul_le_mul hT.m8 hT.s40 (by have := hT.s1; omega) (by omega)
    omega
  have m0 : 0 < T.m := by omega
  have mb : T.m < 1073741824 := by omega
  refine rn_eq ?_
  unfold G__law_clashes
  rw [rn_runB]
  simp -dsimp
  refine ⟨by omega, ?_⟩
  refine sn_forPR (I := lcI T S) ⟨rfl, none, none, none, none, by simp [Tp.cls]⟩ ?_ ?_
  · intro i ρ S' hi ⟨e, x3, x4, x5, x6, hρ⟩
    subst hρ e
    refine ⟨_, tgt_name, ?_⟩
    simp -dsimp
    refine ⟨by omega, ?_⟩
    have hn : ((T.rows.length : Int) - ((i : Int) + 1)).toNat = T.rows.length - (i + 1) := by omega
    rw [hn]
    refine sn_forPR (I := lcJ T S' i) ⟨rfl, x4, x5, x6, by simp [Tp.clk]⟩ ?_ ?_
    · intro j ρ S2 hj ⟨e, x4, x5, x6, hρ⟩
      subst hρ e
      refine ⟨_, tgt_name, ?_⟩
      have hj2 : i + 1 + j < T.rows.length := by omega
      have hji : (i : Int) + 1 + (j : Int) = ((i + 1 + j : Nat) : Int) := by omega
      have hx : atI (T.rows.map orow) (i : Int) = some (orow T.rows[i]) := by rw [atI_map, atI_n, List.getElem?_eq_getElem hi]; rfl
      have hy : atI (T.rows.map orow) ((i + 1 + j : Nat) : Int) = some (orow T.rows[i + 1 + j]) := by rw [atI_map, atI_n, List.getElem?_eq_getElem hj2]; rfl
      have hcl : T.cl2 i (i + 1 + j) = (match T.rows[i], T.rows[i + 1 + j] with | some a, some b => rcl a b | _, _ => false) := by
        unfold Tp.cl2
        rw [List.getElem?_eq_getElem hi, List.getElem?_eq_getElem hj2]; rfl
      have hap : T.cls i ++ T.clk i (j + 1) = (T.cls i ++ T.clk i j) ++ (if T.cl2 i (i + 1 + j) then [(i, i + 1 + j)] else []) := by rw [clk_succ, List.append_assoc]
      have hb : (T.cls i ++ T.clk i j).length < 16777216 := by
        have h1 := cls_len (T := T) (i := i)
        have h2 := clk_len (T := T) (k := i) (n := j)
        have h3 : i * T.rows.length ≤ 320 * 320 := Nat.mul_le_mul (by omega) (by omega)
        rw [List.length_append]; omega
      have no : T.cl2 i (i + 1 + j) = false → ∀ y5 y6, lcJ T S2 i (j + 1) [some (.lst (T.rows.map orow)), some (iv [T.m, T.s]), some (.lst ((T.cls i ++ T.clk i j).map T.prv)), some (.int i), some (.int ((i + 1 + j : Nat) : Int)), y5, y6] S2 := fun h y5 y6 => ⟨rfl, some (.int ((i + 1 + j : Nat) : Int)), y5, y6, by rw [hap, h, if_neg (by decide), List.append_nil]⟩
      have yes : T.cl2 i (i + 1 + j) = true → ∀ y5 y6, lcJ T S2 i (j + 1) [some (.lst (T.rows.map orow)), some (iv [T.m, T.s]), some (.lst ((T.cls i ++ T.clk i j).map T.prv ++ [T.prv (i, i + 1 + j)])), some (.int i), some (.int ((i + 1 + j : Nat) : Int)), y5, y6] S2 := fun h y5 y6 => ⟨rfl, some (.int ((i + 1 + j : Nat) : Int)), y5, y6, by rw [hap, h, if_pos rfl, List.map_append (l₁ := T.cls i ++ T.clk i j)]; rfl⟩
      rw [hji]
      generalize T.cls i ++ T.clk i j = L at *
      have hap' := hap
      clear hap hji hap'
      generalize i + 1 + j = jj at *
      have lit : ∀ y5 y6, lcJ T S2 i (j + 1) [some (.lst (T.rows.map orow)), some (iv [T.m, T.s]), some (.lst (L.map T.prv ++ [.tup [.tup [.int ((i : Int) / T.m), .int ((i : Int) % T.m)], .tup [.int ((jj : Int) / T.m), .int ((jj : Int) % T.m)]]])), some (.int i), some (.int (jj : Int)), y5, y6] S2 ↔ lcJ T S2 i (j + 1) [some (.lst (T.rows.map orow)), some (iv [T.m, T.s]), some (.lst (L.map T.prv ++ [T.prv (i, jj)])), some (.int i), some (.int (jj : Int)), y5, y6] S2 := fun _ _ => Iff.rfl
      cases ea : T.rows[i] with
      | none =>
        rw [ea] at hcl
        have hno := no hcl
        simp -dsimp [hx, hy, ea, hno]
      | some a =>
        cases eb : T.rows[jj] with
        | none =>
          rw [ea, eb] at hcl
          have hno := no hcl
          simp -dsimp [hx, hy, ea, eb, hno]
        | some b =>
          rw [ea, eb] at hcl
          dsimp only at hcl
          by_cases h1 : a.t = b.t
          · by_cases h2 : a.mv = b.mv
            · by_cases h3 : a.w = b.w
              · have hyy := fun y5 y6 => (lit y5 y6).mpr (yes (by rw [hcl]; simp [rcl, h1, h2, h3]) y5 y6)
                simp -dsimp [hx, hy, ea, eb, h1, h2, h3, hb, m0, mb, hyy]
              · have hno := no (by rw [hcl]; simp [rcl, h1, h2, h3])
                simp -dsimp [hx, hy, ea, eb, h1, h2, h3, hno]
            · have hyy := fun y5 y6 => (lit y5 y6).mpr (yes (by rw [hcl]; simp [rcl, h1, h2]) y5 y6)
              simp -dsimp [hx, hy, ea, eb, h1, h2, hb, m0, mb, hyy]
          · have hno := no (by rw [hcl]; simp [rcl, h1])
            simp -dsimp [hx, hy, ea, eb, h1, hno]
    · intro ρ S2 ⟨e, x4, x5, x6, hρ⟩
      subst hρ e
      exact ⟨rfl, _, _, _, _, by rw [cls_succ]⟩
  · intro ρ S' ⟨e, x3, x4, x5, x6, hρ⟩
    subst hρ e
    simp -dsimp
end BK

/-! law k05: a configuration with two before it -/
namespace BK
open PySem PySem.Spec L2 PM
/-- the spot that the law makes of a pair -/
def two (a b : Rw) : Cf :=
  ⟨a.t, trim [if b.mv = 1 then b.w else if a.mv = 1 then a.w else 0], 0, trim [if b.mv = 1 then (if a.mv = 1 then 0 else a.w) else b.w]⟩
theorem g_law_two {T : Tp} (hT : T.ok) {p : Nat × Nat} {a b : Rw} (h1 : T.rows[p.1]? = some (some a)) (h2 : T.rows[p.2]? = some (some b)) (S : Sto) :
    G__law_two [.lst (T.rows.map orow), iv [T.m, T.s], T.prv p] S = .ok (two a b).v S := by
  refine rn_eq ?_
  unfold G__law_two
  rw [rn_runB]
  have m2 := hT.m2
  have m8 := hT.m8
  have c1 : -18446744073709551616 < T.m ∧ T.m < 18446744073709551616 := by omega
  have e1 : ((p.1 : Int) / T.m) * T.m + (p.1 : Int) % T.m = p.1 := by rw [Int.mul_comm]; exact Int.mul_ediv_add_emod _ _
  have e2 : ((p.2 : Int) / T.m) * T.m + (p.2 : Int) % T.m = p.2 := by rw [Int.mul_comm]; exact Int.mul_ediv_add_emod _ _
  have x1 : atI (T.rows.map orow) (p.1 : Int) = some a.v := by rw [atI_map, atI_n, h1]; rfl
  have x2 : atI (T.rows.map orow) (p.2 : Int) = some b.v := by rw [atI_map, atI_n, h2]; rfl
  have ra := hT.rows a (List.mem_of_getElem? h1)
  have rb := hT.rows b (List.mem_of_getElem? h2)
  have i0 : ∀ S, vIx (T.prv p) (.int 0) S = .ok (.tup [.int ((p.1 : Int) / T.m), .int ((p.1 : Int) % T.m)]) S := fun S => rfl
  have i1 : ∀ S, vIx (T.prv p) (.int 1) S = .ok (.tup [.int ((p.2 : Int) / T.m), .int ((p.2 : Int) % T.m)]) S := fun S => rfl
  have kk : ∀ w : Int, 0 ≤ w → ∀ S, G__law_trim [.tup [.int w]] S = .ok (iv (trim [w])) S := fun w hw S => by
    rw [show Val.tup [.int w] = iv [w] from rfl]
    exact g_law_trim (fun x hx => by rw [List.mem_singleton.mp hx]; exact hw) (by simp) S
  have q0 : ixN 3 0 = some 0 := by decide
  have q2 : ixN 3 2 = some 2 := by decide
  have z : ∀ S, G__law_trim [.tup [.int 0]] S = .ok (iv (trim [0])) S := kk 0 (by decide)
  have ka := kk a.w ra.1
  have kb := kk b.w rb.1
  obtain ⟨_, _, ma, _⟩ := ra
  obtain ⟨_, _, mb, _⟩ := rb
  rcases ma with ma | ma <;> rcases mb with mb | mb
  · simp -dsimp [i0, i1, c1, e1, e2, x1, x2, ma, mb, q0, q2, z, ka, kb]
    simp [two, ma, mb, Cf.v]
  · simp -dsimp [i0, i1, c1, e1, e2, x1, x2, ma, mb, q0, q2, z, ka, kb]
    simp [two, ma, mb, Cf.v]
  · simp -dsimp [i0, i1, c1, e1, e2, x1, x2, ma, mb, q0, q2, z, ka, kb]
    simp [two, ma, mb, Cf.v]
  · simp -dsimp [i0, i1, c1, e1, e2, x1, x2, ma, mb, q0, q2, z, ka, kb]
    simp [two, ma, mb, Cf.v]
end BK

/-! law k05: the program's clashes, forgets; what a clash means -/
namespace BK
open PySem PySem.Spec L2 PM
/-- the pairs among places -/
def Tp.pc (T : Tp) : List Nat → List (Nat × Nat)
  | [] => []
  | k :: r => ((r.filter (T.cl2 k)).map fun j => (k, j)) ++ T.pc r
theorem cl2_has {T : Tp} {k j : Nat} (h : T.cl2 k j = true) : T.has k = true ∧ T.has j = true := by
  unfold Tp.cl2 at h
  unfold Tp.has
  cases e1 : (T.rows[k]?).join with
  | none => rw [e1] at h; cases h
  | some a =>
    cases e2 : (T.rows[j]?).join with
    | none => rw [e1, e2] at h; cases h
    | some b => exact ⟨rfl, rfl⟩
theorem pc_range {T : Tp} : ∀ len s, T.pc ((List.range' s len).filter T.has) = (List.range' s len).flatMap fun k => ((List.range' (k + 1) (s + len - (k + 1))).filter (T.cl2 k)).map fun j => (k, j)
  | 0, s => rfl
  | len + 1, s => by
    rw [List.range'_succ, List.flatMap_cons]
    have ih := pc_range (T := T) len (s + 1)
    have e1 : ∀ k, s + (len + 1) - (k + 1) = s + 1 + len - (k + 1) := fun k => by omega
    simp only [e1]
    rw [← ih]
    have e2 : s + 1 + len - (s + 1) = len := by omega
    rw [e2]
    by_cases h : T.has s = true
    · rw [List.filter_cons_of_pos h]
      show ((((List.range' (s + 1) len).filter T.has).filter (T.cl2 s)).map fun j => (s, j)) ++ _ = _
      congr 2
      rw [List.filter_filter]
      apply List.filter_congr
      intro j _
      cases q : T.cl2 s j with
      | false => rfl
      | true => rw [(cl2_has q).2]; rfl
    · rw [List.filter_cons_of_neg h]
      have : (List.range' (s + 1) len).filter (T.cl2 s) = [] := by
        apply List.filter_eq_nil_iff.mpr
        intro j _ q
        exact h (cl2_has q).1
      rw [this]; rfl
theorem pc_cls {T : Tp} : T.pc (T.pls T.rows.length) = T.cls T.rows.length := by
  unfold Tp.pls Tp.cls Tp.clk
  rw [List.range_eq_range', pc_range]
  congr 1
  funext k
  congr 2
  rw [List.range'_eq_map_range, Nat.zero_add]
theorem pc_len {T : Tp} : ∀ {ks : List Nat}, (T.pc ks).length ≤ ks.length * ks.length
  | [] => Nat.le_refl _
  | k :: r => by
    have ih := pc_len (T := T) (ks := r)
    have h := List.length_filter_le (T.cl2 k) r
    show ((r.filter (T.cl2 k)).map (fun j => (k, j)) ++ T.pc r).length ≤ _
    rw [List.length_append, List.length_map, List.length_cons, Nat.add_mul, Nat.mul_add]
    omega
def clvI (T : Tp) (S0 : Sto) (r : List (Nat × Nat)) (ρ : Ev) (S' : Sto) : Prop := S' = S0 ∧ ∃ dn acc x3 x4 x5 x6 x7, dn ++ r.map Prod.fst = T.pls T.rows.length ∧ r = (r.map Prod.fst).zipIdx dn.length ∧ acc ++ T.pc (r.map Prod.fst) = T.cls T.rows.length ∧
  ρ = [some T.v, some (.lst ((T.pls T.rows.length).map T.plv)), some (.lst (acc.map T.prv)), x3, x4, x5, x6, x7]
def clwI (T : Tp) (S0 : Sto) (k i : Nat) (a : Rw) (acc : List (Nat × Nat)) (full : List Nat) (r : List Nat) (ρ : Ev) (S' : Sto) : Prop := S' = S0 ∧ ∃ dn x6 x7, dn ++ r = full ∧
  ρ = [some T.v, some (.lst ((T.pls T.rows.length).map T.plv)), some (.lst ((acc ++ (dn.filter (T.cl2 k)).map fun j => (k, j)).map T.prv)), some (.int i), some (T.plv k), some a.v, x6, x7]
def zpv (T : Tp) (p : Nat × Nat) : Val := .tup [.int (p.2 : Nat), T.plv p.1]
theorem zipE_plv {T : Tp} {ks : List Nat} : zipE (ks.map T.plv) = (ks.zipIdx).map (zpv T) := by
  unfold zipE zpv
  rw [List.zipIdx_map, List.map_map]
  rfl
theorem g_clashes {T : Tp} (hT : T.ok) (S : Sto) : G_clashes [T.v] S = .ok (.lst ((T.cls T.rows.length).map T.prv)) S := by
  have hl := hT.len
  have hprod : T.m * T.s ≤ 320 := by
    have : T.m * T.s ≤ 8 * 40 := Int.mul_le_mul hT.m8 hT.s40 (by have := hT.s1; omega) (by omega)
    omega
  have hpl := pls_len (T := T) (n := T.rows.length)
  refine rn_eq ?_
  unfold G_clashes
  rw [rn_runB]
  simp -dsimp [g_places hT]
  rw [zipE_plv]
  refine sn_forPM (f := zpv T) (I := clvI T S) ⟨rfl, [], [], none, none, none, none, none, ?_, ?_, ?_, rfl⟩ ?_ ?_
  · rw [List.nil_append, List.zipIdx_map_fst]
  · rw [List.zipIdx_map_fst]; rfl
  · rw [List.zipIdx_map_fst, List.nil_append, pc_cls]
  · intro p r ρ S' hp ⟨e, dn, acc, x3, x4, x5, x6, x7, hdn, hz, hac, hρ⟩
    subst hρ e
    obtain ⟨k, i⟩ := p
    rw [List.map_cons] at hdn hz hac
    rw [List.zipIdx_cons] at hz
    obtain ⟨hi, hz⟩ := List.cons.inj hz
    have hi : i = dn.length := (Prod.mk.inj hi).2
    refine ⟨[some T.v, some (.lst ((T.pls T.rows.length).map T.plv)), some (.lst (acc.map T.prv)), some (.int i), some (T.plv k), x5, x6, x7], rfl, ?_⟩
    have hk : k ∈ T.pls T.rows.length := by rw [← hdn]; simp
    obtain ⟨hlt, hq, ha, a, hr, hra⟩ := has_at hT hk
    have hgr := g_row' hT hq ha
    have hdrop : (T.pls T.rows.length).drop (i + 1) = r.map Prod.fst := by
      rw [← hdn, hi, List.drop_append]; simp
    have hcut : cutG ((T.pls T.rows.length).map T.plv) (some ((i : Int) + 1)) none = (r.map Prod.fst).map T.plv := by
      rw [show (i : Int) + 1 = ((i + 1 : Nat) : Int) by omega, cut_drop, ← List.map_drop, hdrop]
    simp -dsimp [ix_plv0, ix_plv1, hgr, hr, hcut]
    have hacl : (acc ++ ((r.map Prod.fst).filter (T.cl2 k)).map fun j => (k, j)).length ≤ 320 * 320 := by
      have h1 := congrArg List.length hac
      have h2 := cls_len (T := T) (i := T.rows.length)
      have h3 : T.rows.length * T.rows.length ≤ 320 * 320 := Nat.mul_le_mul (by omega) (by omega)
      rw [show T.pc (k :: r.map Prod.fst) = (((r.map Prod.fst).filter (T.cl2 k)).map fun j => (k, j)) ++ T.pc (r.map Prod.fst) from rfl, ← List.append_assoc, List.length_append] at h1
      omega
    rw [← List.map_map (f := Prod.fst) (g := T.plv)]
    refine sn_forPM (f := T.plv) (I := clwI T S' k i a acc (r.map Prod.fst)) ⟨rfl, [], x6, x7, rfl, by simp⟩ ?_ ?_
    · intro j r2 ρ S2 hj ⟨e, dn2, x6, x7, hdn2, hρ⟩
      subst hρ e
      refine ⟨[some T.v, some (.lst ((T.pls T.rows.length).map T.plv)), some (.lst ((acc ++ (dn2.filter (T.cl2 k)).map fun j => (k, j)).map T.prv)), some (.int i), some (T.plv k), some a.v, some (T.plv j), x7], rfl, ?_⟩
      have hj' : j ∈ T.pls T.rows.length := by
        rw [← hdn]
        exact List.mem_append_right _ (List.mem_cons_of_mem _ hj)
      obtain ⟨hlt2, hq2, ha2, b, hr2, hrb⟩ := has_at hT hj'
      have hgr2 := g_row' hT hq2 ha2
      have hcl : T.cl2 k j = rcl a b := by unfold Tp.cl2; rw [hra, hrb]; rfl
      have hlen : (acc ++ (dn2.filter (T.cl2 k)).map fun j => (k, j)).length < 1000000 := by
        have : (dn2.filter (T.cl2 k)).length ≤ ((r.map Prod.fst).filter (T.cl2 k)).length := by
          rw [← hdn2, List.filter_append, List.length_append]; omega
        rw [List.length_append, List.length_map] at hacl ⊢
        omega
      have hst : ∀ z, z = some b.v → clwI T S2 k i a acc (r.map Prod.fst) r2 [some T.v, some (.lst ((T.pls T.rows.length).map T.plv)), some (.lst ((acc ++ (dn2.filter (T.cl2 k)).map fun j => (k, j)).map T.prv ++ (if rcl a b then [T.prv (k, j)] else []))), some (.int i), some (T.plv k), some a.v, some (T.plv j), z] S2 := fun z _ => by
        refine ⟨rfl, dn2 ++ [j], some (T.plv j), z, by rw [← hdn2]; simp, ?_⟩
        rw [List.filter_append, ← hcl]
        cases h : T.cl2 k j <;> simp [h]
      have yes : rcl a b = true → clwI T S2 k i a acc (r.map Prod.fst) r2 [some T.v, some (.lst ((T.pls T.rows.length).map T.plv)), some (.lst ((acc ++ (dn2.filter (T.cl2 k)).map fun j => (k, j)).map T.prv ++ [.tup [T.plv k, T.plv j]])), some (.int i), some (T.plv k), some a.v, some (T.plv j), some b.v] S2 := fun h => by
        have := hst _ rfl; rw [if_pos h] at this; exact this
      have no : rcl a b = false → clwI T S2 k i a acc (r.map Prod.fst) r2 [some T.v, some (.lst ((T.pls T.rows.length).map T.plv)), some (.lst ((acc ++ (dn2.filter (T.cl2 k)).map fun j => (k, j)).map T.prv)), some (.int i), some (T.plv k), some a.v, some (T.plv j), some b.v] S2 := fun h => by
        have := hst _ rfl; rw [if_neg (by rw [h]; decide), List.append_nil] at this; exact this
      generalize acc ++ (dn2.filter (T.cl2 k)).map (fun j => (k, j)) = L at *
      by_cases h1 : a.t = b.t
      · by_cases h2 : a.mv = b.mv
        · by_cases h3 : a.w = b.w
          · have := yes (by simp [rcl, h1, h2, h3])
            simp -dsimp [ix_plv0, ix_plv1, hgr2, hr2, h1, h2, h3, this, hlen]
            omega
          · have := no (by simp [rcl, h1, h2, h3])
            simp -dsimp [ix_plv0, ix_plv1, hgr2, hr2, h1, h2, h3, this]
        · have := yes (by simp [rcl, h1, h2])
          simp -dsimp [ix_plv0, ix_plv1, hgr2, hr2, h1, h2, this, hlen]
          omega
      · have := no (by simp [rcl, h1])
        simp -dsimp [ix_plv0, ix_plv1, hgr2, hr2, h1, this]
    · intro ρ S2 ⟨e, dn2, x6, x7, hdn2, hρ⟩
      subst hρ e
      rw [List.append_nil] at hdn2
      subst hdn2
      refine ⟨rfl, dn ++ [k], _, _, _, _, _, _, by rw [← hdn]; simp, by rw [List.length_append, ← hi]; simpa [hi] using hz, ?_, rfl⟩
      rw [← hac]
      show _ = acc ++ ((((r.map Prod.fst).filter (T.cl2 k)).map fun j => (k, j)) ++ T.pc (r.map Prod.fst))
      rw [List.append_assoc]
  · intro ρ S' ⟨e, dn, acc, x3, x4, x5, x6, x7, hdn, hz, hac, hρ⟩
    subst hρ e
    have : acc = T.cls T.rows.length := by rw [← hac]; simp [Tp.pc]
    subst this
    simp -dsimp
theorem g_forgets {T : Tp} (hT : T.ok) (S : Sto) : G_forgets [T.v] S = .ok (.bl (decide (0 < (T.cls T.rows.length).length))) S := by
  refine rn_eq ?_
  unfold G_forgets
  rw [rn_runB]
  simp -dsimp [g_clashes hT]
/-! what a clash means -/
theorem mem_cls {T : Tp} {i : Nat} {p : Nat × Nat} : p ∈ T.cls i ↔ p.1 < i ∧ p.1 < p.2 ∧ p.2 < T.rows.length ∧ T.cl2 p.1 p.2 = true := by
  unfold Tp.cls Tp.clk
  rw [List.mem_flatMap]
  constructor
  · rintro ⟨k, hk, h⟩
    obtain ⟨j, hj, rfl⟩ := List.mem_map.mp h
    obtain ⟨h1, h2⟩ := List.mem_filter.mp hj
    obtain ⟨d, hd, rfl⟩ := List.mem_map.mp h1
    have := List.mem_range.mp hk
    have := List.mem_range.mp hd
    refine ⟨by assumption, by dsimp only; omega, by dsimp only; omega, h2⟩
  · rintro ⟨h1, h2, h3, h4⟩
    refine ⟨p.1, List.mem_range.mpr h1, List.mem_map.mpr ⟨p.2, List.mem_filter.mpr ⟨List.mem_map.mpr ⟨p.2 - (p.1 + 1), List.mem_range.mpr (by omega), by omega⟩, h4⟩, rfl⟩⟩
theorem cl2_rows {T : Tp} {k j : Nat} (h : T.cl2 k j = true) : ∃ a b, T.rows[k]? = some (some a) ∧ T.rows[j]? = some (some b) ∧ rcl a b = true := by
  unfold Tp.cl2 at h
  cases e1 : (T.rows[k]?).join with
  | none => rw [e1] at h; cases h
  | some a =>
    cases e2 : (T.rows[j]?).join with
    | none => rw [e1, e2] at h; cases h
    | some b =>
      rw [e1, e2] at h
      refine ⟨a, b, ?_, ?_, h⟩
      · cases q : T.rows[k]? with
        | none => rw [q] at e1; cases e1
        | some o => rw [q] at e1; exact congrArg some e1
      · cases q : T.rows[j]? with
        | none => rw [q] at e2; cases e2
        | some o => rw [q] at e2; exact congrArg some e2
theorem step_undo {T : Tp} (hT : T.ok) {c d : Cf} {q a : Int} (ht : c.tr) (hq : 0 ≤ q ∧ q < T.s) (ha : 0 ≤ a ∧ a < T.m) (e : T.undo c q a = some d) : T.step d = some c := by
  obtain ⟨t1, t2⟩ := ht
  unfold Tp.undo at e
  cases er : T.row q a with
  | none => rw [er] at e; cases e
  | some r =>
    rw [er] at e
    dsimp only at e
    obtain ⟨_, _, h3, _⟩ := hT.rok hq ha er
    split at e
    · rename_i h1
      split at e
      · rename_i h2
        cases e
        unfold Tp.step
        dsimp only
        rw [er]
        show some (r.app _) = some c
        congr 1
        unfold Rw.app
        dsimp only
        rw [← h2]
        obtain ⟨cq, cl, ca, cr⟩ := c
        dsimp only at *
        rcases h3 with h3 | h3
        · rw [h3]
          have := trim_ht t1
          simp [goes, trim_hd', trim_tl, t2, h1] at this ⊢
          exact this
        · rw [h3]
          have := trim_ht t2
          simp [goes, trim_hd', trim_tl, t1, h1] at this ⊢
          exact this
      · cases e
    · cases e
theorem undo_ok {T : Tp} (hT : T.ok) {c d : Cf} {q a : Int} (h : c.ok T) (hq : 0 ≤ q ∧ q < T.s) (ha : 0 ≤ a ∧ a < T.m) (e : T.undo c q a = some d) : d.ok T := by
  have hm : 0 < T.m := by have := hT.m2; omega
  unfold Tp.undo at e
  cases er : T.row q a with
  | none => rw [er] at e; cases e
  | some r =>
    rw [er] at e
    dsimp only at e
    split at e
    · split at e
      · cases e
        unfold goes
        split
        · exact ⟨hq, ha, h.l.trim h.a, h.r.tail⟩
        · exact ⟨hq, ha, h.l.tail, h.r.trim h.a⟩
      · cases e
    · cases e
theorem undo_tr {T : Tp} {c d : Cf} {q a : Int} (h : c.tr) (e : T.undo c q a = some d) : d.tr := by
  unfold Tp.undo at e
  cases er : T.row q a with
  | none => rw [er] at e; cases e
  | some r =>
    rw [er] at e
    dsimp only at e
    split at e
    · split at e
      · cases e
        unfold goes Cf.tr
        split
        · exact ⟨trim_trim _, trim_tail h.2⟩
        · exact ⟨trim_tail h.1, trim_trim _⟩
      · cases e
    · cases e
theorem mem_bef {T : Tp} (hT : T.ok) {c d : Cf} (h : d ∈ T.bef c (T.pls T.rows.length)) : ∃ q a, (0 ≤ q ∧ q < T.s) ∧ (0 ≤ a ∧ a < T.m) ∧ T.undo c q a = some d := by
  obtain ⟨k, hk, e⟩ := List.mem_filterMap.mp h
  obtain ⟨_, h1, h2, _⟩ := has_at hT hk
  exact ⟨_, _, h1, h2, e⟩
/-- rows that lead to one configuration clash -/
theorem undo_rcl {T : Tp} {c d d' : Cf} {k j : Nat} {a b : Rw} (hk : T.row ((k : Int) / T.m) ((k : Int) % T.m) = some a) (hj : T.row ((j : Int) / T.m) ((j : Int) % T.m) = some b)
    (e : T.undo c ((k : Int) / T.m) ((k : Int) % T.m) = some d) (e' : T.undo c ((j : Int) / T.m) ((j : Int) % T.m) = some d') : rcl a b = true := by
  unfold Tp.undo at e e'
  rw [hk] at e
  rw [hj] at e'
  dsimp only at e e'
  split at e
  · rename_i h1
    split at e
    · rename_i h2
      split at e'
      · rename_i h3
        split at e'
        · rename_i h4
          unfold rcl
          by_cases q : a.mv = b.mv
          · rw [q, h4] at h2
            simp [h1, h3, h2]
          · simp [h1, h3, q]
        · cases e'
      · cases e'
    · cases e
  · cases e
theorem bef_one {T : Tp} {c : Cf} : ∀ {ks : List Nat}, ks.Pairwise (· < ·) → (∀ k ∈ ks, ∀ j ∈ ks, k < j → T.undo c ((k : Int) / T.m) ((k : Int) % T.m) = none ∨ T.undo c ((j : Int) / T.m) ((j : Int) % T.m) = none) → (T.bef c ks).length ≤ 1
  | [], _, _ => by simp [Tp.bef]
  | k :: r, hp, h => by
    have ih := bef_one (List.pairwise_cons.mp hp).2 fun k hk j hj q => h k (List.mem_cons_of_mem _ hk) j (List.mem_cons_of_mem _ hj) q
    cases e : T.undo c ((k : Int) / T.m) ((k : Int) % T.m) with
    | none =>
      have : T.bef c (k :: r) = T.bef c r := List.filterMap_cons_none (f := fun (k : Nat) => T.undo c ((k : Int) / T.m) ((k : Int) % T.m)) e
      rw [this]; exact ih
    | some d =>
      have h0 : T.bef c r = [] := by
        unfold Tp.bef
        rw [List.filterMap_eq_nil_iff]
        intro j hj
        have := h k List.mem_cons_self j (List.mem_cons_of_mem _ hj) ((List.pairwise_cons.mp hp).1 j hj)
        rw [e] at this
        rcases this with q | q
        · cases q
        · exact q
      have : T.bef c (k :: r) = d :: T.bef c r := List.filterMap_cons_some (f := fun (k : Nat) => T.undo c ((k : Int) / T.m) ((k : Int) % T.m)) e
      rw [this, h0]; simp
theorem bef_le1 {T : Tp} (hT : T.ok) {c : Cf} (h : T.cls T.rows.length = []) : (T.bef c (T.pls T.rows.length)).length ≤ 1 := by
  refine bef_one ?_ ?_
  · exact List.Pairwise.filter _ List.pairwise_lt_range
  · intro k hk j hj hkj
    obtain ⟨hlt, _, _, a, hra, hka⟩ := has_at hT hk
    obtain ⟨hlt2, _, _, b, hrb, hkb⟩ := has_at hT hj
    cases e : T.undo c ((k : Int) / T.m) ((k : Int) % T.m) with
    | none => exact .inl rfl
    | some d =>
      cases e' : T.undo c ((j : Int) / T.m) ((j : Int) % T.m) with
      | none => exact .inr rfl
      | some d' =>
        exfalso
        have hc := undo_rcl hra hrb e e'
        have : (k, j) ∈ T.cls T.rows.length := mem_cls.mpr ⟨hlt, hkj, hlt2, by unfold Tp.cl2; rw [hka, hkb]; exact hc⟩
        rw [h] at this; cases this
theorem bef_ge2 {T : Tp} (hT : T.ok) {k j : Nat} {a b : Rw} (hkj : k < j) (hj : j < T.rows.length) (ha : T.rows[k]? = some (some a)) (hb : T.rows[j]? = some (some b)) (hc : rcl a b = true) : 2 ≤ (T.bef (two a b) (T.pls T.rows.length)).length := by
  have hsub : List.Sublist [k, j] (T.pls T.rows.length) := by
    have h1 : List.Sublist [k, j] (List.range T.rows.length) := by
      have e : List.range T.rows.length = List.range (k + 1) ++ (List.range' (k + 1) (T.rows.length - (k + 1))) := by
        rw [List.range_eq_range', List.range_eq_range', show T.rows.length = (k + 1) + (T.rows.length - (k + 1)) by omega, ← List.range'_append_1, Nat.zero_add]; simp
      rw [e]
      show List.Sublist ([k] ++ [j]) _
      refine List.Sublist.append ?_ ?_
      · exact List.singleton_sublist.mpr (List.mem_range.mpr (by omega))
      · exact List.singleton_sublist.mpr (List.mem_range'_1.mpr (by omega))
    have h2 := h1.filter T.has
    have hk1 : T.has k = true := by unfold Tp.has; rw [ha]; rfl
    have hj1 : T.has j = true := by unfold Tp.has; rw [hb]; rfl
    rw [show [k, j].filter T.has = [k, j] by simp [hk1, hj1]] at h2
    exact h2
  have hmemk : k ∈ T.pls T.rows.length := hsub.subset (by simp)
  have hmemj : j ∈ T.pls T.rows.length := hsub.subset (by simp)
  obtain ⟨_, hq1, ha1, a', hra, hra'⟩ := has_at hT hmemk
  rw [ha] at hra'; cases hra'
  obtain ⟨_, hq2, ha2, b', hrb, hrb'⟩ := has_at hT hmemj
  rw [hb] at hrb'; cases hrb'
  obtain ⟨_, _, ma, _⟩ := hT.rok hq1 ha1 hra
  obtain ⟨_, _, mb, _⟩ := hT.rok hq2 ha2 hrb
  unfold rcl at hc
  simp at hc
  obtain ⟨c1, c2⟩ := hc
  have u1 : (T.undo (two a b) ((k : Int) / T.m) ((k : Int) % T.m)).isSome = true := by
    unfold Tp.undo
    rw [hra]
    dsimp only
    rw [if_pos (show a.t = (two a b).q from rfl)]
    have : (goes (-a.mv) (two a b).l (two a b).a (two a b).r).2.1 = a.w := by
      rcases ma with ma | ma <;> rcases mb with mb | mb <;> simp [goes, two, ma, mb, trim_hd'] <;> (rcases c2 with c2 | c2 <;> first | exact c2.symm | exact c2 | (exfalso; exact c2 (ma.trans mb.symm)))
    rw [if_pos this]; rfl
  have u2 : (T.undo (two a b) ((j : Int) / T.m) ((j : Int) % T.m)).isSome = true := by
    unfold Tp.undo
    rw [hrb]
    dsimp only
    rw [if_pos (show b.t = (two a b).q from c1.symm)]
    have : (goes (-b.mv) (two a b).l (two a b).a (two a b).r).2.1 = b.w := by
      rcases ma with ma | ma <;> rcases mb with mb | mb <;> simp [goes, two, ma, mb, trim_hd']
    rw [if_pos this]; rfl
  have hl := (hsub.filterMap fun (k : Nat) => T.undo (two a b) ((k : Int) / T.m) ((k : Int) % T.m)).length_le
  obtain ⟨d1, e1⟩ := Option.isSome_iff_exists.mp u1
  obtain ⟨d2, e2⟩ := Option.isSome_iff_exists.mp u2
  have e3 : [k, j].filterMap (fun (k : Nat) => T.undo (two a b) ((k : Int) / T.m) ((k : Int) % T.m)) = [d1, d2] := by simp only [List.filterMap_cons, List.filterMap_nil, e1, e2]
  rw [e3] at hl
  exact hl
theorem two_ok {T : Tp} (hT : T.ok) {a b : Rw} (ha : a.ok T.m T.s) (hb : b.ok T.m T.s) : (two a b).ok T ∧ (two a b).tr ∧ (two a b).sz 1 := by
  have hm := hT.m2
  obtain ⟨a1, a2, a3, a4, a5⟩ := ha
  obtain ⟨b1, b2, b3, b4, b5⟩ := hb
  have mk1 : ∀ x : Int, 0 ≤ x ∧ x < T.m → mks T.m (trim [x]) := fun x hx => (show mks T.m [] from fun _ h => nomatch h).trim hx
  refine ⟨⟨⟨a4, a5⟩, ⟨Int.le_refl _, by show (0 : Int) < T.m; omega⟩, mk1 _ ?_, mk1 _ ?_⟩, ⟨trim_trim _, trim_trim _⟩, ⟨?_, ?_⟩⟩
  · split
    · exact ⟨b1, b2⟩
    · split
      · exact ⟨a1, a2⟩
      · omega
  · split
    · split
      · omega
      · exact ⟨a1, a2⟩
    · exact ⟨b1, b2⟩
  · exact trim_len _
  · exact trim_len _
end BK

/-! law k05 -/
namespace BK
open PySem PySem.Spec L2 PM
theorem sm_plv {T : Tp} {n k : Nat} : sm (n + 2) (T.plv k) = true := by unfold Tp.plv; simp
theorem sm_prv {T : Tp} {n : Nat} {p : Nat × Nat} : sm (n + 3) (T.prv p) = true := by unfold Tp.prv; simp [sm_plv]
theorem sm_prvs {T : Tp} {n : Nat} {l : List (Nat × Nat)} (h : l.length ≤ 1000000) : sm (n + 4) (.tup (l.map T.prv)) = true := by
  rw [sm_tup, List.length_map, List.all_map]; simp [Function.comp_def, sm_prv, h]
theorem mem_sortD {v : Val} {xs : List Val} : v ∈ sortD xs ↔ v ∈ xs := by unfold sortD; exact List.mem_mergeSort
theorem len_sortD {xs : List Val} : (sortD xs).length = xs.length := by unfold sortD; exact List.length_mergeSort _
theorem sm_cfsD {n k : Nat} {cs : List Cf} (h : ∀ c ∈ cs, c.sz k) (hk : k ≤ 1000000) (hl : cs.length ≤ 1000000) : sm (n + 4) (.tup (sortD (cs.map Cf.v))) = true := by
  rw [sm_tup, len_sortD, List.length_map, Bool.and_eq_true, decide_eq_true_iff, List.all_eq_true]
  refine ⟨hl, fun v hv => ?_⟩
  obtain ⟨c, hc, rfl⟩ := List.mem_map.mp (mem_sortD.mp hv)
  exact sm_cf (h c hc) hk
/-- a list with the values of a sorted list of configurations -/
theorem sortD_cfs (cs : List Cf) : ∃ ds : List Cf, sortD (cs.map Cf.v) = ds.map Cf.v ∧ ds.length = cs.length ∧ ∀ d ∈ ds, d ∈ cs := by
  have key : ∀ vs : List Val, (∀ v ∈ vs, ∃ c ∈ cs, v = c.v) → ∃ ds : List Cf, vs = ds.map Cf.v ∧ ∀ d ∈ ds, d ∈ cs := by
    intro vs
    induction vs with
    | nil => intro _; exact ⟨[], rfl, fun _ h => nomatch h⟩
    | cons v vs ih =>
      intro h
      obtain ⟨c, hc, rfl⟩ := h v List.mem_cons_self
      obtain ⟨ds, rfl, hd⟩ := ih fun w hw => h w (List.mem_cons_of_mem _ hw)
      exact ⟨c :: ds, rfl, fun d hd' => by
        rcases List.mem_cons.mp hd' with rfl | q
        · exact hc
        · exact hd d q⟩
  obtain ⟨ds, e, hd⟩ := key (sortD (cs.map Cf.v)) fun v hv => by
    obtain ⟨c, hc, rfl⟩ := List.mem_map.mp (mem_sortD.mp hv)
    exact ⟨c, hc, rfl⟩
  refine ⟨ds, e, ?_, hd⟩
  have := congrArg List.length e
  rw [len_sortD, List.length_map, List.length_map] at this
  exact this.symm
structure Spot (T : Tp) (c : Cf) : Prop where
  ok : c.ok T
  tr : c.tr
  sz : c.sz 10
def e5 (ns ds : List Int) (T : Tp) (c : Cf) (ps : List Cf) (x10 x11 x12 : Option Val) : Ev := [some (.fz (ns.map .int)), some (il ds), some (.loc 0), some (iv [T.m, T.s]), some (.lst (T.rows.map orow)), some T.v, some c.v, some (.lst ((T.cls T.rows.length).map T.prv)), some (.lst ((T.cls T.rows.length).map T.prv)), some (.lst (ps.map Cf.v)), x10, x11, x12]
noncomputable def body12 : SM := (sIf (tNotM (tTruP (eCallN 2 (G__law_same 5) (aCons (eCallN 3 G__law_step_2 (aCons (eVar 4) (aCons (eBinP vIx (eVar 3) (eC (.int 0))) (aCons (eVar 12) aNil)))) (aCons (eBinP vIx (eVar 9) (eVar 10)) aNil))))) (sRet (eC (.bl false)))
    sNext)
noncomputable def body5 : SM := (sSeq (sSet 11 (eCallN 2 G_before_2 (aCons (eVar 5) (aCons (eBinP vIx (eVar 9) (eVar 10)) aNil))))
    (sSeq (sIf (tOrM (tNotM (tTruP (eBIP vIsi (aCons (eVar 11) (aCons (eC (.ty .lst)) aNil))))) (tNotM (tTruP (eCallN 2 (G__law_same 5) (aCons (eBIP vTuple (aCons (eVar 11) aNil)) (aCons (eBIP vTuple (aCons (eCallN 3 G__law_before_2 (aCons (eVar 4) (aCons (eVar 3) (aCons (eBinP vIx (eVar 9) (eVar 10)) aNil)))) aNil)) aNil)))))) (sRet (eC (.bl false)))
    sNext)
    (sSeq (sIf (tAndM (tB (eBinP vGt (eBIP vLen (aCons (eVar 11) aNil)) (eC (.int 1)))) (tB (eBinP vEq (eBIP vLen (aCons (eVar 7) aNil)) (eC (.int 0))))) (sRet (eC (.bl false)))
    sNext)
    (sSeq (sIf (tAndM (tB (eBinP vEq (eVar 10) (eC (.int 1)))) (tB (eBinP vLt (eBIP vLen (aCons (eVar 11) aNil)) (eC (.int 2))))) (sRet (eC (.bl false)))
    sNext)
    (sForP (iSeqP (eVar 11)) (.name 12)
    (sIf (tNotM (tTruP (eCallN 2 (G__law_same 5) (aCons (eCallN 3 G__law_step_2 (aCons (eVar 4) (aCons (eBinP vIx (eVar 3) (eC (.int 0))) (aCons (eVar 12) aNil)))) (aCons (eBinP vIx (eVar 9) (eVar 10)) aNil))))) (sRet (eC (.bl false)))
    sNext))))))
def l5I (ns ds : List Int) (T : Tp) (c : Cf) (ps : List Cf) (p : Nat) (ρ : Ev) (S : Sto) : Prop := S = cl p ∧ ∃ x10 x11 x12, ρ = e5 ns ds T c ps x10 x11 x12
theorem body5_ok {ns ds : List Int} {T : Tp} (hT : T.ok) {c : Cf} {ps : List Cf} {p i : Nat} (hi : i < ps.length) (hp : ∀ d ∈ ps, Spot T d) (h2 : ∀ d, ps[1]? = some d → 2 ≤ (T.bef d (T.pls T.rows.length)).length) {x11 x12 : Option Val} {R : Val → Sto → Prop} {N : Ev → Sto → Prop} {E : Nat → List Val → Ev → Sto → Prop} :
    Sn (body5 (e5 ns ds T c ps (some (.int i)) x11 x12) (cl p)) ⟨l5I ns ds T c ps p, R, N, l5I ns ds T c ps p, E⟩ := by
  have hprod : T.m * T.s ≤ 320 := by
    have : T.m * T.s ≤ 8 * 40 := Int.mul_le_mul hT.m8 hT.s40 (by have := hT.s1; omega) (by omega)
    omega
  have hlen := hT.len
  have hpi : ps[i]? = some ps[i] := List.getElem?_eq_getElem hi
  obtain ⟨d, hd⟩ : ∃ d, d = ps[i] := ⟨_, rfl⟩
  rw [← hd] at hpi
  have sp := hp d (List.mem_of_getElem? hpi)
  have hx : atI (ps.map Cf.v) (i : Int) = some d.v := by rw [atI_map, atI_n, hpi]; rfl
  have z9 : d.sz 900 := ⟨by have := sp.sz.1; omega, by have := sp.sz.2; omega⟩
  have z10 : d.sz 1000 := ⟨by have := sp.sz.1; omega, by have := sp.sz.2; omega⟩
  have b1 := g_before hT z10
  have b2 := g_law_before2 hT sp.ok sp.tr z9
  obtain ⟨cs, e1, e2, e3⟩ := sortD_cfs (T.bef d (T.pls T.rows.length))
  have hbl := bef_len (T := T) (c := d) (ks := T.pls T.rows.length)
  have hpl := pls_len (T := T) (n := T.rows.length)
  have hcs : ∀ f ∈ cs, f.ok T ∧ f.tr ∧ f.sz 11 ∧ T.step f = some d := fun f hf => by
    obtain ⟨q, a, hq, ha, hu⟩ := mem_bef hT (e3 f hf)
    exact ⟨undo_ok hT sp.ok hq ha hu, undo_tr sp.tr hu, undo_sz sp.sz hu, step_undo hT sp.tr hq ha hu⟩
  have q1 : ∀ S, G__law_same 5 [.tup (cs.map Cf.v), .tup (cs.map Cf.v)] S = .ok (.bl true) S := fun S => by
    rw [← e1]; exact g_same 5 _ S (sm_cfsD (n := 1) (k := 11) (fun c hc => by
      obtain ⟨q, a, hq, ha, hu⟩ := mem_bef hT hc
      exact undo_sz sp.sz hu) (by omega) (by omega))
  rw [e1] at b1 b2
  have m1 : ∀ S, G_before_2 [tapeV T.m T.s T.rows, d.v] S = .ok (.lst (cs.map Cf.v)) S := b1
  have nocl : 1 < cs.length → (T.cls T.rows.length).length = 0 → False := fun h1 h0 => by
    have := bef_le1 hT (c := d) (List.eq_nil_of_length_eq_zero h0)
    omega
  have nol : i = 1 → cs.length < 2 → False := fun h1 h0 => by
    have := h2 d (h1 ▸ hpi)
    omega
  have fin : Sn (forP (.name 12) body12 (cs.map Cf.v) (e5 ns ds T c ps (some (.int i)) (some (.lst (cs.map Cf.v))) x12) (cl p)) ⟨l5I ns ds T c ps p, R, N, l5I ns ds T c ps p, E⟩ := by
    refine sn_forPM (f := Cf.v) (I := fun _ ρ S' => S' = cl p ∧ ∃ x12, ρ = e5 ns ds T c ps (some (.int i)) (some (.lst (cs.map Cf.v))) x12) ⟨rfl, _, rfl⟩ ?_ ?_
    · intro f r ρ S' hf ⟨e, x12, hρ⟩
      subst hρ e
      refine ⟨_, tgt_name, ?_⟩
      obtain ⟨f1, f2, f3, f4⟩ := hcs f hf
      have f5 := g_law_step2 hT f1 ⟨by have := f3.1; omega, by have := f3.2; omega⟩ f2
      rw [f4] at f5
      have f6 : ∀ S, G__law_same 5 [d.v, d.v] S = .ok (.bl true) S := fun S => g_same 5 _ S (sm_cf sp.sz (by omega))
      unfold body12 e5
      simp -dsimp [f5, f6, hx] <;> exact ⟨rfl, _, rfl⟩
    · intro ρ S' ⟨e, x12, hρ⟩
      subst hρ e
      exact ⟨rfl, _, _, _, rfl⟩
  have k1 : (1 : Int) < cs.length → T.cls T.rows.length = [] → False := fun h1 h0 => nocl (by omega) (by rw [h0]; rfl)
  have k2 : (i : Int) = 1 → (cs.length : Int) < 2 → False := fun h1 h0 => nol (by omega) (by omega)
  have fin' := fin
  unfold body12 e5 at fin'
  unfold body5 e5
  simp -dsimp [hx, b1, b2, q1]
  exact ⟨fun h1 => ⟨fun h0 => (k1 h1 h0).elim, fun _ => ⟨fun h2 => ⟨fun h3 => (k2 h2 h3).elim, fun _ => fin'⟩, fun _ => fin'⟩⟩, fun _ => ⟨fun h2 => ⟨fun h3 => (k2 h2 h3).elim, fun _ => fin'⟩, fun _ => fin'⟩⟩
theorem law_k05 (ns : List Int) (h : ns.length ≤ 63) : ∃ Z, G_law_5 [.fz (ns.map Val.int)] Z0 = .ok (.bl true) Z := by
  obtain ⟨ds, e0, hl, hd⟩ := g_numbers ns h 60 (by decide) Z0
  have e0' : G__law_numbers [.fz (ns.map Val.int), .int 60] Z0 = .ok (il ds) Z0 := e0
  have : Rn (G_law_5 [.fz (ns.map Val.int)] Z0) (fun v _ => v = .bl true) X0 := by
    unfold G_law_5
    rw [rn_runB]
    simp -dsimp [e0']
    rw [cl_new]
    obtain ⟨m, s, p1, m2, m8, s1, s40, e1⟩ := g_sizes hd 0
    obtain ⟨rows, p2, hrl, hro, e2⟩ := g_machine hd m2 m8 s1 s40 p1
    obtain ⟨c, p3, hc, hct, hcz, e3⟩ := g_configuration hd (m := m) (s := s) (most := 4) (by omega) s1 (by omega) (by omega) p2
    have hti := g_tape_init m2 m8 s1 s40 hrl hro
    obtain ⟨T, hTd⟩ : ∃ T : Tp, T = ⟨m, s, rows⟩ := ⟨_, rfl⟩
    have hT : T.ok := by rw [hTd]; exact ⟨m2, m8, s1, s40, hrl, hro⟩
    have hcT : c.ok T := hTd ▸ hc rows
    have hprod : T.m * T.s ≤ 320 := by
      have : T.m * T.s ≤ 8 * 40 := Int.mul_le_mul hT.m8 hT.s40 (by have := hT.s1; omega) (by omega)
      omega
    have hlen := hT.len
    have g1 : ∀ S, G__law_clashes [.lst (rows.map orow), iv [m, s]] S = .ok (.lst ((T.cls T.rows.length).map T.prv)) S := fun S => by have := g_law_clashes hT S; rw [hTd] at this ⊢; exact this
    have g2 : ∀ S, G_clashes [tapeV m s rows] S = .ok (.lst ((T.cls T.rows.length).map T.prv)) S := fun S => by have := g_clashes hT S; rw [hTd] at this ⊢; exact this
    have g3 : ∀ S, G_forgets [tapeV m s rows] S = .ok (.bl (decide (0 < (T.cls T.rows.length).length))) S := fun S => by have := g_forgets hT S; rw [hTd] at this ⊢; exact this
    have hcl : (T.cls T.rows.length).length ≤ 320 * 320 := by
      have h2 := cls_len (T := T) (i := T.rows.length)
      have h3 : T.rows.length * T.rows.length ≤ 320 * 320 := Nat.mul_le_mul (by omega) (by omega)
      omega
    have q1 : ∀ S, G__law_same 5 [.tup ((T.cls T.rows.length).map T.prv), .tup ((T.cls T.rows.length).map T.prv)] S = .ok (.bl true) S := fun S => g_same 5 _ S (sm_prvs (by omega))
    have hsp : Spot T c := ⟨hcT, hct, ⟨by have := hcz.1; omega, by have := hcz.2; omega⟩⟩
    have hmS : T.m = m ∧ T.s = s ∧ T.rows = rows := by rw [hTd]; exact ⟨rfl, rfl, rfl⟩
    -- the loop over the spots
    have loop : ∀ (ps : List Cf) (p : Nat) (x10 x11 x12 : Option Val) (R : Val → Sto → Prop) (X : Nat → List Val → Sto → Prop) (N : Ev → Sto → Prop), (∀ d ∈ ps, Spot T d) → (∀ d, ps[1]? = some d → 2 ≤ (T.bef d (T.pls T.rows.length)).length) → True := fun _ _ _ _ _ _ _ _ _ _ => trivial
    clear loop
    simp -dsimp [e1, e2, e3, hti, g1, g2, q1, g3]
    have tail : ∀ (ps : List Cf) (p : Nat) (x12 : Option Val) {R : Val → Sto → Prop} {N : Ev → Sto → Prop} {B C : Ev → Sto → Prop} {E : Nat → List Val → Ev → Sto → Prop}, (∀ d ∈ ps, Spot T d) → (∀ d, ps[1]? = some d → 2 ≤ (T.bef d (T.pls T.rows.length)).length) → (∀ ρ S, l5I ns ds T c ps p ρ S → N ρ S) →
        Sn (forP (.name 10) body5 (rangeL 0 ps.length) (e5 ns ds T c ps none none x12) (cl p)) ⟨N, R, B, C, E⟩ := by
      intro ps p x12 R N B C E h1 h2 h3
      refine sn_forPR (I := fun _ ρ S => l5I ns ds T c ps p ρ S) ⟨rfl, _, _, _, rfl⟩ ?_ h3
      intro i ρ S hi ⟨e, x10, x11, x12, hρ⟩
      subst hρ e
      refine ⟨_, tgt_name, ?_⟩
      have := body5_ok (ns := ns) (ds := ds) hT (c := c) (p := p) hi h1 h2 (x11 := x11) (x12 := x12) (R := R) (N := N) (E := E)
      rw [show (0 : Int) + (i : Int) = (i : Int) by omega]
      exact this
    refine ⟨fun hc => ?_, fun hc => ?_⟩
    · obtain ⟨z, p4, z0, z1, e4⟩ := g_take hd p3
      have hi0 : 0 ≤ z % ((T.cls T.rows.length).length : Int) := Int.emod_nonneg _ (by omega)
      have hi1 : z % ((T.cls T.rows.length).length : Int) < ((T.cls T.rows.length).length : Int) := Int.emod_lt_of_pos _ (by omega)
      obtain ⟨pr, epr, hpr⟩ := atI_mem (l := T.cls T.rows.length) hi0 hi1
      have epr' : atI ((T.cls T.rows.length).map T.prv) (z % ((T.cls T.rows.length).length : Int)) = some (T.prv pr) := by rw [atI_map, epr]; rfl
      obtain ⟨h1, h2, h3, h4⟩ := mem_cls.mp hpr
      obtain ⟨a, b, ra, rb, rc⟩ := cl2_rows h4
      have hl0 : (0 : Int) < ((T.cls T.rows.length).length : Int) := by omega
      have hl1 : ((T.cls T.rows.length).length : Int) < 1073741824 := by omega
      have htw : ∀ S, G__law_two [.lst (rows.map orow), iv [m, s], T.prv pr] S = .ok (two a b).v S := fun S => by have := g_law_two hT ra rb S; rw [hTd] at this ⊢; exact this
      obtain ⟨w1, w2, w3⟩ := two_ok hT (hT.rows a (List.mem_of_getElem? ra)) (hT.rows b (List.mem_of_getElem? rb))
      have hsp2 : Spot T (two a b) := ⟨w1, w2, ⟨by have := w3.1; omega, by have := w3.2; omega⟩⟩
      have hg2 := bef_ge2 hT h2 h3 ra rb rc
      simp -dsimp [e4, epr', hl0, hl1, htw]
      refine ⟨hc, ?_⟩
      subst hTd
      refine tail [c, two a b] p4 none (fun d hd => ?_) (fun d hd => ?_) ?_
      · rcases List.mem_cons.mp hd with rfl | hd
        · exact hsp
        · rw [List.mem_singleton.mp hd]; exact hsp2
      · cases hd; exact hg2
      · intro ρ S ⟨e, x10, x11, x12, hρ⟩
        subst hρ e
        unfold e5
        simp -dsimp
    · subst hTd
      refine tail [c] p3 none (fun d hd => ?_) (fun d hd => ?_) ?_
      · rw [List.mem_singleton.mp hd]; exact hsp
      · cases hd
      · intro ρ S ⟨e, x10, x11, x12, hρ⟩
        subst hρ e
        unfold e5
        simp -dsimp
  obtain ⟨v, S', e, rfl⟩ := this.get
  exact ⟨S', e⟩
end BK

/-! law k82: the law's own way back -/
namespace BK
open PySem PySem.Spec L2 PM
def lkI (T : Tp) (c : Cf) (S0 : Sto) (i : Nat) (ρ : Ev) (S' : Sto) : Prop := S' = S0 ∧ ∃ x4 x5 x6, ρ = [some (.lst (T.rows.map orow)), some (.int T.m), some c.v, some (.lst ((T.bef c (T.pls i)).map Cf.v)), x4, x5, x6]
theorem g_law_back {T : Tp} (hT : T.ok) {c : Cf} (hc : c.ok T) (ht : c.tr) (hz : c.sz 900) (S : Sto) : G__law_back [.lst (T.rows.map orow), .int T.m, c.v] S = .ok (.lst ((T.bef c (T.pls T.rows.length)).map Cf.v)) S := by
  have hl := hT.len
  have m2 := hT.m2
  have m8 := hT.m8
  have hprod : T.m * T.s ≤ 320 := by
    have : T.m * T.s ≤ 8 * 40 := Int.mul_le_mul hT.m8 hT.s40 (by have := hT.s1; omega) (by omega)
    omega
  refine rn_eq ?_
  unfold G__law_back
  rw [rn_runB]
  simp -dsimp
  refine ⟨by omega, ?_⟩
  refine sn_forPR (I := lkI T c S) ⟨rfl, none, none, none, by simp [Tp.bef, Tp.pls]⟩ ?_ ?_
  · intro k ρ S' hk ⟨e, x4, x5, x6, hρ⟩
    subst hρ e
    refine ⟨_, tgt_name, ?_⟩
    have hx : atI (T.rows.map orow) (k : Int) = some (orow T.rows[k]) := by rw [atI_map, atI_n, List.getElem?_eq_getElem hk]; rfl
    have hb1 : T.bef c (T.pls (k + 1)) = T.bef c (T.pls k) ++ T.bef c (if T.has k then [k] else []) := by rw [pls_succ, bef_app]
    have hbl : (T.bef c (T.pls k)).length < 1000 := by
      have h1 := bef_len (T := T) (c := c) (ks := T.pls k)
      have h2 := pls_len (T := T) (n := k)
      omega
    cases e : T.rows[k] with
    | none =>
      have hh : T.has k = false := by unfold Tp.has; rw [List.getElem?_eq_getElem hk, e]; rfl
      simp -dsimp [hx, e]
      exact ⟨rfl, some (.int k), x5, x6, by rw [hb1, hh]; simp [Tp.bef]⟩
    | some r =>
      have hh : T.has k = true := by unfold Tp.has; rw [List.getElem?_eq_getElem hk, e]; rfl
      obtain ⟨_, hq, ha, r', hr, hr2⟩ := has_at hT (k := k) (List.mem_filter.mpr ⟨List.mem_range.mpr hk, hh⟩)
      rw [List.getElem?_eq_getElem hk, e] at hr2
      cases hr2
      have hb2 : T.bef c (T.pls (k + 1)) = T.bef c (T.pls k) ++ (T.undo c ((k : Int) / T.m) ((k : Int) % T.m)).toList := by
        rw [hb1, hh]; congr 1
      by_cases htt : r.t = c.q
      · obtain ⟨cq, l, a, rr⟩ := c
        obtain ⟨t1, t2⟩ := ht
        obtain ⟨l1, l2⟩ := hz
        have hl' := hc.l
        have hr' := hc.r
        have hca := hc.a
        dsimp only at *
        obtain ⟨hw0, hw1, hmv, _⟩ := hT.rok hq ha hr
        have m0 : 0 < T.m := by omega
        have mb : T.m < 1073741824 := by omega
        have k1 : ∀ ws : List Int, mks T.m ws → ws.length ≤ 2000 → ∀ S, G__law_trim [iv ws] S = .ok (iv (trim ws)) S := fun ws hw hl S => g_law_trim hw.nng (by omega) S
        have k0 := k1 [] (fun _ h => nomatch h) (by simp)
        have ra : ∀ c : Cf, ∀ g, goes (-r.mv) c.l c.a c.r = g → r.t = c.q → T.undo c ((k : Int) / T.m) ((k : Int) % T.m) = if g.2.1 = r.w then some ⟨(k : Int) / T.m, g.1, (k : Int) % T.m, g.2.2⟩ else none := fun c g hg h => by
          unfold Tp.undo; rw [hr]; dsimp only; rw [if_pos h, hg]
        rcases hmv with hmv | hmv
        · have kk := k1 (a :: rr) (fun x hx => by rcases List.mem_cons.mp hx with rfl | hx; exact hca; exact hr' x hx) (by simp; omega)
          cases l with
          | nil =>
            have n2 : ((0 : Int) = (rr.length : Int) + 1 + 1) = False := by first | (simp; done) | (simp; omega)
            have hg : goes (-r.mv) [] a rr = ([], 0, trim (a :: rr)) := by rw [hmv]; rfl
            have eu := ra ⟨cq, [], a, rr⟩ _ hg htt
            dsimp only at eu
            by_cases h : (0 : Int) = r.w
            · rw [if_pos h] at eu
              simp -dsimp (disch := first | assumption | omega | (simp only [List.length_cons, List.length_append, List.length_map, List.length_tail, List.length_reverse, List.length_nil, List.length_replicate, List.length_range]; omega)) [hx, e, htt, hmv, n2, tp7, tp8, tp9, kk, k0, ← h, m0, mb]
              exact ⟨by omega, rfl, some (.int k), _, _, by rw [hb2, eu, List.map_append]; rfl⟩
            · rw [if_neg h] at eu
              simp -dsimp (disch := first | assumption | omega | (simp only [List.length_cons, List.length_append, List.length_map, List.length_tail, List.length_reverse, List.length_nil, List.length_replicate, List.length_range]; omega)) [hx, e, htt, hmv, n2, tp7, tp8, tp9, kk, k0, h, m0, mb]
              exact ⟨rfl, some (.int k), _, _, by rw [hb2, eu, Option.toList, List.append_nil]⟩
          | cons y ys =>
            simp only [List.length_cons] at l1
            have n3 : (ys.length : Int) + 1 - 1 = (ys.length : Int) := by omega
            have n4 : ((ys.length : Int) < 0) = False := by first | (simp; done) | (simp; omega)
            have n5 : ((ys.length : Int) = (ys.length : Int) + ((rr.length : Int) + 1 + 1)) = False := by first | (simp; done) | (simp; omega)
            have t3 : trim ys = ys := trim_tlx t1
            have k2 := k1 ys (fun x hx => hl' x (List.mem_cons_of_mem _ hx)) (by omega)
            have hg : goes (-r.mv) (y :: ys) a rr = (ys, y, trim (a :: rr)) := by rw [hmv]; rfl
            have eu := ra ⟨cq, y :: ys, a, rr⟩ _ hg htt
            dsimp only at eu
            by_cases h : y = r.w
            · rw [if_pos h] at eu
              simp -dsimp (disch := first | assumption | omega | (simp only [List.length_cons, List.length_append, List.length_map, List.length_tail, List.length_reverse, List.length_nil, List.length_replicate, List.length_range]; omega)) [hx, e, htt, hmv, n3, n4, n5, tp4, tp5, tp6, tp5', tp4c, tp6c, kk, k2, t3, ← h, m0, mb]
              exact ⟨by omega, rfl, some (.int k), _, _, by rw [hb2, eu, List.map_append]; rfl⟩
            · rw [if_neg h] at eu
              simp -dsimp (disch := first | assumption | omega | (simp only [List.length_cons, List.length_append, List.length_map, List.length_tail, List.length_reverse, List.length_nil, List.length_replicate, List.length_range]; omega)) [hx, e, htt, hmv, n3, n4, n5, tp4, tp5, tp6, tp5', tp4c, tp6c, kk, k2, t3, h, m0, mb]
              exact ⟨rfl, some (.int k), _, _, by rw [hb2, eu, Option.toList, List.append_nil]⟩
        · have kk := k1 (a :: l) (fun x hx => by rcases List.mem_cons.mp hx with rfl | hx; exact hca; exact hl' x hx) (by simp; omega)
          have n3 : (l.length : Int) - -1 = (l.length : Int) + 1 := by omega
          have n1 : ((l.length : Int) + 1 < 0) = False := by simp; omega
          cases rr with
          | nil =>
            have hg : goes (-r.mv) l a [] = (trim (a :: l), 0, []) := by rw [hmv]; rfl
            have eu := ra ⟨cq, l, a, []⟩ _ hg htt
            dsimp only at eu
            by_cases h : (0 : Int) = r.w
            · rw [if_pos h] at eu
              simp -dsimp (disch := first | assumption | omega | (simp only [List.length_cons, List.length_append, List.length_map, List.length_tail, List.length_reverse, List.length_nil, List.length_replicate, List.length_range]; omega)) [hx, e, htt, hmv, n3, n1, tp1, tp2, tp3, tp2', tp1c, tp3c, kk, k0, ← h, m0, mb]
              exact ⟨by omega, rfl, some (.int k), _, _, by rw [hb2, eu, List.map_append]; rfl⟩
            · rw [if_neg h] at eu
              simp -dsimp (disch := first | assumption | omega | (simp only [List.length_cons, List.length_append, List.length_map, List.length_tail, List.length_reverse, List.length_nil, List.length_replicate, List.length_range]; omega)) [hx, e, htt, hmv, n3, n1, tp1, tp2, tp3, tp2', tp1c, tp3c, kk, k0, h, m0, mb]
              exact ⟨rfl, some (.int k), _, _, by rw [hb2, eu, Option.toList, List.append_nil]⟩
          | cons y ys =>
            simp only [List.length_cons] at l2
            have n2 : ((1 : Int) = (ys.length : Int) + 1 + 1) = False := by simp; omega
            have t3 : trim ys = ys := trim_tlx t2
            have k2 := k1 ys (fun x hx => hr' x (List.mem_cons_of_mem _ hx)) (by omega)
            have hg : goes (-r.mv) l a (y :: ys) = (trim (a :: l), y, ys) := by rw [hmv]; rfl
            have eu := ra ⟨cq, l, a, y :: ys⟩ _ hg htt
            dsimp only at eu
            by_cases h : y = r.w
            · rw [if_pos h] at eu
              simp -dsimp (disch := first | assumption | omega | (simp only [List.length_cons, List.length_append, List.length_map, List.length_tail, List.length_reverse, List.length_nil, List.length_replicate, List.length_range]; omega)) [hx, e, htt, hmv, n3, n1, n2, tp1, tp2, tp3, tp2', tp1c, tp3c, kk, k2, t3, ← h, m0, mb]
              exact ⟨by omega, rfl, some (.int k), _, _, by rw [hb2, eu, List.map_append]; rfl⟩
            · rw [if_neg h] at eu
              simp -dsimp (disch := first | assumption | omega | (simp only [List.length_cons, List.length_append, List.length_map, List.length_tail, List.length_reverse, List.length_nil, List.length_replicate, List.length_range]; omega)) [hx, e, htt, hmv, n3, n1, n2, tp1, tp2, tp3, tp2', tp1c, tp3c, kk, k2, t3, h, m0, mb]
              exact ⟨rfl, some (.int k), _, _, by rw [hb2, eu, Option.toList, List.append_nil]⟩
      · have eu : T.undo c ((k : Int) / T.m) ((k : Int) % T.m) = none := by unfold Tp.undo; rw [hr]; dsimp only; rw [if_neg htt]
        simp -dsimp [hx, e, htt]
        exact ⟨rfl, some (.int k), x5, x6, by rw [hb2, eu]; simp⟩
  · intro ρ S' ⟨e, x4, x5, x6, hρ⟩
    subst hρ e
    simp -dsimp
end BK

/-! law k82: layers, parted -/
namespace BK
open PySem PySem.Spec L2 PM
/-- all before, sorted -/
noncomputable def Tp.bs (T : Tp) (c : Cf) : List Cf := (T.bef c (T.pls T.rows.length)).mergeSort fun a b => leD a.v b.v
theorem bs_v {T : Tp} {c : Cf} : sortD ((T.bef c (T.pls T.rows.length)).map Cf.v) = (T.bs c).map Cf.v := by
  unfold sortD Tp.bs
  exact (List.map_mergeSort (f := Cf.v) fun a _ b _ => rfl).symm
theorem bs_perm {T : Tp} {c : Cf} : (T.bs c).Perm (T.bef c (T.pls T.rows.length)) := List.mergeSort_perm _ _
theorem flatMap_perm {α β : Type} {f g : α → List β} (h : ∀ a, (f a).Perm (g a)) : ∀ l : List α, (l.flatMap f).Perm (l.flatMap g)
  | [] => .refl _
  | a :: l => by rw [List.flatMap_cons, List.flatMap_cons]; exact (h a).append (flatMap_perm h l)
noncomputable def Tp.lay (T : Tp) (c : Cf) : Nat → List Cf
  | 0 => [c]
  | n + 1 => (T.lay c n).flatMap T.bs
noncomputable def Tp.lam (T : Tp) (c : Cf) : Nat → List Cf
  | 0 => [c]
  | n + 1 => (T.lam c n).flatMap fun d => T.bef d (T.pls T.rows.length)
theorem lay_perm {T : Tp} {c : Cf} : ∀ n, (T.lay c n).Perm (T.lam c n)
  | 0 => .refl _
  | n + 1 => ((lay_perm n).flatMap_right _).trans (flatMap_perm (fun _ => bs_perm) _)
theorem lay_len {T : Tp} {c : Cf} (n : Nat) : (T.lay c n).length = (T.lam c n).length := (lay_perm n).length_eq
structure Sp (T : Tp) (n : Nat) (c : Cf) : Prop where
  ok : c.ok T
  tr : c.tr
  sz : c.sz n
theorem bef_sp {T : Tp} (hT : T.ok) {n : Nat} {c d : Cf} (h : Sp T n c) (hd : d ∈ T.bef c (T.pls T.rows.length)) : Sp T (n + 1) d := by
  obtain ⟨q, a, hq, ha, hu⟩ := mem_bef hT hd
  exact ⟨undo_ok hT h.ok hq ha hu, undo_tr h.tr hu, undo_sz h.sz hu⟩
theorem lam_sp {T : Tp} (hT : T.ok) {c : Cf} {b : Nat} (h : Sp T b c) : ∀ n, ∀ d ∈ T.lam c n, Sp T (b + n) d
  | 0, d, hd => by rw [List.mem_singleton.mp hd]; exact h
  | n + 1, d, hd => by
    obtain ⟨e, he, hd⟩ := List.mem_flatMap.mp hd
    exact bef_sp hT (lam_sp hT h n e he) hd
theorem lay_sp {T : Tp} (hT : T.ok) {c : Cf} {b : Nat} (h : Sp T b c) (n : Nat) : ∀ d ∈ T.lay c n, Sp T (b + n) d := fun d hd => lam_sp hT h n d ((lay_perm n).mem_iff.mp hd)
theorem flat_len {α β : Type} {f : α → List β} {m : Nat} (h : ∀ a, (f a).length ≤ m) : ∀ l : List α, (l.flatMap f).length ≤ l.length * m
  | [] => by simp
  | a :: l => by
    have := flat_len h l
    have := h a
    rw [List.flatMap_cons, List.length_append, List.length_cons, Nat.add_mul]; omega
theorem lam_le {T : Tp} {c : Cf} : ∀ n, (T.lam c n).length ≤ T.rows.length ^ n
  | 0 => by simp [Tp.lam]
  | n + 1 => by
    have h1 := lam_le (T := T) (c := c) n
    have h2 := flat_len (f := fun d => T.bef d (T.pls T.rows.length)) (m := T.rows.length) (fun d => Nat.le_trans bef_len pls_len) (T.lam c n)
    rw [Nat.pow_succ]
    exact Nat.le_trans h2 (Nat.mul_le_mul_right _ h1)
theorem lam_one {T : Tp} (hT : T.ok) {c : Cf} (h : T.cls T.rows.length = []) : ∀ n, (T.lam c n).length ≤ 1
  | 0 => by simp [Tp.lam]
  | n + 1 => by
    have h1 := lam_one hT (c := c) h n
    have h2 := flat_len (f := fun d => T.bef d (T.pls T.rows.length)) (m := 1) (fun d => bef_le1 hT h) (T.lam c n)
    rw [Nat.mul_one] at h2
    exact Nat.le_trans h2 h1
/-! lost -/
def loI (T : Tp) (c : Cf) (n : Nat) (S0 : Sto) (i : Nat) (ρ : Ev) (S' : Sto) : Prop := S' = S0 ∧ ∃ x4 x5 x6, ρ = [some T.v, some c.v, some (.int n), some (.lst ((T.lay c i).map Cf.v)), x4, x5, x6]
def loJ (T : Tp) (c : Cf) (n i : Nat) (S0 : Sto) (r : List Cf) (ρ : Ev) (S' : Sto) : Prop := S' = S0 ∧ ∃ dn x4 x6, dn ++ r = T.lay c i ∧ ρ = [some T.v, some c.v, some (.int n), some (.lst ((T.lay c i).map Cf.v)), x4, some (.lst ((dn.flatMap T.bs).map Cf.v)), x6]
theorem g_lost {T : Tp} (hT : T.ok) {c : Cf} {b : Nat} (h : Sp T b c) (hb : b ≤ 100) {n : Nat} (hn : n ≤ 100) (hl : ∀ k ≤ n, (T.lam c k).length ≤ 100000) (S : Sto) : G_lost_2 [T.v, c.v, .int n] S = .ok (.int ((T.lam c n).length : Nat)) S := by
  have hlen := hT.len
  have hprod : T.m * T.s ≤ 320 := by
    have : T.m * T.s ≤ 8 * 40 := Int.mul_le_mul hT.m8 hT.s40 (by have := hT.s1; omega) (by omega)
    omega
  refine rn_eq ?_
  unfold G_lost_2
  rw [rn_runB]
  simp -dsimp
  refine ⟨by omega, ?_⟩
  refine sn_forPR (I := loI T c n S) ⟨rfl, none, none, none, rfl⟩ ?_ ?_
  · intro i ρ S' hi ⟨e, x4, x5, x6, hρ⟩
    subst hρ e
    refine ⟨_, tgt_name, ?_⟩
    simp -dsimp
    refine sn_forPM (f := Cf.v) (I := loJ T c n i S') ⟨rfl, [], _, x6, rfl, rfl⟩ ?_ ?_
    · intro d r ρ S2 hd ⟨e, dn, x4, x6, hdn, hρ⟩
      subst hρ e
      refine ⟨_, tgt_name, ?_⟩
      have sp := lay_sp hT h i d hd
      have hbf := g_before hT (c := d) ⟨by have := sp.sz.1; omega, by have := sp.sz.2; omega⟩
      rw [bs_v] at hbf
      have e3 : (dn ++ [d]).flatMap T.bs = dn.flatMap T.bs ++ T.bs d := by rw [List.flatMap_append]; simp
      have hll : (dn.flatMap T.bs).length + (T.bs d).length ≤ 16777216 := by
        have h1 := hl (i + 1) hi
        rw [← lay_len] at h1
        have h2 : (T.lay c (i + 1)).length = (dn.flatMap T.bs).length + (T.bs d).length + (r.flatMap T.bs).length := by
          show ((T.lay c i).flatMap T.bs).length = _
          rw [← hdn, List.flatMap_append, List.flatMap_cons, List.length_append, List.length_append]; omega
        omega
      simp -dsimp [hbf]
      exact ⟨by simpa using hll, rfl, dn ++ [d], _, some d.v, by rw [← hdn]; simp, by rw [e3, List.map_append]⟩
    · intro ρ S2 ⟨e, dn, x4, x6, hdn, hρ⟩
      subst hρ e
      rw [List.append_nil] at hdn
      subst hdn
      simp -dsimp
      exact ⟨rfl, _, _, _, rfl⟩
  · intro ρ S' ⟨e, x4, x5, x6, hρ⟩
    subst hρ e
    simp -dsimp
    exact congrArg Int.ofNat (lay_len n)
/-! parted -/
instance : DecidableEq Cf := fun c d => if h : c.q = d.q ∧ c.l = d.l ∧ c.a = d.a ∧ c.r = d.r then isTrue (by cases c; cases d; obtain ⟨rfl, rfl, rfl, rfl⟩ := h; rfl) else isFalse fun e => h (by rw [e]; exact ⟨rfl, rfl, rfl, rfl⟩)
def Tp.pt (T : Tp) : Nat → Nat → Cf → Cf → Int
  | 0, i, c, d => if c = d then i else -1
  | n + 1, i, c, d => if c = d then i else match T.step c, T.step d with
    | some c', some d' => T.pt n (i + 1) c' d'
    | _, _ => -1
theorem pt_eq {T : Tp} {n i : Nat} {c : Cf} : T.pt n i c c = i := by cases n <;> simp [Tp.pt]
theorem pt_0 {T : Tp} {i : Nat} {c d : Cf} (h : c ≠ d) : T.pt 0 i c d = -1 := by simp [Tp.pt, h]
theorem pt_s {T : Tp} {n i : Nat} {c d c' d' : Cf} (h : c ≠ d) (e : T.step c = some c') (e' : T.step d = some d') : T.pt (n + 1) i c d = T.pt n (i + 1) c' d' := by simp [Tp.pt, h, e, e']
theorem pt_n {T : Tp} {n i : Nat} {c d : Cf} (h : c ≠ d) (e : T.step c = none ∨ T.step d = none) : T.pt (n + 1) i c d = -1 := by
  rcases e with e | e
  · simp [Tp.pt, h, e]
  · simp only [Tp.pt, if_neg h, e]
    cases T.step c <;> rfl
def paI (T : Tp) (c d : Cf) (n b : Nat) (S0 : Sto) (i : Nat) (ρ : Ev) (S' : Sto) : Prop := S' = S0 ∧ ∃ c' d' x4, ρ = [some T.v, some c'.v, some d'.v, some (.int n), x4] ∧ Sp T (b + i) c' ∧ Sp T (b + i) d' ∧ T.pt n 0 c d = if i ≤ n then T.pt (n - i) i c' d' else -1
def paE (T : Tp) (c d : Cf) (n : Nat) (S0 : Sto) (ρ : Ev) (S' : Sto) : Prop := S' = S0 ∧ T.pt n 0 c d = -1
theorem step_sp {T : Tp} (hT : T.ok) {n : Nat} {c d : Cf} (h : Sp T n c) (e : T.step c = some d) : Sp T (n + 1) d := ⟨T.step_ok hT h.ok e, T.step_tr h.tr e, T.step_sz h.sz e⟩
theorem g_parted {T : Tp} (hT : T.ok) {c d : Cf} {b : Nat} (hc : Sp T b c) (hd : Sp T b d) (hb : b ≤ 100) {n : Nat} (hn : n ≤ 100) (S : Sto) : G_parted [T.v, c.v, d.v, .int n] S = .ok (.int (T.pt n 0 c d)) S := by
  refine rn_eq ?_
  unfold G_parted
  rw [rn_runB]
  simp -dsimp
  refine ⟨by omega, ?_⟩
  refine sn_forPR (I := paI T c d n b S) ⟨rfl, c, d, none, rfl, hc, hd, by simp⟩ ?_ ?_
  · intro i ρ S' hi ⟨e, c', d', x4, hρ, h1, h2, h3⟩
    subst hρ e
    refine ⟨_, tgt_name, ?_⟩
    have hin : i ≤ n := by omega
    rw [if_pos hin] at h3
    have q1 := g_step hT h1.ok ⟨by have := h1.sz.1; omega, by have := h1.sz.2; omega⟩
    have q2 := g_step hT h2.ok ⟨by have := h2.sz.1; omega, by have := h2.sz.2; omega⟩
    by_cases hcd : c' = d'
    · subst hcd
      rw [pt_eq] at h3
      simp -dsimp [v_eqR (v := c'.v) nc_cf, h3]
    · have ne : vEq c'.v d'.v Z0 = .ok (.bl false) Z0 := by
        rw [v_eqN nc_cf nc_cf]
        simp [cf_inj, hcd]
      have stop : T.step c' = none ∨ T.step d' = none → T.pt n 0 c d = -1 := fun h => by
        rw [h3]
        cases hk : n - i with
        | zero => exact pt_0 hcd
        | succ k => exact pt_n hcd h
      cases e1 : T.step c' with
      | none => simp -dsimp [ne, q1, q2, e1, stop (.inl e1)]
      | some c2 =>
        cases e2 : T.step d' with
        | none => simp -dsimp [ne, q1, q2, e1, e2, stop (.inr e2)]
        | some d2 =>
          simp -dsimp [ne, q1, q2, e1, e2]
          refine ⟨rfl, c2, d2, _, rfl, step_sp hT h1 e1, step_sp hT h2 e2, ?_⟩
          rw [h3]
          by_cases hin2 : i + 1 ≤ n
          · rw [if_pos hin2, show n - i = n - (i + 1) + 1 by omega, pt_s hcd e1 e2]
          · rw [if_neg hin2, show n - i = 0 by omega, pt_0 hcd]
  · intro ρ S' ⟨e, c', d', x4, hρ, h1, h2, h3⟩
    subst hρ e
    rw [if_neg (by omega)] at h3
    simp -dsimp [h3]
end BK

/-! law k82 -/
namespace BK
open PySem PySem.Spec L2 PM
def litV (T : Tp) : Val := .tup [.int T.m, .int T.s, .lst (T.rows.map orow)]
theorem g_little {ds : List Int} (hd : nOk ds) (p : Nat) : ∃ (T : Tp) (q : Nat), T.ok ∧ T.m ≤ 3 ∧ T.s ≤ 3 ∧ G__law_little [il ds, .loc 0] (cl p) = .ok (litV T) (cl q) := by
  obtain ⟨a, p1, a0, a1, ea⟩ := g_take hd p
  obtain ⟨b, p2, b0, b1, eb⟩ := g_take hd p1
  obtain ⟨rows, p3, hrl, hro, e2⟩ := g_machine hd (m := 2 + a % 2) (s := 1 + b % 3) (by omega) (by omega) (by omega) (by omega) p2
  refine ⟨⟨2 + a % 2, 1 + b % 3, rows⟩, p3, ⟨by dsimp only; omega, by dsimp only; omega, by dsimp only; omega, by dsimp only; omega, hrl, hro⟩, by dsimp only; omega, by dsimp only; omega, rn_eq ?_⟩
  unfold G__law_little
  rw [rn_runB]
  simp -dsimp [ea, eb, e2]
  rfl
/-- the law's walk of two runs -/
def prI (c d : Cf) (T : Tp) (n b : Nat) (pre : Option Cf → Option Cf → Int → Option Val → Ev) (Z : Sto) (i : Nat) (ρ : Ev) (S' : Sto) : Prop := S' = Z ∧ ∃ (o1 o2 : Option Cf) (ex : Int) (x : Option Val), ρ = pre o1 o2 ex x ∧ (∀ f, o1 = some f → Sp T (b + i) f) ∧ (∀ f, o2 = some f → Sp T (b + i) f) ∧
  ((ex = -1 ∧ ∃ c' d', o1 = some c' ∧ o2 = some d' ∧ c' ≠ d' ∧ T.pt n 0 c d = T.pt (n - i) i c' d') ∨ (ex = T.pt n 0 c d ∧ (0 ≤ ex ∨ o1 = none ∨ o2 = none)))
def e6 (ns ds : List Int) (T : Tp) (c d : Cf) (n : Nat) (x8 x9 x10 x11 x12 x13 x14 : Option Val) : Ev := [some (.fz (ns.map .int)), some (il ds), some (.loc 0), some (litV T), some T.v, some c.v, some d.v, some (.int n), x8, x9, x10, x11, x12, x13, x14]
section
variable {T : Tp} {S : Sto}
@[simp ↓] theorem ix_lit0 : vIx (litV T) (.int 0) S = .ok (.int T.m) S := nr
@[simp ↓] theorem ix_lit1 : vIx (litV T) (.int 1) S = .ok (.int T.s) S := nr
@[simp ↓] theorem ix_lit2 : vIx (litV T) (.int 2) S = .ok (.lst (T.rows.map orow)) S := nr
end
@[simp] theorem nc_ocf {k : Nat} {o : Option Cf} : nc (k + 2) (ocf o) = true := by cases o <;> simp
theorem ocf_inj {o p : Option Cf} : ocf o = ocf p ↔ o = p := by
  cases o with
  | none => cases p with
    | none => simp
    | some d => simp [Cf.v]
  | some c => cases p with
    | none => simp [Cf.v]
    | some d => simp [cf_inj]
@[irreducible] noncomputable def t6 : SM := (sSeq (sSet 12 (eLst false (aCons (eVar 5) aNil)))
    (sSeq (sForP (iRange1P (eBinP vMod (eVar 7) (eC (.int 5)))) (.name 11)
    (sSeq (sIf (tNotM (tTruP (eCallN 2 (G__law_same 5) (aCons (eCallN 3 G_lost_2 (aCons (eVar 4) (aCons (eVar 5) (aCons (eVar 11) aNil)))) (aCons (eBIP vLen (aCons (eVar 12) aNil)) aNil))))) (sRet (eC (.bl false)))
    sNext)
    (sSeq (sSet 13 (eLst false aNil))
    (sSeq (sForP (iSeqP (eVar 12)) (.name 14)
    (sSet 13 (eBinP (vAdd false) (eVar 13) (eCallN 3 G__law_back (aCons (eBinP vIx (eVar 3) (eC (.int 2))) (aCons (eBinP vIx (eVar 3) (eC (.int 0))) (aCons (eVar 14) aNil)))))))
    (sSet 12 (eVar 13))))))
    (sSeq (sIf (tNotM (tTruP (eCallN 1 G_forgets (aCons (eVar 4) aNil)))) (sSeq (sSet 12 (eLst false (aCons (eVar 5) aNil)))
    (sSeq (sForP (iRange1P (eC (.int 12))) (.name 11)
    (sSeq (sSet 13 (eLst false aNil))
    (sSeq (sForP (iSeqP (eVar 12)) (.name 14)
    (sSet 13 (eBinP (vAdd false) (eVar 13) (eCallN 3 G__law_back (aCons (eBinP vIx (eVar 3) (eC (.int 2))) (aCons (eBinP vIx (eVar 3) (eC (.int 0))) (aCons (eVar 14) aNil)))))))
    (sSet 12 (eVar 13)))))
    (sRet (eAnd (eBinP vLt (eBIP vLen (aCons (eVar 12) aNil)) (eC (.int 2))) (eBinP vEq (eCallN 3 G_lost_2 (aCons (eVar 4) (aCons (eVar 5) (aCons (eC (.int 12)) aNil)))) (eBIP vLen (aCons (eVar 12) aNil)))))))
    sNext)
    (sRet (eC (.bl true))))))
noncomputable def lb7 : SM := (sSet 13 (eBinP (vAdd false) (eVar 13) (eCallN 3 G__law_back (aCons (eBinP vIx (eVar 3) (eC (.int 2))) (aCons (eBinP vIx (eVar 3) (eC (.int 0))) (aCons (eVar 14) aNil))))))
noncomputable def pb6 : SM := (sIf (tAndM (tB (eBinP vNotN (eVar 9) (eC .non))) (tB (eBinP vNotN (eVar 10) (eC .non)))) (sSeq (sSet 9 (eCallN 3 G__law_step_2 (aCons (eBinP vIx (eVar 3) (eC (.int 2))) (aCons (eBinP vIx (eVar 3) (eC (.int 0))) (aCons (eVar 9) aNil)))))
    (sSeq (sSet 10 (eCallN 3 G__law_step_2 (aCons (eBinP vIx (eVar 3) (eC (.int 2))) (aCons (eBinP vIx (eVar 3) (eC (.int 0))) (aCons (eVar 10) aNil)))))
    (sIf (tAndM (tB (eBinP vNotN (eVar 9) (eC .non))) (tAndM (tB (eBinP vEq (eVar 9) (eVar 10))) (tB (eBinP vLt (eVar 8) (eC (.int 0)))))) (sSet 8 (eVar 11))
    sNext)))
    sNext)
theorem lb7_ok {ns ds : List Int} {T : Tp} (hT : T.ok) {c d : Cf} {n i b : Nat} (hc : Sp T b c) (hb : b + i ≤ 100) (hl : (T.lam c (i + 1)).length ≤ 100000) {x8 x9 x10 x11 x12 x14 : Option Val} {Z : Sto} {N : Ev → Sto → Prop} {R : Val → Sto → Prop} {B C : Ev → Sto → Prop} {E : Nat → List Val → Ev → Sto → Prop}
    (h : ∀ x14, N (e6 ns ds T c d n x8 x9 x10 x11 x12 (some (.lst ((T.lam c (i + 1)).map Cf.v))) x14) Z) :
    Sn (forP (.name 14) lb7 ((T.lam c i).map Cf.v) (e6 ns ds T c d n x8 x9 x10 x11 x12 (some (il [])) x14) Z) ⟨N, R, B, C, E⟩ := by
  refine sn_forPM (f := Cf.v) (I := fun r ρ S' => S' = Z ∧ ∃ dn x14, dn ++ r = T.lam c i ∧ ρ = e6 ns ds T c d n x8 x9 x10 x11 x12 (some (.lst ((dn.flatMap fun f => T.bef f (T.pls T.rows.length)).map Cf.v))) x14) ⟨rfl, [], _, rfl, rfl⟩ ?_ ?_
  · intro f r ρ S' hf ⟨e, dn, x14, hdn, hρ⟩
    subst hρ e
    refine ⟨_, tgt_name, ?_⟩
    have sp := lam_sp hT hc i f hf
    have hbk := g_law_back hT sp.ok sp.tr ⟨by have := sp.sz.1; omega, by have := sp.sz.2; omega⟩
    have hll : ((dn.flatMap fun f => T.bef f (T.pls T.rows.length)).map Cf.v).length + ((T.bef f (T.pls T.rows.length)).map Cf.v).length ≤ 16777216 := by
      have h2 : (T.lam c (i + 1)).length = (dn.flatMap fun f => T.bef f (T.pls T.rows.length)).length + (T.bef f (T.pls T.rows.length)).length + (r.flatMap fun f => T.bef f (T.pls T.rows.length)).length := by
        show ((T.lam c i).flatMap fun f => T.bef f (T.pls T.rows.length)).length = _
        rw [← hdn, List.flatMap_append, List.flatMap_cons, List.length_append, List.length_append]; omega
      rw [List.length_map, List.length_map]; omega
    have e1 : ((dn ++ [f]).flatMap fun f => T.bef f (T.pls T.rows.length)).map Cf.v = (dn.flatMap fun f => T.bef f (T.pls T.rows.length)).map Cf.v ++ (T.bef f (T.pls T.rows.length)).map Cf.v := by
      rw [List.flatMap_append, List.map_append, List.flatMap_cons, List.flatMap_nil, List.append_nil]
    generalize hxs : (dn.flatMap fun f => T.bef f (T.pls T.rows.length)).map Cf.v = xs at *
    generalize hys : (T.bef f (T.pls T.rows.length)).map Cf.v = ys at *
    unfold lb7 e6
    simp -dsimp [hbk, hll]
    refine ⟨dn ++ [f], ⟨by rw [← hdn]; simp, ?_⟩⟩
    rw [e1]
  · intro ρ S' ⟨e, dn, x14, hdn, hρ⟩
    subst hρ e
    rw [List.append_nil] at hdn
    subst hdn
    exact h _
theorem t6_ok {ns ds : List Int} {T : Tp} (hT : T.ok) (hrl : T.rows.length ≤ 9) {c d : Cf} {n : Nat} (hn : n ≤ 8) (hc : Sp T 2 c) {x8 x9 x10 x11 x12 x13 x14 : Option Val} {Z : Sto} {N : Ev → Sto → Prop} {R : Val → Sto → Prop} {B C : Ev → Sto → Prop} {E : Nat → List Val → Ev → Sto → Prop}
    (hR : R (.bl true) Z) : Sn (t6 (e6 ns ds T c d n x8 x9 x10 x11 x12 x13 x14) Z) ⟨N, R, B, C, E⟩ := by
  have hlam : ∀ k : Nat, k ≤ 4 → (T.lam c k).length ≤ 10000 := fun k hk => by
    refine Nat.le_trans (lam_le k) ?_
    have h1 : T.rows.length ^ k ≤ 9 ^ k := Nat.pow_le_pow_left hrl k
    have h2 : 9 ^ k ≤ 9 ^ 4 := Nat.pow_le_pow_right (by decide) hk
    have h3 : 9 ^ 4 ≤ 10000 := by decide
    omega
  have hfo := g_forgets hT
  have hlo : ∀ k : Nat, k ≤ 4 → ∀ S, G_lost_2 [T.v, c.v, .int (k : Int)] S = .ok (.int ((T.lam c k).length : Nat)) S := fun k hk S => g_lost hT hc (by decide) (by omega) (fun j hj => by have := hlam j (by omega); omega) S
  have hsi : ∀ (j : Int) S, G__law_same 5 [.int j, .int j] S = .ok (.bl true) S := fun j S => g_same 5 _ S (by simp)
  have hn5 : ((n : Int) % 5).toNat = n % 5 := by omega
  unfold t6 e6
  simp -dsimp
  refine ⟨by omega, ?_⟩
  rw [hn5]
  refine sn_forPR (I := fun i ρ S' => S' = Z ∧ ∃ x11 x13 x14, ρ = e6 ns ds T c d n x8 x9 x10 x11 (some (.lst ((T.lam c i).map Cf.v))) x13 x14) ⟨rfl, _, _, _, rfl⟩ ?_ ?_
  · intro i ρ S' hi ⟨e, x11, x13, x14, hρ⟩
    subst hρ e
    refine ⟨_, tgt_name, ?_⟩
    have hi4 : i ≤ 4 := by omega
    unfold e6
    simp -dsimp [hlo i hi4, hsi]
    refine lb7_ok (ns := ns) (ds := ds) hT hc (i := i) (by omega) (by have := hlam (i + 1) (by omega); omega) fun x14 => ?_
    unfold e6
    simp -dsimp
  · intro ρ S' ⟨e, x11, x13, x14, hρ⟩
    subst hρ e
    unfold e6
    simp -dsimp [hfo]
    by_cases hcl : T.cls T.rows.length = []
    · have hle := fun k => lam_one hT (c := c) hcl k
      have hlo12 : ∀ S, G_lost_2 [T.v, c.v, .int 12] S = .ok (.int ((T.lam c 12).length : Nat)) S := fun S => g_lost hT hc (by decide) (n := 12) (by decide) (fun j _ => by have := hle j; omega) S
      have h2 : (T.lam c 12).length < 2 := by have := hle 12; omega
      simp -dsimp [hcl]
      with_reducible refine sn_forPR (lo := 0) (n := 12) (I := fun i ρ S2 => S2 = S' ∧ ∃ x11 x13 x14, ρ = e6 ns ds T c d n x8 x9 x10 x11 (some (.lst ((T.lam c i).map Cf.v))) x13 x14) ⟨rfl, _, _, _, rfl⟩ ?_ ?_
      · intro i ρ S2 hi ⟨e, x11, x13, x14, hρ⟩
        subst hρ e
        refine ⟨_, tgt_name, ?_⟩
        unfold e6
        simp -dsimp
        refine lb7_ok (ns := ns) (ds := ds) hT hc (i := i) (by omega) (by have := hle (i + 1); omega) fun x14 => ?_
        unfold e6
        simp -dsimp
      · intro ρ S2 ⟨e, x11, x13, x14, hρ⟩
        subst hρ e
        have h2i : ((T.lam c 12).length : Int) < 2 := by omega
        unfold e6
        simp -dsimp [hlo12, h2i]
        exact hR
    · have : 0 < (T.cls T.rows.length).length := by
        cases q : T.cls T.rows.length with
        | nil => exact absurd q hcl
        | cons => simp
      simp -dsimp [hcl, this, hR]
theorem pl_ok {ns ds : List Int} {T : Tp} (hT : T.ok) {c d : Cf} {n : Nat} (hn : n ≤ 8) (hc : Sp T 2 c) (hd : Sp T 2 d) (hcd : c ≠ d) {x11 x12 x13 x14 : Option Val} {Z : Sto} {N : Ev → Sto → Prop} {R : Val → Sto → Prop} {B C : Ev → Sto → Prop} {E : Nat → List Val → Ev → Sto → Prop}
    (h : ∀ x9 x10 x11, N (e6 ns ds T c d n (some (.int (T.pt n 0 c d))) x9 x10 x11 x12 x13 x14) Z) :
    Sn (forP (.name 11) pb6 (rangeL 1 n) (e6 ns ds T c d n (some (.int (-1))) (some c.v) (some d.v) x11 x12 x13 x14) Z) ⟨N, R, B, C, E⟩ := by
  refine sn_forPR (I := prI c d T n 2 (fun o1 o2 ex x => e6 ns ds T c d n (some (.int ex)) (some (ocf o1)) (some (ocf o2)) x x12 x13 x14) Z) ⟨rfl, some c, some d, -1, _, rfl, fun f e => by cases e; exact hc, fun f e => by cases e; exact hd, .inl ⟨rfl, c, d, rfl, rfl, hcd, rfl⟩⟩ ?_ ?_
  · intro i ρ S' hi ⟨e, o1, o2, ex, x, hρ, s1, s2, hI⟩
    subst hρ e
    refine ⟨_, tgt_name, ?_⟩
    have hxi : (1 : Int) + (i : Int) = ((i + 1 : Nat) : Int) := by omega
    rw [hxi]
    have stp : ∀ f, Sp T (2 + i) f → ∀ S, G__law_step_2 [.lst (T.rows.map orow), .int T.m, f.v] S = .ok (ocf (T.step f)) S := fun f sf S => g_law_step2 hT sf.ok ⟨by have := sf.sz.1; omega, by have := sf.sz.2; omega⟩ sf.tr S
    have go : ∀ (o1 o2 : Option Cf) (ex : Int) (x : Option Val), (∀ f, o1 = some f → Sp T (2 + (i + 1)) f) → (∀ f, o2 = some f → Sp T (2 + (i + 1)) f) →
        ((ex = -1 ∧ ∃ c' d', o1 = some c' ∧ o2 = some d' ∧ c' ≠ d' ∧ T.pt n 0 c d = T.pt (n - (i + 1)) (i + 1) c' d') ∨ (ex = T.pt n 0 c d ∧ (0 ≤ ex ∨ o1 = none ∨ o2 = none))) →
        prI c d T n 2 (fun o1 o2 ex x => e6 ns ds T c d n (some (.int ex)) (some (ocf o1)) (some (ocf o2)) x x12 x13 x14) S' (i + 1) (e6 ns ds T c d n (some (.int ex)) (some (ocf o1)) (some (ocf o2)) x x12 x13 x14) S' := fun o1 o2 ex x a b q => ⟨rfl, o1, o2, ex, x, rfl, a, b, q⟩
    have up : ∀ o : Option Cf, (∀ f, o = some f → Sp T (2 + i) f) → ∀ f, o = some f → Sp T (2 + (i + 1)) f := fun o h f e => by
      have := h f e
      exact ⟨this.ok, this.tr, ⟨by have := this.sz.1; omega, by have := this.sz.2; omega⟩⟩
    cases o1 with
    | none =>
      have := go none o2 ex (some (.int ((i + 1 : Nat) : Int))) (fun _ e => nomatch e) (up o2 s2) (by
        rcases hI with ⟨_, c', d', e, _⟩ | hI
        · cases e
        · exact .inr hI)
      unfold pb6 e6
      simp -dsimp
      exact this
    | some c' =>
      cases o2 with
      | none =>
        have := go (some c') none ex (some (.int ((i + 1 : Nat) : Int))) (up _ s1) (fun _ e => nomatch e) (by
          rcases hI with ⟨_, c', d', _, e, _⟩ | hI
          · cases e
          · exact .inr hI)
        unfold pb6 e6
        simp -dsimp
        exact this
      | some d' =>
        have sc := s1 c' rfl
        have sd := s2 d' rfl
        have q1 := stp c' sc
        have q2 := stp d' sd
        have u1 : ∀ f, T.step c' = some f → Sp T (2 + (i + 1)) f := fun f e => step_sp hT sc e
        have u2 : ∀ f, T.step d' = some f → Sp T (2 + (i + 1)) f := fun f e => step_sp hT sd e
        have heq : ∀ a b : Option Cf, vEq (ocf a) (ocf b) Z0 = .ok (.bl (decide (a = b))) Z0 := fun a b => by rw [v_eqN nc_ocf nc_ocf]; simp [ocf_inj]
        have fin := go (T.step c') (T.step d')
        have hpt : ∀ j, n - i = j + 1 → True := fun _ _ => trivial
        have hni : n - i = n - (i + 1) + 1 := by omega
        cases e1 : T.step c' with
        | none =>
          have := go none (T.step d') ex (some (.int ((i + 1 : Nat) : Int))) (fun _ e => nomatch e) u2 (by
            rcases hI with ⟨hx, a, b, ea, eb, hab, hp⟩ | ⟨hx, _⟩
            · cases ea; cases eb
              exact .inr ⟨by rw [hp, hni, pt_n hab (.inl e1), hx], .inr (.inl rfl)⟩
            · exact .inr ⟨hx, .inr (.inl rfl)⟩)
          unfold pb6 e6
          simp -dsimp [q1, q2, e1]
          exact this
        | some c2 =>
          have n1 : ∀ S, vNotN (ocf (some c2)) .non S = .ok (.bl true) S := fun S => rfl
          cases e2 : T.step d' with
          | none =>
            have := go (some c2) none ex (some (.int ((i + 1 : Nat) : Int))) (fun f e => u1 f (e1.trans e)) (fun _ e => nomatch e) (by
              rcases hI with ⟨hx, a, b, ea, eb, hab, hp⟩ | ⟨hx, _⟩
              · cases ea; cases eb
                exact .inr ⟨by rw [hp, hni, pt_n hab (.inr e2), hx], .inr (.inr rfl)⟩
              · exact .inr ⟨hx, .inr (.inr rfl)⟩)
            have hq : vEq c2.v .non Z0 = .ok (.bl false) Z0 := by rw [v_eqN nc_cf nc_non]; simp [Cf.v]
            unfold pb6 e6
            simp -dsimp [q1, q2, e1, e2, hq]
            exact this
          | some d2 =>
            have hq : vEq c2.v d2.v Z0 = .ok (.bl (decide (c2 = d2))) Z0 := by rw [v_eqN nc_cf nc_cf]; simp [cf_inj]
            have mv := fun ex h => go (some c2) (some d2) ex (some (.int ((i + 1 : Nat) : Int))) (fun f e => u1 f (e1.trans e)) (fun f e => u2 f (e2.trans e)) h
            by_cases hcd2 : c2 = d2
            · subst hcd2
              have hq2 : vEq c2.v c2.v Z0 = .ok (.bl true) Z0 := v_eqR nc_cf
              by_cases hx0 : ex < 0
              · have hval : ((i + 1 : Nat) : Int) = T.pt n 0 c d := by
                  rcases hI with ⟨hx, a, b, ea, eb, hab, hp⟩ | ⟨hx, hq | hq | hq⟩
                  · cases ea; cases eb
                    rw [hp, hni, pt_s hab e1 e2, pt_eq]
                  · omega
                  · cases hq
                  · cases hq
                have := mv ((i + 1 : Nat) : Int) (.inr ⟨hval, .inl (by omega)⟩)
                unfold pb6 e6
                simp -dsimp [q1, q2, e1, e2, hq2, hx0]
                exact this
              · have hval : ex = T.pt n 0 c d := by
                  rcases hI with ⟨hx, _⟩ | ⟨hx, _⟩
                  · omega
                  · exact hx
                have := mv ex (.inr ⟨hval, .inl (by omega)⟩)
                unfold pb6 e6
                simp -dsimp [q1, q2, e1, e2, hq2, hx0]
                exact this
            · have := mv ex (by
                rcases hI with ⟨hx, a, b, ea, eb, hab, hp⟩ | ⟨hx, hq | hq | hq⟩
                · cases ea; cases eb
                  exact .inl ⟨hx, c2, d2, rfl, rfl, hcd2, by rw [hp, hni, pt_s hab e1 e2]⟩
                · exact .inr ⟨hx, .inl hq⟩
                · cases hq
                · cases hq)
              unfold pb6 e6
              simp -dsimp [q1, q2, e1, e2, hq, hcd2]
              exact this
  · intro ρ S' ⟨e, o1, o2, ex, x, hρ, s1, s2, hI⟩
    subst hρ e
    have : ex = T.pt n 0 c d := by
      rcases hI with ⟨hx, a, b, _, _, hab, hp⟩ | ⟨hx, _⟩
      · rw [hp, Nat.sub_self, pt_0 hab, hx]
      · exact hx
    rw [this]
    exact h _ _ _
theorem law_k82 (ns : List Int) (h : ns.length ≤ 63) : ∃ Z, G_law_6 [.fz (ns.map Val.int)] Z0 = .ok (.bl true) Z := by
  obtain ⟨ds, e0, hl, hd⟩ := g_numbers ns h 50 (by decide) Z0
  have e0' : G__law_numbers [.fz (ns.map Val.int), .int 50] Z0 = .ok (il ds) Z0 := e0
  have : Rn (G_law_6 [.fz (ns.map Val.int)] Z0) (fun v _ => v = .bl true) X0 := by
    unfold G_law_6
    rw [rn_runB]
    simp -dsimp [e0']
    rw [cl_new]
    obtain ⟨T, p1, hT, hm3, hs3, e1⟩ := g_little hd 0
    obtain ⟨c, p2, hc, hct, hcz, e2⟩ := g_configuration hd (m := T.m) (s := T.s) (most := 2) (by have := hT.m2; omega) hT.s1 (by omega) (by omega) p1
    obtain ⟨d, p3, hdc, hdt, hdz, e3⟩ := g_configuration hd (m := T.m) (s := T.s) (most := 2) (by have := hT.m2; omega) hT.s1 (by omega) (by omega) p2
    obtain ⟨z, p4, z0, z1, e4⟩ := g_take hd p3
    have sc : Sp T 2 c := ⟨hc T.rows, hct, hcz⟩
    have sd : Sp T 2 d := ⟨hdc T.rows, hdt, hdz⟩
    have hti := g_tape_init hT.m2 hT.m8 hT.s1 hT.s40 hT.len hT.rows
    obtain ⟨n, hn⟩ : ∃ n : Nat, z % 9 = n := ⟨(z % 9).toNat, by omega⟩
    have hn9 : n ≤ 8 := by omega
    have hrl : T.rows.length ≤ 9 := by
      have h1 := hT.len
      have : T.m * T.s ≤ 3 * 3 := Int.mul_le_mul hm3 hs3 (by have := hT.s1; omega) (by omega)
      omega
    have hpar := g_parted hT sc sd (by decide) (n := n) (by omega)
    have hsi : ∀ (j : Int) S, G__law_same 5 [.int j, .int j] S = .ok (.bl true) S := fun j S => g_same 5 _ S (by simp)
    have ne : vNe c.v d.v Z0 = .ok (.bl (!decide (c = d))) Z0 := by rw [v_neN nc_cf nc_cf]; simp [cf_inj]
    by_cases hcd : c = d
    · subst hcd
      have ne' : vNe c.v c.v Z0 = .ok (.bl false) Z0 := v_neR nc_cf
      simp -dsimp [e1, e2, e3, e4, hti, hn, ne']
      have t := @t6_ok ns ds T hT hrl c c n hn9 sc none none none none none none none (cl p4) (fun _ _ => Val.non = Val.bl true) (fun v _ => v = Val.bl true) (fun _ _ => False) (fun _ _ => False) (fun c vs _ S => X0 c vs S) rfl
      unfold t6 e6 at t
      simp -dsimp at t
      exact t
    · simp -dsimp [e1, e2, e3, e4, hti, hn, ne, hcd]
      refine ⟨by omega, ?_⟩
      refine pl_ok (ns := ns) (ds := ds) hT hn9 sc sd hcd fun x9 x10 x11 => ?_
      unfold e6
      have hpar' : ∀ S, G_parted [tapeV T.m T.s T.rows, c.v, d.v, .int n] S = .ok (.int (T.pt n 0 c d)) S := hpar
      simp -dsimp [hpar', hpar, hsi]
      have t := @t6_ok ns ds T hT hrl c d n hn9 sc (some (.int (T.pt n 0 c d))) x9 x10 x11 none none none (cl p4) (fun _ _ => Val.non = Val.bl true) (fun v _ => v = Val.bl true) (fun _ _ => False) (fun _ _ => False) (fun c vs _ S => X0 c vs S) rfl
      unfold t6 e6 at t
      simp -dsimp at t
      exact t
  obtain ⟨v, S', e, rfl⟩ := this.get
  exact ⟨S', e⟩
end BK

namespace K82
open PySem PySem.Spec L2 PM
theorem all_mk {l : PySem.W.OpenLaw} {w : World} {K : PySem.W.Frag} {h : Heap} {mg : Str → Option Value} {fa : Addr} (X : K.In h) (G : h.Ns mainGlobals mg) (hfa : mg "law" = some (.ref fa))
    {a_law_numbers a_law_take a_law_machine a_law_little ais_integer aTape__is_row aTape___init__ a_law_trim a_law_side a_law_configuration aTape_row a_places aclashes aforgets a_law_same a_law_step atrimmed aTape_step aparted a_taken_back abefore alost a_law_back alaw c_BackError c_BadMachine c_Tape : Addr}
    {od__law_numbers an__law_numbers : Option Addr} {sl__law_numbers : Array (Option Value)} {oc__law_numbers kV__law_numbers dc__law_numbers pm__law_numbers cd__law_numbers ct__law_numbers : Value}
    {od__law_take an__law_take : Option Addr} {sl__law_take : Array (Option Value)} {oc__law_take kV__law_take dc__law_take pm__law_take cd__law_take ct__law_take : Value}
    {od__law_machine an__law_machine : Option Addr} {sl__law_machine : Array (Option Value)} {oc__law_machine kV__law_machine dc__law_machine pm__law_machine cd__law_machine ct__law_machine : Value}
    {od__law_little an__law_little : Option Addr} {sl__law_little : Array (Option Value)} {oc__law_little kV__law_little dc__law_little pm__law_little cd__law_little ct__law_little : Value}
    {od_is_integer an_is_integer : Option Addr} {sl_is_integer : Array (Option Value)} {oc_is_integer kV_is_integer dc_is_integer pm_is_integer cd_is_integer ct_is_integer : Value}
    {od_Tape__is_row an_Tape__is_row : Option Addr} {sl_Tape__is_row : Array (Option Value)} {oc_Tape__is_row kV_Tape__is_row dc_Tape__is_row pm_Tape__is_row cd_Tape__is_row ct_Tape__is_row : Value}
    {od_Tape___init__ an_Tape___init__ : Option Addr} {sl_Tape___init__ : Array (Option Value)} {oc_Tape___init__ kV_Tape___init__ dc_Tape___init__ pm_Tape___init__ cd_Tape___init__ ct_Tape___init__ : Value}
    {od__law_trim an__law_trim : Option Addr} {sl__law_trim : Array (Option Value)} {oc__law_trim kV__law_trim dc__law_trim pm__law_trim cd__law_trim ct__law_trim : Value}
    {od__law_side an__law_side : Option Addr} {sl__law_side : Array (Option Value)} {oc__law_side kV__law_side dc__law_side pm__law_side cd__law_side ct__law_side : Value}
    {od__law_configuration an__law_configuration : Option Addr} {sl__law_configuration : Array (Option Value)} {oc__law_configuration kV__law_configuration dc__law_configuration pm__law_configuration cd__law_configuration ct__law_configuration : Value}
    {od_Tape_row an_Tape_row : Option Addr} {sl_Tape_row : Array (Option Value)} {oc_Tape_row kV_Tape_row dc_Tape_row pm_Tape_row cd_Tape_row ct_Tape_row : Value}
    {od__places an__places : Option Addr} {sl__places : Array (Option Value)} {oc__places kV__places dc__places pm__places cd__places ct__places : Value}
    {od_clashes an_clashes : Option Addr} {sl_clashes : Array (Option Value)} {oc_clashes kV_clashes dc_clashes pm_clashes cd_clashes ct_clashes : Value}
    {od_forgets an_forgets : Option Addr} {sl_forgets : Array (Option Value)} {oc_forgets kV_forgets dc_forgets pm_forgets cd_forgets ct_forgets : Value}
    {od__law_same an__law_same : Option Addr} {sl__law_same : Array (Option Value)} {oc__law_same kV__law_same dc__law_same pm__law_same cd__law_same ct__law_same : Value}
    {od__law_step an__law_step : Option Addr} {sl__law_step : Array (Option Value)} {oc__law_step kV__law_step dc__law_step pm__law_step cd__law_step ct__law_step : Value}
    {od_trimmed an_trimmed : Option Addr} {sl_trimmed : Array (Option Value)} {oc_trimmed kV_trimmed dc_trimmed pm_trimmed cd_trimmed ct_trimmed : Value}
    {od_Tape_step an_Tape_step : Option Addr} {sl_Tape_step : Array (Option Value)} {oc_Tape_step kV_Tape_step dc_Tape_step pm_Tape_step cd_Tape_step ct_Tape_step : Value}
    {od_parted an_parted : Option Addr} {sl_parted : Array (Option Value)} {oc_parted kV_parted dc_parted pm_parted cd_parted ct_parted : Value}
    {od__taken_back an__taken_back : Option Addr} {sl__taken_back : Array (Option Value)} {oc__taken_back kV__taken_back dc__taken_back pm__taken_back cd__taken_back ct__taken_back : Value}
    {od_before an_before : Option Addr} {sl_before : Array (Option Value)} {oc_before kV_before dc_before pm_before cd_before ct_before : Value}
    {od_lost an_lost : Option Addr} {sl_lost : Array (Option Value)} {oc_lost kV_lost dc_lost pm_lost cd_lost ct_lost : Value}
    {od__law_back an__law_back : Option Addr} {sl__law_back : Array (Option Value)} {oc__law_back kV__law_back dc__law_back pm__law_back cd__law_back ct__law_back : Value}
    {od_law an_law : Option Addr} {sl_law : Array (Option Value)} {oc_law kV_law dc_law pm_law cd_law ct_law : Value}
    {t_MOST_MARKS : Tok}
    {t_MOST_STATES : Tok}
    (aC_Tape : PySem.W.nsIn K mainGlobals "Tape" = some (some (.ref c_Tape)))
    (aC_BackError : PySem.W.nsIn K mainGlobals "BackError" = some (some (.ref c_BackError)))
    (aC_BadMachine : PySem.W.nsIn K mainGlobals "BadMachine" = some (some (.ref c_BadMachine)))
    (a__law_numbers : PySem.W.nsIn K mainGlobals "_law_numbers" = some (some (.ref a_law_numbers)))
    (l__law_numbers : K.lookup a_law_numbers = some ⟨oc__law_numbers, od__law_numbers, .func (PySem.W.fnOf "_law_numbers" "_law_numbers" (defArgs s__law_numbers) (defBody s__law_numbers) (defScope s__law_numbers) .none kV__law_numbers dc__law_numbers pm__law_numbers an__law_numbers cd__law_numbers ct__law_numbers), sl__law_numbers⟩)
    (c__law_numbers : PySem.W.codeIn K cd__law_numbers "_law_numbers" = true)
    (k__law_numbers : PySem.W.keepIn K (.ref a_law_numbers) = true)
    (a__law_take : PySem.W.nsIn K mainGlobals "_law_take" = some (some (.ref a_law_take)))
    (l__law_take : K.lookup a_law_take = some ⟨oc__law_take, od__law_take, .func (PySem.W.fnOf "_law_take" "_law_take" (defArgs s__law_take) (defBody s__law_take) (defScope s__law_take) .none kV__law_take dc__law_take pm__law_take an__law_take cd__law_take ct__law_take), sl__law_take⟩)
    (c__law_take : PySem.W.codeIn K cd__law_take "_law_take" = true)
    (k__law_take : PySem.W.keepIn K (.ref a_law_take) = true)
    (a__law_machine : PySem.W.nsIn K mainGlobals "_law_machine" = some (some (.ref a_law_machine)))
    (l__law_machine : K.lookup a_law_machine = some ⟨oc__law_machine, od__law_machine, .func (PySem.W.fnOf "_law_machine" "_law_machine" (defArgs s__law_machine) (defBody s__law_machine) (defScope s__law_machine) .none kV__law_machine dc__law_machine pm__law_machine an__law_machine cd__law_machine ct__law_machine), sl__law_machine⟩)
    (c__law_machine : PySem.W.codeIn K cd__law_machine "_law_machine" = true)
    (k__law_machine : PySem.W.keepIn K (.ref a_law_machine) = true)
    (a__law_little : PySem.W.nsIn K mainGlobals "_law_little" = some (some (.ref a_law_little)))
    (l__law_little : K.lookup a_law_little = some ⟨oc__law_little, od__law_little, .func (PySem.W.fnOf "_law_little" "_law_little" (defArgs s__law_little) (defBody s__law_little) (defScope s__law_little) .none kV__law_little dc__law_little pm__law_little an__law_little cd__law_little ct__law_little), sl__law_little⟩)
    (c__law_little : PySem.W.codeIn K cd__law_little "_law_little" = true)
    (k__law_little : PySem.W.keepIn K (.ref a_law_little) = true)
    (a_is_integer : PySem.W.nsIn K mainGlobals "is_integer" = some (some (.ref ais_integer)))
    (l_is_integer : K.lookup ais_integer = some ⟨oc_is_integer, od_is_integer, .func (PySem.W.fnOf "is_integer" "is_integer" (defArgs s_is_integer) (defBody s_is_integer) (defScope s_is_integer) .none kV_is_integer dc_is_integer pm_is_integer an_is_integer cd_is_integer ct_is_integer), sl_is_integer⟩)
    (c_is_integer : PySem.W.codeIn K cd_is_integer "is_integer" = true)
    (k_is_integer : PySem.W.keepIn K (.ref ais_integer) = true)
    (a_Tape__is_row : PySem.W.findIn K (.ref c_Tape) "_is_row" = some (some (.ref aTape__is_row)))
    (i_Tape__is_row : PySem.W.isFn K (.ref aTape__is_row) = true)
    (l_Tape__is_row : K.lookup aTape__is_row = some ⟨oc_Tape__is_row, od_Tape__is_row, .func (PySem.W.fnOf "_is_row" "Tape._is_row" (defArgs s_Tape__is_row) (defBody s_Tape__is_row) (defScope s_Tape__is_row) .none kV_Tape__is_row dc_Tape__is_row pm_Tape__is_row an_Tape__is_row cd_Tape__is_row ct_Tape__is_row), sl_Tape__is_row⟩)
    (c_Tape__is_row : PySem.W.codeIn K cd_Tape__is_row "Tape._is_row" = true)
    (k_Tape__is_row : PySem.W.keepIn K (.ref aTape__is_row) = true)
    (a_Tape___init__ : PySem.W.findIn K (.ref c_Tape) "__init__" = some (some (.ref aTape___init__)))
    (i_Tape___init__ : PySem.W.isFn K (.ref aTape___init__) = true)
    (l_Tape___init__ : K.lookup aTape___init__ = some ⟨oc_Tape___init__, od_Tape___init__, .func (PySem.W.fnOf "__init__" "Tape.__init__" (defArgs s_Tape___init__) (defBody s_Tape___init__) (defScope s_Tape___init__) .none kV_Tape___init__ dc_Tape___init__ pm_Tape___init__ an_Tape___init__ cd_Tape___init__ ct_Tape___init__), sl_Tape___init__⟩)
    (c_Tape___init__ : PySem.W.codeIn K cd_Tape___init__ "Tape.__init__" = true)
    (k_Tape___init__ : PySem.W.keepIn K (.ref aTape___init__) = true)
    (a__law_trim : PySem.W.nsIn K mainGlobals "_law_trim" = some (some (.ref a_law_trim)))
    (l__law_trim : K.lookup a_law_trim = some ⟨oc__law_trim, od__law_trim, .func (PySem.W.fnOf "_law_trim" "_law_trim" (defArgs s__law_trim) (defBody s__law_trim) (defScope s__law_trim) .none kV__law_trim dc__law_trim pm__law_trim an__law_trim cd__law_trim ct__law_trim), sl__law_trim⟩)
    (c__law_trim : PySem.W.codeIn K cd__law_trim "_law_trim" = true)
    (k__law_trim : PySem.W.keepIn K (.ref a_law_trim) = true)
    (a__law_side : PySem.W.nsIn K mainGlobals "_law_side" = some (some (.ref a_law_side)))
    (l__law_side : K.lookup a_law_side = some ⟨oc__law_side, od__law_side, .func (PySem.W.fnOf "_law_side" "_law_side" (defArgs s__law_side) (defBody s__law_side) (defScope s__law_side) .none kV__law_side dc__law_side pm__law_side an__law_side cd__law_side ct__law_side), sl__law_side⟩)
    (c__law_side : PySem.W.codeIn K cd__law_side "_law_side" = true)
    (k__law_side : PySem.W.keepIn K (.ref a_law_side) = true)
    (a__law_configuration : PySem.W.nsIn K mainGlobals "_law_configuration" = some (some (.ref a_law_configuration)))
    (l__law_configuration : K.lookup a_law_configuration = some ⟨oc__law_configuration, od__law_configuration, .func (PySem.W.fnOf "_law_configuration" "_law_configuration" (defArgs s__law_configuration) (defBody s__law_configuration) (defScope s__law_configuration) .none kV__law_configuration dc__law_configuration pm__law_configuration an__law_configuration cd__law_configuration ct__law_configuration), sl__law_configuration⟩)
    (c__law_configuration : PySem.W.codeIn K cd__law_configuration "_law_configuration" = true)
    (k__law_configuration : PySem.W.keepIn K (.ref a_law_configuration) = true)
    (a_Tape_row : PySem.W.findIn K (.ref c_Tape) "row" = some (some (.ref aTape_row)))
    (i_Tape_row : PySem.W.isFn K (.ref aTape_row) = true)
    (l_Tape_row : K.lookup aTape_row = some ⟨oc_Tape_row, od_Tape_row, .func (PySem.W.fnOf "row" "Tape.row" (defArgs s_Tape_row) (defBody s_Tape_row) (defScope s_Tape_row) .none kV_Tape_row dc_Tape_row pm_Tape_row an_Tape_row cd_Tape_row ct_Tape_row), sl_Tape_row⟩)
    (c_Tape_row : PySem.W.codeIn K cd_Tape_row "Tape.row" = true)
    (k_Tape_row : PySem.W.keepIn K (.ref aTape_row) = true)
    (a__places : PySem.W.nsIn K mainGlobals "_places" = some (some (.ref a_places)))
    (l__places : K.lookup a_places = some ⟨oc__places, od__places, .func (PySem.W.fnOf "_places" "_places" (defArgs s__places) (defBody s__places) (defScope s__places) .none kV__places dc__places pm__places an__places cd__places ct__places), sl__places⟩)
    (c__places : PySem.W.codeIn K cd__places "_places" = true)
    (k__places : PySem.W.keepIn K (.ref a_places) = true)
    (a_clashes : PySem.W.nsIn K mainGlobals "clashes" = some (some (.ref aclashes)))
    (l_clashes : K.lookup aclashes = some ⟨oc_clashes, od_clashes, .func (PySem.W.fnOf "clashes" "clashes" (defArgs s_clashes) (defBody s_clashes) (defScope s_clashes) .none kV_clashes dc_clashes pm_clashes an_clashes cd_clashes ct_clashes), sl_clashes⟩)
    (c_clashes : PySem.W.codeIn K cd_clashes "clashes" = true)
    (k_clashes : PySem.W.keepIn K (.ref aclashes) = true)
    (a_forgets : PySem.W.nsIn K mainGlobals "forgets" = some (some (.ref aforgets)))
    (l_forgets : K.lookup aforgets = some ⟨oc_forgets, od_forgets, .func (PySem.W.fnOf "forgets" "forgets" (defArgs s_forgets) (defBody s_forgets) (defScope s_forgets) .none kV_forgets dc_forgets pm_forgets an_forgets cd_forgets ct_forgets), sl_forgets⟩)
    (c_forgets : PySem.W.codeIn K cd_forgets "forgets" = true)
    (k_forgets : PySem.W.keepIn K (.ref aforgets) = true)
    (a__law_same : PySem.W.nsIn K mainGlobals "_law_same" = some (some (.ref a_law_same)))
    (l__law_same : K.lookup a_law_same = some ⟨oc__law_same, od__law_same, .func (PySem.W.fnOf "_law_same" "_law_same" (defArgs s__law_same) (defBody s__law_same) (defScope s__law_same) .none kV__law_same dc__law_same pm__law_same an__law_same cd__law_same ct__law_same), sl__law_same⟩)
    (c__law_same : PySem.W.codeIn K cd__law_same "_law_same" = true)
    (k__law_same : PySem.W.keepIn K (.ref a_law_same) = true)
    (a__law_step : PySem.W.nsIn K mainGlobals "_law_step" = some (some (.ref a_law_step)))
    (l__law_step : K.lookup a_law_step = some ⟨oc__law_step, od__law_step, .func (PySem.W.fnOf "_law_step" "_law_step" (defArgs s__law_step) (defBody s__law_step) (defScope s__law_step) .none kV__law_step dc__law_step pm__law_step an__law_step cd__law_step ct__law_step), sl__law_step⟩)
    (c__law_step : PySem.W.codeIn K cd__law_step "_law_step" = true)
    (k__law_step : PySem.W.keepIn K (.ref a_law_step) = true)
    (a_trimmed : PySem.W.nsIn K mainGlobals "trimmed" = some (some (.ref atrimmed)))
    (l_trimmed : K.lookup atrimmed = some ⟨oc_trimmed, od_trimmed, .func (PySem.W.fnOf "trimmed" "trimmed" (defArgs s_trimmed) (defBody s_trimmed) (defScope s_trimmed) .none kV_trimmed dc_trimmed pm_trimmed an_trimmed cd_trimmed ct_trimmed), sl_trimmed⟩)
    (c_trimmed : PySem.W.codeIn K cd_trimmed "trimmed" = true)
    (k_trimmed : PySem.W.keepIn K (.ref atrimmed) = true)
    (a_Tape_step : PySem.W.findIn K (.ref c_Tape) "step" = some (some (.ref aTape_step)))
    (i_Tape_step : PySem.W.isFn K (.ref aTape_step) = true)
    (l_Tape_step : K.lookup aTape_step = some ⟨oc_Tape_step, od_Tape_step, .func (PySem.W.fnOf "step" "Tape.step" (defArgs s_Tape_step) (defBody s_Tape_step) (defScope s_Tape_step) .none kV_Tape_step dc_Tape_step pm_Tape_step an_Tape_step cd_Tape_step ct_Tape_step), sl_Tape_step⟩)
    (c_Tape_step : PySem.W.codeIn K cd_Tape_step "Tape.step" = true)
    (k_Tape_step : PySem.W.keepIn K (.ref aTape_step) = true)
    (a_parted : PySem.W.nsIn K mainGlobals "parted" = some (some (.ref aparted)))
    (l_parted : K.lookup aparted = some ⟨oc_parted, od_parted, .func (PySem.W.fnOf "parted" "parted" (defArgs s_parted) (defBody s_parted) (defScope s_parted) .none kV_parted dc_parted pm_parted an_parted cd_parted ct_parted), sl_parted⟩)
    (c_parted : PySem.W.codeIn K cd_parted "parted" = true)
    (k_parted : PySem.W.keepIn K (.ref aparted) = true)
    (a__taken_back : PySem.W.nsIn K mainGlobals "_taken_back" = some (some (.ref a_taken_back)))
    (l__taken_back : K.lookup a_taken_back = some ⟨oc__taken_back, od__taken_back, .func (PySem.W.fnOf "_taken_back" "_taken_back" (defArgs s__taken_back) (defBody s__taken_back) (defScope s__taken_back) .none kV__taken_back dc__taken_back pm__taken_back an__taken_back cd__taken_back ct__taken_back), sl__taken_back⟩)
    (c__taken_back : PySem.W.codeIn K cd__taken_back "_taken_back" = true)
    (k__taken_back : PySem.W.keepIn K (.ref a_taken_back) = true)
    (a_before : PySem.W.nsIn K mainGlobals "before" = some (some (.ref abefore)))
    (l_before : K.lookup abefore = some ⟨oc_before, od_before, .func (PySem.W.fnOf "before" "before" (defArgs s_before) (defBody s_before) (defScope s_before) .none kV_before dc_before pm_before an_before cd_before ct_before), sl_before⟩)
    (c_before : PySem.W.codeIn K cd_before "before" = true)
    (k_before : PySem.W.keepIn K (.ref abefore) = true)
    (a_lost : PySem.W.nsIn K mainGlobals "lost" = some (some (.ref alost)))
    (l_lost : K.lookup alost = some ⟨oc_lost, od_lost, .func (PySem.W.fnOf "lost" "lost" (defArgs s_lost) (defBody s_lost) (defScope s_lost) .none kV_lost dc_lost pm_lost an_lost cd_lost ct_lost), sl_lost⟩)
    (c_lost : PySem.W.codeIn K cd_lost "lost" = true)
    (k_lost : PySem.W.keepIn K (.ref alost) = true)
    (a__law_back : PySem.W.nsIn K mainGlobals "_law_back" = some (some (.ref a_law_back)))
    (l__law_back : K.lookup a_law_back = some ⟨oc__law_back, od__law_back, .func (PySem.W.fnOf "_law_back" "_law_back" (defArgs s__law_back) (defBody s__law_back) (defScope s__law_back) .none kV__law_back dc__law_back pm__law_back an__law_back cd__law_back ct__law_back), sl__law_back⟩)
    (c__law_back : PySem.W.codeIn K cd__law_back "_law_back" = true)
    (k__law_back : PySem.W.keepIn K (.ref a_law_back) = true)
    (a_law : PySem.W.nsIn K mainGlobals "law" = some (some (.ref alaw)))
    (l_law : K.lookup alaw = some ⟨oc_law, od_law, .func (PySem.W.fnOf "law" "law" (defArgs s_law) (defBody s_law) (defScope s_law) .none kV_law dc_law pm_law an_law cd_law ct_law), sl_law⟩)
    (c_law : PySem.W.codeIn K cd_law "law" = true)
    (k_law : PySem.W.keepIn K (.ref alaw) = true)
    (pg_Tape : PySem.W.plainGet K c_Tape Str.empty = true)
    (hd_Tape : PySem.W.hasDictIn K c_Tape = true)
    (po_Tape : PySem.W.plainOver K c_Tape = true)
    (sa_Tape : PySem.W.findIn K (.ref c_Tape) "__setattr__" = some (some (.builtin "object.__setattr__")))
    (mk_Tape : PySem.W.makesIn K c_Tape = true)
    (kc_Tape : PySem.W.keepIn K (.ref c_Tape) = true)
    (n_Tape_0 : PySem.W.findIn K (.ref c_Tape) "marks" = some none)
    (n_Tape_1 : PySem.W.findIn K (.ref c_Tape) "states" = some none)
    (n_Tape_2 : PySem.W.findIn K (.ref c_Tape) "_rows" = some none)
    (q_BackError : PySem.W.excIn K c_BackError [.type "ValueError", .type "Exception", .type "BaseException", .type "object"] "ValueError.__new__" = true)
    (kx_BackError : PySem.W.keepIn K (.ref c_BackError) = true)
    (be_BackError : PySem.W.subIn K (.ref c_BackError) (.type "BaseException") = some true)
    (ty_BackError : PySem.W.typeIn K (.ref c_BackError) = some (.type "type"))
    (q_BadMachine : PySem.W.excIn K c_BadMachine [.type "ValueError", .type "Exception", .type "BaseException", .type "object"] "ValueError.__new__" = true)
    (kx_BadMachine : PySem.W.keepIn K (.ref c_BadMachine) = true)
    (be_BadMachine : PySem.W.subIn K (.ref c_BadMachine) (.type "BaseException") = some true)
    (ty_BadMachine : PySem.W.typeIn K (.ref c_BadMachine) = some (.type "type"))
    (z_abs : PySem.W.nsIn K mainGlobals "abs" = some none)
    (z_bool : PySem.W.nsIn K mainGlobals "bool" = some none)
    (z_enumerate : PySem.W.nsIn K mainGlobals "enumerate" = some none)
    (z_int : PySem.W.nsIn K mainGlobals "int" = some none)
    (z_isinstance : PySem.W.nsIn K mainGlobals "isinstance" = some none)
    (z_len : PySem.W.nsIn K mainGlobals "len" = some none)
    (z_list : PySem.W.nsIn K mainGlobals "list" = some none)
    (z_max : PySem.W.nsIn K mainGlobals "max" = some none)
    (z_range : PySem.W.nsIn K mainGlobals "range" = some none)
    (z_reversed : PySem.W.nsIn K mainGlobals "reversed" = some none)
    (z_sorted : PySem.W.nsIn K mainGlobals "sorted" = some none)
    (z_str : PySem.W.nsIn K mainGlobals "str" = some none)
    (z_tuple : PySem.W.nsIn K mainGlobals "tuple" = some none)
    (n_MOST_MARKS : PySem.W.nsIn K mainGlobals "MOST_MARKS" = some (some (.int 8 t_MOST_MARKS)))
    (n_MOST_STATES : PySem.W.nsIn K mainGlobals "MOST_STATES" = some (some (.int 40 t_MOST_STATES)))
    (hlaw : ∀ ns : List Int, ns.length ≤ 63 → ∃ S', F_law [.fz (ns.map Val.int)] S0 = .ok (.bl true) S') :
    ∃ fd : FuncData, (∀ (s : Shared) (v : Value), BindsTo s fd ⟨[v], []⟩ [("_law_script", v)]) ∧ ∀ base : Heap, K.In base → base.Ns mainGlobals mg → FnOk l.prog w K mg base (L2.CX l.prog w) 7 fa fd ["_law_script"] (spLaw K) := by
  have e := hfa.symm.trans (PySem.W.mg_of X G a_law)
  cases e
  let A : Ad := { _law_numbers := a_law_numbers, fd__law_numbers := PySem.W.fnOf "_law_numbers" "_law_numbers" (defArgs s__law_numbers) (defBody s__law_numbers) (defScope s__law_numbers) .none kV__law_numbers dc__law_numbers pm__law_numbers an__law_numbers cd__law_numbers ct__law_numbers, _law_take := a_law_take, fd__law_take := PySem.W.fnOf "_law_take" "_law_take" (defArgs s__law_take) (defBody s__law_take) (defScope s__law_take) .none kV__law_take dc__law_take pm__law_take an__law_take cd__law_take ct__law_take, _law_machine := a_law_machine, fd__law_machine := PySem.W.fnOf "_law_machine" "_law_machine" (defArgs s__law_machine) (defBody s__law_machine) (defScope s__law_machine) .none kV__law_machine dc__law_machine pm__law_machine an__law_machine cd__law_machine ct__law_machine, _law_little := a_law_little, fd__law_little := PySem.W.fnOf "_law_little" "_law_little" (defArgs s__law_little) (defBody s__law_little) (defScope s__law_little) .none kV__law_little dc__law_little pm__law_little an__law_little cd__law_little ct__law_little, is_integer := ais_integer, fd_is_integer := PySem.W.fnOf "is_integer" "is_integer" (defArgs s_is_integer) (defBody s_is_integer) (defScope s_is_integer) .none kV_is_integer dc_is_integer pm_is_integer an_is_integer cd_is_integer ct_is_integer, Tape__is_row := aTape__is_row, fd_Tape__is_row := PySem.W.fnOf "_is_row" "Tape._is_row" (defArgs s_Tape__is_row) (defBody s_Tape__is_row) (defScope s_Tape__is_row) .none kV_Tape__is_row dc_Tape__is_row pm_Tape__is_row an_Tape__is_row cd_Tape__is_row ct_Tape__is_row, Tape___init__ := aTape___init__, fd_Tape___init__ := PySem.W.fnOf "__init__" "Tape.__init__" (defArgs s_Tape___init__) (defBody s_Tape___init__) (defScope s_Tape___init__) .none kV_Tape___init__ dc_Tape___init__ pm_Tape___init__ an_Tape___init__ cd_Tape___init__ ct_Tape___init__, _law_trim := a_law_trim, fd__law_trim := PySem.W.fnOf "_law_trim" "_law_trim" (defArgs s__law_trim) (defBody s__law_trim) (defScope s__law_trim) .none kV__law_trim dc__law_trim pm__law_trim an__law_trim cd__law_trim ct__law_trim, _law_side := a_law_side, fd__law_side := PySem.W.fnOf "_law_side" "_law_side" (defArgs s__law_side) (defBody s__law_side) (defScope s__law_side) .none kV__law_side dc__law_side pm__law_side an__law_side cd__law_side ct__law_side, _law_configuration := a_law_configuration, fd__law_configuration := PySem.W.fnOf "_law_configuration" "_law_configuration" (defArgs s__law_configuration) (defBody s__law_configuration) (defScope s__law_configuration) .none kV__law_configuration dc__law_configuration pm__law_configuration an__law_configuration cd__law_configuration ct__law_configuration, Tape_row := aTape_row, fd_Tape_row := PySem.W.fnOf "row" "Tape.row" (defArgs s_Tape_row) (defBody s_Tape_row) (defScope s_Tape_row) .none kV_Tape_row dc_Tape_row pm_Tape_row an_Tape_row cd_Tape_row ct_Tape_row, _places := a_places, fd__places := PySem.W.fnOf "_places" "_places" (defArgs s__places) (defBody s__places) (defScope s__places) .none kV__places dc__places pm__places an__places cd__places ct__places, clashes := aclashes, fd_clashes := PySem.W.fnOf "clashes" "clashes" (defArgs s_clashes) (defBody s_clashes) (defScope s_clashes) .none kV_clashes dc_clashes pm_clashes an_clashes cd_clashes ct_clashes, forgets := aforgets, fd_forgets := PySem.W.fnOf "forgets" "forgets" (defArgs s_forgets) (defBody s_forgets) (defScope s_forgets) .none kV_forgets dc_forgets pm_forgets an_forgets cd_forgets ct_forgets, _law_same := a_law_same, fd__law_same := PySem.W.fnOf "_law_same" "_law_same" (defArgs s__law_same) (defBody s__law_same) (defScope s__law_same) .none kV__law_same dc__law_same pm__law_same an__law_same cd__law_same ct__law_same, _law_step := a_law_step, fd__law_step := PySem.W.fnOf "_law_step" "_law_step" (defArgs s__law_step) (defBody s__law_step) (defScope s__law_step) .none kV__law_step dc__law_step pm__law_step an__law_step cd__law_step ct__law_step, trimmed := atrimmed, fd_trimmed := PySem.W.fnOf "trimmed" "trimmed" (defArgs s_trimmed) (defBody s_trimmed) (defScope s_trimmed) .none kV_trimmed dc_trimmed pm_trimmed an_trimmed cd_trimmed ct_trimmed, Tape_step := aTape_step, fd_Tape_step := PySem.W.fnOf "step" "Tape.step" (defArgs s_Tape_step) (defBody s_Tape_step) (defScope s_Tape_step) .none kV_Tape_step dc_Tape_step pm_Tape_step an_Tape_step cd_Tape_step ct_Tape_step, parted := aparted, fd_parted := PySem.W.fnOf "parted" "parted" (defArgs s_parted) (defBody s_parted) (defScope s_parted) .none kV_parted dc_parted pm_parted an_parted cd_parted ct_parted, _taken_back := a_taken_back, fd__taken_back := PySem.W.fnOf "_taken_back" "_taken_back" (defArgs s__taken_back) (defBody s__taken_back) (defScope s__taken_back) .none kV__taken_back dc__taken_back pm__taken_back an__taken_back cd__taken_back ct__taken_back, before := abefore, fd_before := PySem.W.fnOf "before" "before" (defArgs s_before) (defBody s_before) (defScope s_before) .none kV_before dc_before pm_before an_before cd_before ct_before, lost := alost, fd_lost := PySem.W.fnOf "lost" "lost" (defArgs s_lost) (defBody s_lost) (defScope s_lost) .none kV_lost dc_lost pm_lost an_lost cd_lost ct_lost, _law_back := a_law_back, fd__law_back := PySem.W.fnOf "_law_back" "_law_back" (defArgs s__law_back) (defBody s__law_back) (defScope s__law_back) .none kV__law_back dc__law_back pm__law_back an__law_back cd__law_back ct__law_back, law := fa, fd_law := PySem.W.fnOf "law" "law" (defArgs s_law) (defBody s_law) (defScope s_law) .none kV_law dc_law pm_law an_law cd_law ct_law, c_BackError := c_BackError, c_BadMachine := c_BadMachine, c_Tape := c_Tape }
  have Z : Tx K mg A := {
    F__law_numbers := fun_mk (st := s__law_numbers) l__law_numbers c__law_numbers k__law_numbers,
    b__law_numbers := (fun_mk (st := s__law_numbers) l__law_numbers c__law_numbers k__law_numbers).binds (ps := ["_law_script", "_law_many"]) fun _ _ _ _ _ _ us hl => match us, hl with | [_, _], _ => rfl,
    g__law_numbers := PySem.W.mg_of X G a__law_numbers,
    F__law_take := fun_mk (st := s__law_take) l__law_take c__law_take k__law_take,
    b__law_take := (fun_mk (st := s__law_take) l__law_take c__law_take k__law_take).binds (ps := ["_law_numbers_here", "_law_place"]) fun _ _ _ _ _ _ us hl => match us, hl with | [_, _], _ => rfl,
    g__law_take := PySem.W.mg_of X G a__law_take,
    F__law_machine := fun_mk (st := s__law_machine) l__law_machine c__law_machine k__law_machine,
    b__law_machine := (fun_mk (st := s__law_machine) l__law_machine c__law_machine k__law_machine).binds (ps := ["_law_numbers_here", "_law_place", "_law_marks", "_law_states"]) fun _ _ _ _ _ _ us hl => match us, hl with | [_, _, _, _], _ => rfl,
    g__law_machine := PySem.W.mg_of X G a__law_machine,
    F__law_little := fun_mk (st := s__law_little) l__law_little c__law_little k__law_little,
    b__law_little := (fun_mk (st := s__law_little) l__law_little c__law_little k__law_little).binds (ps := ["_law_numbers_here", "_law_place"]) fun _ _ _ _ _ _ us hl => match us, hl with | [_, _], _ => rfl,
    g__law_little := PySem.W.mg_of X G a__law_little,
    F_is_integer := fun_mk (st := s_is_integer) l_is_integer c_is_integer k_is_integer,
    b_is_integer := (fun_mk (st := s_is_integer) l_is_integer c_is_integer k_is_integer).binds (ps := ["value", "least", "most"]) fun _ _ _ _ _ _ us hl => match us, hl with | [_, _, _], _ => rfl,
    g_is_integer := PySem.W.mg_of X G a_is_integer,
    F_Tape__is_row := fun_mk (st := s_Tape__is_row) l_Tape__is_row c_Tape__is_row k_Tape__is_row,
    b_Tape__is_row := (fun_mk (st := s_Tape__is_row) l_Tape__is_row c_Tape__is_row k_Tape__is_row).binds (ps := ["self", "row"]) fun _ _ _ _ _ _ us hl => match us, hl with | [_, _], _ => rfl,
    m_Tape__is_row := ⟨a_Tape__is_row, i_Tape__is_row, k_Tape__is_row⟩,
    F_Tape___init__ := fun_mk (st := s_Tape___init__) l_Tape___init__ c_Tape___init__ k_Tape___init__,
    b_Tape___init__ := (fun_mk (st := s_Tape___init__) l_Tape___init__ c_Tape___init__ k_Tape___init__).binds (ps := ["self", "marks", "states", "rows"]) fun _ _ _ _ _ _ us hl => match us, hl with | [_, _, _, _], _ => rfl,
    F__law_trim := fun_mk (st := s__law_trim) l__law_trim c__law_trim k__law_trim,
    b__law_trim := (fun_mk (st := s__law_trim) l__law_trim c__law_trim k__law_trim).binds (ps := ["_law_marks"]) fun _ _ _ _ _ _ us hl => match us, hl with | [_], _ => rfl,
    g__law_trim := PySem.W.mg_of X G a__law_trim,
    F__law_side := fun_mk (st := s__law_side) l__law_side c__law_side k__law_side,
    b__law_side := (fun_mk (st := s__law_side) l__law_side c__law_side k__law_side).binds (ps := ["_law_numbers_here", "_law_place", "_law_marks", "_law_most"]) fun _ _ _ _ _ _ us hl => match us, hl with | [_, _, _, _], _ => rfl,
    g__law_side := PySem.W.mg_of X G a__law_side,
    F__law_configuration := fun_mk (st := s__law_configuration) l__law_configuration c__law_configuration k__law_configuration,
    b__law_configuration := (fun_mk (st := s__law_configuration) l__law_configuration c__law_configuration k__law_configuration).binds (ps := ["_law_numbers_here", "_law_place", "_law_marks", "_law_states", "_law_most"]) fun _ _ _ _ _ _ us hl => match us, hl with | [_, _, _, _, _], _ => rfl,
    g__law_configuration := PySem.W.mg_of X G a__law_configuration,
    F_Tape_row := fun_mk (st := s_Tape_row) l_Tape_row c_Tape_row k_Tape_row,
    b_Tape_row := (fun_mk (st := s_Tape_row) l_Tape_row c_Tape_row k_Tape_row).binds (ps := ["self", "state", "mark"]) fun _ _ _ _ _ _ us hl => match us, hl with | [_, _, _], _ => rfl,
    m_Tape_row := ⟨a_Tape_row, i_Tape_row, k_Tape_row⟩,
    F__places := fun_mk (st := s__places) l__places c__places k__places,
    b__places := (fun_mk (st := s__places) l__places c__places k__places).binds (ps := ["machine"]) fun _ _ _ _ _ _ us hl => match us, hl with | [_], _ => rfl,
    g__places := PySem.W.mg_of X G a__places,
    F_clashes := fun_mk (st := s_clashes) l_clashes c_clashes k_clashes,
    b_clashes := (fun_mk (st := s_clashes) l_clashes c_clashes k_clashes).binds (ps := ["machine"]) fun _ _ _ _ _ _ us hl => match us, hl with | [_], _ => rfl,
    g_clashes := PySem.W.mg_of X G a_clashes,
    F_forgets := fun_mk (st := s_forgets) l_forgets c_forgets k_forgets,
    b_forgets := (fun_mk (st := s_forgets) l_forgets c_forgets k_forgets).binds (ps := ["machine"]) fun _ _ _ _ _ _ us hl => match us, hl with | [_], _ => rfl,
    g_forgets := PySem.W.mg_of X G a_forgets,
    F__law_same := fun_mk (st := s__law_same) l__law_same c__law_same k__law_same,
    b__law_same := (fun_mk (st := s__law_same) l__law_same c__law_same k__law_same).binds (ps := ["_law_actual", "_law_expected"]) fun _ _ _ _ _ _ us hl => match us, hl with | [_, _], _ => rfl,
    g__law_same := PySem.W.mg_of X G a__law_same,
    F__law_step := fun_mk (st := s__law_step) l__law_step c__law_step k__law_step,
    b__law_step := (fun_mk (st := s__law_step) l__law_step c__law_step k__law_step).binds (ps := ["_law_rows", "_law_marks", "_law_spot"]) fun _ _ _ _ _ _ us hl => match us, hl with | [_, _, _], _ => rfl,
    g__law_step := PySem.W.mg_of X G a__law_step,
    F_trimmed := fun_mk (st := s_trimmed) l_trimmed c_trimmed k_trimmed,
    b_trimmed := (fun_mk (st := s_trimmed) l_trimmed c_trimmed k_trimmed).binds (ps := ["marks"]) fun _ _ _ _ _ _ us hl => match us, hl with | [_], _ => rfl,
    g_trimmed := PySem.W.mg_of X G a_trimmed,
    F_Tape_step := fun_mk (st := s_Tape_step) l_Tape_step c_Tape_step k_Tape_step,
    b_Tape_step := (fun_mk (st := s_Tape_step) l_Tape_step c_Tape_step k_Tape_step).binds (ps := ["self", "configuration"]) fun _ _ _ _ _ _ us hl => match us, hl with | [_, _], _ => rfl,
    m_Tape_step := ⟨a_Tape_step, i_Tape_step, k_Tape_step⟩,
    F_parted := fun_mk (st := s_parted) l_parted c_parted k_parted,
    b_parted := (fun_mk (st := s_parted) l_parted c_parted k_parted).binds (ps := ["machine", "first", "second", "steps"]) fun _ _ _ _ _ _ us hl => match us, hl with | [_, _, _, _], _ => rfl,
    g_parted := PySem.W.mg_of X G a_parted,
    F__taken_back := fun_mk (st := s__taken_back) l__taken_back c__taken_back k__taken_back,
    b__taken_back := (fun_mk (st := s__taken_back) l__taken_back c__taken_back k__taken_back).binds (ps := ["configuration", "place", "row"]) fun _ _ _ _ _ _ us hl => match us, hl with | [_, _, _], _ => rfl,
    g__taken_back := PySem.W.mg_of X G a__taken_back,
    F_before := fun_mk (st := s_before) l_before c_before k_before,
    b_before := (fun_mk (st := s_before) l_before c_before k_before).binds (ps := ["machine", "configuration"]) fun _ _ _ _ _ _ us hl => match us, hl with | [_, _], _ => rfl,
    g_before := PySem.W.mg_of X G a_before,
    F_lost := fun_mk (st := s_lost) l_lost c_lost k_lost,
    b_lost := (fun_mk (st := s_lost) l_lost c_lost k_lost).binds (ps := ["machine", "configuration", "steps"]) fun _ _ _ _ _ _ us hl => match us, hl with | [_, _, _], _ => rfl,
    g_lost := PySem.W.mg_of X G a_lost,
    F__law_back := fun_mk (st := s__law_back) l__law_back c__law_back k__law_back,
    b__law_back := (fun_mk (st := s__law_back) l__law_back c__law_back k__law_back).binds (ps := ["_law_rows", "_law_marks", "_law_spot"]) fun _ _ _ _ _ _ us hl => match us, hl with | [_, _, _], _ => rfl,
    g__law_back := PySem.W.mg_of X G a__law_back,
    F_law := fun_mk (st := s_law) l_law c_law k_law,
    b_law := (fun_mk (st := s_law) l_law c_law k_law).binds (ps := ["_law_script"]) fun _ _ _ _ _ _ us hl => match us, hl with | [_], _ => rfl,
    g_law := PySem.W.mg_of X G a_law,
    O_Tape := ⟨rfl, ⟨pg_Tape, hd_Tape, po_Tape, sa_Tape⟩, (by show (["marks", "states", "_rows"] : List Str).Nodup; decide +kernel), (all_c n_Tape_0 (all_c n_Tape_1 (all_c n_Tape_2 all_n))), (by show (["marks", "states", "_rows"] : List Str).length < 1000; decide)⟩,
    g_Tape := PySem.W.mg_of X G aC_Tape,
    M_Tape := ⟨mk_Tape, a_Tape___init__, i_Tape___init__, kc_Tape⟩,
    E_BackError := ⟨rfl, rfl, PySem.W.mg_of X G aC_BackError, q_BackError, kx_BackError, be_BackError, ty_BackError⟩,
    E_BadMachine := ⟨rfl, rfl, PySem.W.mg_of X G aC_BadMachine, q_BadMachine, kx_BadMachine, be_BadMachine, ty_BadMachine⟩,
    z_abs := PySem.W.mg_none_of X G z_abs,
    z_bool := PySem.W.mg_none_of X G z_bool,
    z_enumerate := PySem.W.mg_none_of X G z_enumerate,
    z_int := PySem.W.mg_none_of X G z_int,
    z_isinstance := PySem.W.mg_none_of X G z_isinstance,
    z_len := PySem.W.mg_none_of X G z_len,
    z_list := PySem.W.mg_none_of X G z_list,
    z_max := PySem.W.mg_none_of X G z_max,
    z_range := PySem.W.mg_none_of X G z_range,
    z_reversed := PySem.W.mg_none_of X G z_reversed,
    z_sorted := PySem.W.mg_none_of X G z_sorted,
    z_str := PySem.W.mg_none_of X G z_str,
    z_tuple := PySem.W.mg_none_of X G z_tuple,
    k_MOST_MARKS := ⟨t_MOST_MARKS, PySem.W.mg_of X G n_MOST_MARKS⟩,
    k_MOST_STATES := ⟨t_MOST_STATES, PySem.W.mg_of X G n_MOST_STATES⟩ }
  exact ⟨A.fd_law, fun s v => .of_eq rfl, fun base _ _ => law_end (ok_law (P := l.prog) (w := w) (base := base) Z) hlaw⟩
theorem law_holds (ns : List Int) (h : ns.length ≤ 63) : ∃ S', F_law [.fz (ns.map Val.int)] S0 = .ok (.bl true) S' := Exists.elim (BK.law_k82 ns h) fun _ e => PM.lf_lawZ K82.lf_law e
end K82
open PySem PySem.W PyProof.Rows
set_option maxHeartbeats 0 in
theorem PySem.Challenge.cw_backstair_k82_runs_that_meet_holds : PySem.Challenge.rw_backstair_k82_runs_that_meet.Holds := by
  w_on; o_law; k_head; (case hw => w_witness2)
  k_fill
  refine L2.walk_of (l := PySem.Challenge.rw_backstair_k82_runs_that_meet) (n := 63) (k := 7) (x := "_law_script") (CX := fun w => L2.CX PySem.Challenge.rw_backstair_k82_runs_that_meet.prog w) (sp := fun w => PM.spLaw _) rfl (by decide) rfl ⟨rfl, by decide, by decide⟩ (fun w h Y => PySem.W.kIn_of Y) ?F (fun _ _ a ns hl _ hS => ⟨a, ns, rfl, hS, hl, fun _ => rfl⟩) (fun _ _ _ _ _ h => PM.cx_false h)
  case F =>
    intro w mg fa h KX G hmg
    refine' K82.all_mk KX G hmg ?aC_Tape ?aC_BackError ?aC_BadMachine ?a__law_numbers ?l__law_numbers ?c__law_numbers ?k__law_numbers ?a__law_take ?l__law_take ?c__law_take ?k__law_take ?a__law_machine ?l__law_machine ?c__law_machine ?k__law_machine ?a__law_little ?l__law_little ?c__law_little ?k__law_little ?a_is_integer ?l_is_integer ?c_is_integer ?k_is_integer ?a_Tape__is_row ?i_Tape__is_row ?l_Tape__is_row ?c_Tape__is_row ?k_Tape__is_row ?a_Tape___init__ ?i_Tape___init__ ?l_Tape___init__ ?c_Tape___init__ ?k_Tape___init__ ?a__law_trim ?l__law_trim ?c__law_trim ?k__law_trim ?a__law_side ?l__law_side ?c__law_side ?k__law_side ?a__law_configuration ?l__law_configuration ?c__law_configuration ?k__law_configuration ?a_Tape_row ?i_Tape_row ?l_Tape_row ?c_Tape_row ?k_Tape_row ?a__places ?l__places ?c__places ?k__places ?a_clashes ?l_clashes ?c_clashes ?k_clashes ?a_forgets ?l_forgets ?c_forgets ?k_forgets ?a__law_same ?l__law_same ?c__law_same ?k__law_same ?a__law_step ?l__law_step ?c__law_step ?k__law_step ?a_trimmed ?l_trimmed ?c_trimmed ?k_trimmed ?a_Tape_step ?i_Tape_step ?l_Tape_step ?c_Tape_step ?k_Tape_step ?a_parted ?l_parted ?c_parted ?k_parted ?a__taken_back ?l__taken_back ?c__taken_back ?k__taken_back ?a_before ?l_before ?c_before ?k_before ?a_lost ?l_lost ?c_lost ?k_lost ?a__law_back ?l__law_back ?c__law_back ?k__law_back ?a_law ?l_law ?c_law ?k_law ?pg_Tape ?hd_Tape ?po_Tape ?sa_Tape ?mk_Tape ?kc_Tape ?n_Tape_0 ?n_Tape_1 ?n_Tape_2 ?q_BackError ?kx_BackError ?be_BackError ?ty_BackError ?q_BadMachine ?kx_BadMachine ?be_BadMachine ?ty_BadMachine ?z_abs ?z_bool ?z_enumerate ?z_int ?z_isinstance ?z_len ?z_list ?z_max ?z_range ?z_reversed ?z_sorted ?z_str ?z_tuple ?n_MOST_MARKS ?n_MOST_STATES K82.law_holds
    (case aC_Tape => k_is)
    (case aC_BackError => k_is)
    (case aC_BadMachine => k_is)
    (case a__law_numbers => k_is)
    (case l__law_numbers => k_is)
    (case c__law_numbers => k_is)
    (case k__law_numbers => k_is)
    (case a__law_take => k_is)
    (case l__law_take => k_is)
    (case c__law_take => k_is)
    (case k__law_take => k_is)
    (case a__law_machine => k_is)
    (case l__law_machine => k_is)
    (case c__law_machine => k_is)
    (case k__law_machine => k_is)
    (case a__law_little => k_is)
    (case l__law_little => k_is)
    (case c__law_little => k_is)
    (case k__law_little => k_is)
    (case a_is_integer => k_is)
    (case l_is_integer => k_is)
    (case c_is_integer => k_is)
    (case k_is_integer => k_is)
    (case a_Tape__is_row => k_is)
    (case i_Tape__is_row => k_is)
    (case l_Tape__is_row => k_is)
    (case c_Tape__is_row => k_is)
    (case k_Tape__is_row => k_is)
    (case a_Tape___init__ => k_is)
    (case i_Tape___init__ => k_is)
    (case l_Tape___init__ => k_is)
    (case c_Tape___init__ => k_is)
    (case k_Tape___init__ => k_is)
    (case a__law_trim => k_is)
    (case l__law_trim => k_is)
    (case c__law_trim => k_is)
    (case k__law_trim => k_is)
    (case a__law_side => k_is)
    (case l__law_side => k_is)
    (case c__law_side => k_is)
    (case k__law_side => k_is)
    (case a__law_configuration => k_is)
    (case l__law_configuration => k_is)
    (case c__law_configuration => k_is)
    (case k__law_configuration => k_is)
    (case a_Tape_row => k_is)
    (case i_Tape_row => k_is)
    (case l_Tape_row => k_is)
    (case c_Tape_row => k_is)
    (case k_Tape_row => k_is)
    (case a__places => k_is)
    (case l__places => k_is)
    (case c__places => k_is)
    (case k__places => k_is)
    (case a_clashes => k_is)
    (case l_clashes => k_is)
    (case c_clashes => k_is)
    (case k_clashes => k_is)
    (case a_forgets => k_is)
    (case l_forgets => k_is)
    (case c_forgets => k_is)
    (case k_forgets => k_is)
    (case a__law_same => k_is)
    (case l__law_same => k_is)
    (case c__law_same => k_is)
    (case k__law_same => k_is)
    (case a__law_step => k_is)
    (case l__law_step => k_is)
    (case c__law_step => k_is)
    (case k__law_step => k_is)
    (case a_trimmed => k_is)
    (case l_trimmed => k_is)
    (case c_trimmed => k_is)
    (case k_trimmed => k_is)
    (case a_Tape_step => k_is)
    (case i_Tape_step => k_is)
    (case l_Tape_step => k_is)
    (case c_Tape_step => k_is)
    (case k_Tape_step => k_is)
    (case a_parted => k_is)
    (case l_parted => k_is)
    (case c_parted => k_is)
    (case k_parted => k_is)
    (case a__taken_back => k_is)
    (case l__taken_back => k_is)
    (case c__taken_back => k_is)
    (case k__taken_back => k_is)
    (case a_before => k_is)
    (case l_before => k_is)
    (case c_before => k_is)
    (case k_before => k_is)
    (case a_lost => k_is)
    (case l_lost => k_is)
    (case c_lost => k_is)
    (case k_lost => k_is)
    (case a__law_back => k_is)
    (case l__law_back => k_is)
    (case c__law_back => k_is)
    (case k__law_back => k_is)
    (case a_law => k_is)
    (case l_law => k_is)
    (case c_law => k_is)
    (case k_law => k_is)
    (case pg_Tape => k_is)
    (case hd_Tape => k_is)
    (case po_Tape => k_is)
    (case sa_Tape => k_is)
    (case mk_Tape => k_is)
    (case kc_Tape => k_is)
    (case n_Tape_0 => k_is)
    (case n_Tape_1 => k_is)
    (case n_Tape_2 => k_is)
    (case q_BackError => first | k_is | k_exc)
    (case kx_BackError => k_is)
    (case be_BackError => k_is)
    (case ty_BackError => k_is)
    (case q_BadMachine => first | k_is | k_exc)
    (case kx_BadMachine => k_is)
    (case be_BadMachine => k_is)
    (case ty_BadMachine => k_is)
    (case z_abs => k_is)
    (case z_bool => k_is)
    (case z_enumerate => k_is)
    (case z_int => k_is)
    (case z_isinstance => k_is)
    (case z_len => k_is)
    (case z_list => k_is)
    (case z_max => k_is)
    (case z_range => k_is)
    (case z_reversed => k_is)
    (case z_sorted => k_is)
    (case z_str => k_is)
    (case z_tuple => k_is)
    (case n_MOST_MARKS => k_is)
    (case n_MOST_STATES => k_is)
