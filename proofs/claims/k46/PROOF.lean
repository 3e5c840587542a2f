import PyProof.Rows.All
import HandS.ForMost
import HandS.ForExc
import HandS.Deep
import HandS.TupAny
import HandS.TupMul
import HandS.IsInst
import HandS.Flow
import HandS.Wide
import KE.DataMinMax
import HandS.Conv
import HandS.Style
import HandS.SortInts
import HandS.DictComp
import HandS.Rev
import HandS.Zip
import HandS.ExcIs
import KE.RegKTryMore
import PySem.Challenge.RW_backstair_k46_nets_run_both_ways
set_option Elab.async false
set_option linter.all false
set_option maxRecDepth 100000
set_option maxHeartbeats 4000000
/-! PM, part a: values without addresses, the store, how they stand in the heap -/
namespace PM
open PySem PySem.Spec L2

/-- the built-in classes that are asked for -/
inductive Tg where
  | non | bl | int | str | tup | lst | dct | ve
  deriving DecidableEq
def Tg.nm : Tg → String
  | .non => "NoneType" | .bl => "bool" | .int => "int" | .str => "str" | .tup => "tuple" | .lst => "list" | .dct => "dict" | .ve => "ValueError"
/-- a value as data; loc: a mutable object of the store; fz: the frozen list of the script -/
inductive Val where
  | non | bl (b : Bool) | int (i : Int) | str (s : Str) | ty (n : Tg)
  | tup (xs : List Val) | lst (xs : List Val) | fz (xs : List Val)
  | dk (ks : List Key) (vs : List Val) | dt (ks : List (List Key)) (vs : List Val)
  | ins (c : Nat) (vs : List Val) | err (c : Nat) (vs : List Val) | cls (c : Nat)
  | loc (n : Nat)
/-- a mutable object; lk: locked while a loop walks it -/
inductive Ob where
  | lst (xs : List Val)
  | dk (lk : Bool) (ks : List Key) (vs : List Val)
  | dt (lk : Bool) (ks : List (List Key)) (vs : List Val)
  | ins (c : Nat) (vs : List Val)
/-- the classes by number: where they stand, their attributes in the order in which __init__ sets them -/
structure Tbl where
  cl : Nat → Option Addr
  fl : Nat → List Str
  /-- the error that a suite holds: its object, its dict, its class -/
  ex : Option (Addr × Option Addr × Addr) := none
structure Sto where
  next : Nat
  objs : Nat → Option Ob
/-- what is known of the heap: the objects that never change, where the store's objects stand, how many there were -/
structure Wd where
  I : Hp
  m : Nat → Addr
  n : Nat

structure WLe (W W' : Wd) : Prop where
  sub : ∀ a o, W.I a = some o → W'.I a = some o
  le : W.n ≤ W'.n
  eq : ∀ k, k < W.n → W'.m k = W.m k
theorem WLe.refl (W : Wd) : WLe W W := ⟨fun _ _ h => h, Nat.le_refl _, fun _ _ => rfl⟩
theorem WLe.trans {W W1 W2 : Wd} (a : WLe W W1) (b : WLe W1 W2) : WLe W W2 :=
  ⟨fun c o h => b.sub c o (a.sub c o h), Nat.le_trans a.le b.le, fun k h => (b.eq k (Nat.lt_of_lt_of_le h a.le)).trans (a.eq k h)⟩

theorem SqT_mono {K : PySem.W.Frag} {H H' : Hp} {a : Addr} {xs : List V} (s : ∀ a o, H a = some o → H' a = some o) (h : SqT K H a xs) : SqT K H' a xs := by
  rcases h with (h | ⟨o, h⟩) | h
  · exact .inl (.inl (s _ _ h))
  · exact .inl (.inr ⟨o, s _ _ h⟩)
  · exact .inr h

theorem SqL_mono {K : PySem.W.Frag} {H H' : Hp} {a : Addr} {xs : List V} (s : ∀ a o, H a = some o → H' a = some o) (h : SqL K H a xs) : SqL K H' a xs := by
  rcases h with (h | ⟨o, h⟩) | h
  · exact .inl (.inl (s _ _ h))
  · exact .inl (.inr ⟨o, s _ _ h⟩)
  · exact .inr h

section
variable (K : PySem.W.Frag) (T : Tbl)
mutual
inductive VR (W : Wd) : Val → V → Prop
  | non : VR W .non .non
  | bl (b : Bool) : VR W (.bl b) (.bl b)
  | int (i : Int) : VR W (.int i) (.int i)
  | str (x : Str) : VR W (.str x) (.str x)
  | ty (n : Tg) : VR W (.ty n) (.ty n.nm)
  | tup {a : Addr} {vs : List Val} {xs : List V} : SqT K W.I a xs → VRs W vs xs → VR W (.tup vs) (.ref a)
  | lst {a : Addr} {vs : List Val} {xs : List V} : W.I a = some (.lst xs) → VRs W vs xs → VR W (.lst vs) (.ref a)
  | fz {a : Addr} {vs : List Val} {xs : List V} : SqL K W.I a xs → VRs W vs xs → VR W (.fz vs) (.ref a)
  | dk {a : Addr} {ks : List Key} {vs : List Val} {xs : List V} : ks.length = xs.length → W.I a = some (.dK (ks.zip xs)) → VRs W vs xs → VR W (.dk ks vs) (.ref a)
  | dt {a : Addr} {ks : List (List Key)} {vs : List Val} {xs : List V} : ks.length = xs.length → W.I a = some (.dT (ks.zip xs)) → VRs W vs xs → VR W (.dt ks vs) (.ref a)
  | ins {a C dx : Addr} {c : Nat} {vs : List Val} {xs : List V} : T.cl c = some C → xs.length ≤ (T.fl c).length → W.I a = some (.ins C dx ((T.fl c).zip xs)) → VRs W vs xs → VR W (.ins c vs) (.ref a)
  | loc {k : Nat} : k < W.n → VR W (.loc k) (.ref (W.m k))
  | cls {c : Nat} {C : Addr} : T.cl c = some C → VR W (.cls c) (.ref C)
  | err0 {a C : Addr} {c : Nat} : T.ex = some (a, none, C) → T.cl c = some C → T.fl c = [] → VR W (.err c []) (.ref a)
  | errd {a C d : Addr} {c : Nat} {vs : List Val} {xs : List V} : T.ex = some (a, some d, C) → T.cl c = some C → xs.length ≤ (T.fl c).length → W.I d = some (.xd ((T.fl c).zip xs)) → VRs W vs xs → VR W (.err c vs) (.ref a)
inductive VRs (W : Wd) : List Val → List V → Prop
  | nil : VRs W [] []
  | cons {v : Val} {vs : List Val} {x : V} {xs : List V} : VR W v x → VRs W vs xs → VRs W (v :: vs) (x :: xs)
end
end
section
variable {K : PySem.W.Frag} {T : Tbl} {W W' : Wd}
mutual
theorem VR.mono (l : WLe W W') : ∀ {v : Val} {x : V}, VR K T W v x → VR K T W' v x
  | _, _, .non => .non
  | _, _, .bl b => .bl b
  | _, _, .int b => .int b
  | _, _, .str b => .str b
  | _, _, .ty b => .ty b
  | _, _, .tup h r => .tup (SqT_mono l.sub h) (VRs.mono l r)
  | _, _, .lst h r => .lst (l.sub _ _ h) (VRs.mono l r)
  | _, _, .fz h r => .fz (SqL_mono l.sub h) (VRs.mono l r)
  | _, _, .dk e h r => .dk e (l.sub _ _ h) (VRs.mono l r)
  | _, _, .dt e h r => .dt e (l.sub _ _ h) (VRs.mono l r)
  | _, _, .ins c e h r => .ins c e (l.sub _ _ h) (VRs.mono l r)
  | _, _, .cls h => .cls h
  | _, _, .err0 a b c => .err0 a b c
  | _, _, .errd a b c h r => .errd a b c (l.sub _ _ h) (VRs.mono l r)
  | _, _, .loc (k := k) h => by rw [← l.eq k h]; exact .loc (Nat.lt_of_lt_of_le h l.le)
theorem VRs.mono (l : WLe W W') : ∀ {vs : List Val} {xs : List V}, VRs K T W vs xs → VRs K T W' vs xs
  | _, _, .nil => .nil
  | _, _, .cons a r => .cons (VR.mono l a) (VRs.mono l r)
end
theorem VRs.length : ∀ {vs : List Val} {xs : List V}, VRs K T W vs xs → vs.length = xs.length
  | _, _, .nil => rfl
  | _, _, .cons _ r => congrArg (· + 1) (VRs.length r)
theorem VRs.get : ∀ {vs : List Val} {xs : List V} {i : Nat} {v : Val}, VRs K T W vs xs → vs[i]? = some v → ∃ x, xs[i]? = some x ∧ VR K T W v x
  | _, _, _, _, .nil, e => by simp at e
  | _, _, 0, _, .cons r _, e => by simp at e; subst e; exact ⟨_, rfl, r⟩
  | _, _, i + 1, v, .cons _ t, e => by
    obtain ⟨x, h1, h2⟩ := VRs.get (i := i) (v := v) t (by simpa using e)
    exact ⟨x, by simpa using h1, h2⟩
theorem VRs.get' : ∀ {vs : List Val} {xs : List V} {i : Nat} {x : V}, VRs K T W vs xs → xs[i]? = some x → ∃ v, vs[i]? = some v ∧ VR K T W v x
  | _, _, _, _, .nil, e => by simp at e
  | _, _, 0, _, .cons r _, e => by simp at e; subst e; exact ⟨_, rfl, r⟩
  | _, _, i + 1, v, .cons _ t, e => by
    obtain ⟨x, h1, h2⟩ := VRs.get' (i := i) (x := v) t (by simpa using e)
    exact ⟨x, by simpa using h1, h2⟩
theorem VRs.append : ∀ {vs ws : List Val} {xs ys : List V}, VRs K T W vs xs → VRs K T W ws ys → VRs K T W (vs ++ ws) (xs ++ ys)
  | _, _, _, _, .nil, s => s
  | _, _, _, _, .cons r t, s => .cons r (VRs.append t s)
theorem VRs.take : ∀ {vs : List Val} {xs : List V} (n : Nat), VRs K T W vs xs → VRs K T W (vs.take n) (xs.take n)
  | _, _, 0, _ => .nil
  | _, _, _ + 1, .nil => .nil
  | _, _, n + 1, .cons r t => .cons r (VRs.take n t)
theorem VRs.drop : ∀ {vs : List Val} {xs : List V} (n : Nat), VRs K T W vs xs → VRs K T W (vs.drop n) (xs.drop n)
  | _, _, 0, r => r
  | _, _, _ + 1, .nil => .nil
  | _, _, n + 1, .cons _ t => VRs.drop n t
theorem VRs.set {v : Val} {x : V} (r : VR K T W v x) : ∀ {vs : List Val} {xs : List V} (i : Nat), VRs K T W vs xs → VRs K T W (vs.set i v) (xs.set i x)
  | _, _, _, .nil => .nil
  | _, _, 0, .cons _ t => .cons r t
  | _, _, i + 1, .cons q t => .cons q (VRs.set r i t)
theorem VRs.reverse : ∀ {vs : List Val} {xs : List V}, VRs K T W vs xs → VRs K T W vs.reverse xs.reverse
  | _, _, .nil => .nil
  | _, _, .cons r t => by
    rw [List.reverse_cons, List.reverse_cons]
    exact (VRs.reverse t).append (.cons r .nil)
theorem VRs.eraseIdx : ∀ {vs : List Val} {xs : List V} (i : Nat), VRs K T W vs xs → VRs K T W (vs.eraseIdx i) (xs.eraseIdx i)
  | _, _, _, .nil => .nil
  | _, _, 0, .cons _ t => t
  | _, _, i + 1, .cons q t => .cons q (VRs.eraseIdx i t)
theorem VRs.ints : ∀ {ns : List Int} {xs : List V}, VRs K T W (ns.map Val.int) xs → xs = ns.map V.int
  | [], _, .nil => rfl
  | n :: ns, _, .cons a r => by cases a; rw [VRs.ints r]; rfl
theorem VRs.ofInts : ∀ (ns : List Int), VRs K T W (ns.map Val.int) (ns.map V.int)
  | [] => .nil
  | _ :: ns => .cons (.int _) (VRs.ofInts ns)

/-- how a store's object stands at a -/
def OR (K : PySem.W.Frag) (T : Tbl) (W : Wd) (H : Hp) (a : Addr) : Ob → Prop
  | .lst vs => ∃ xs, H a = some (.lst xs) ∧ VRs K T W vs xs
  | .dk lk ks vs => ∃ xs, ks.length = xs.length ∧ (if lk then ∃ o, H a = some (.frz o (.dK (ks.zip xs))) else H a = some (.dK (ks.zip xs))) ∧ VRs K T W vs xs
  | .dt lk ks vs => ∃ xs, ks.length = xs.length ∧ (if lk then ∃ o, H a = some (.frz o (.dT (ks.zip xs))) else H a = some (.dT (ks.zip xs))) ∧ VRs K T W vs xs
  | .ins c vs => ∃ C dx xs, T.cl c = some C ∧ xs.length ≤ (T.fl c).length ∧ H a = some (.ins C dx ((T.fl c).zip xs)) ∧ VRs K T W vs xs
theorem OR.some {H : Hp} {a : Addr} : ∀ {o : Ob}, OR K T W H a o → ∃ u, H a = some u
  | .lst _, h => let ⟨_, h, _⟩ := h; ⟨_, h⟩
  | .dk true _ _, h => by obtain ⟨_, _, h, _⟩ := h; rw [if_pos rfl] at h; obtain ⟨o, h⟩ := h; exact ⟨_, h⟩
  | .dk false _ _, h => by obtain ⟨_, _, h, _⟩ := h; rw [if_neg Bool.false_ne_true] at h; exact ⟨_, h⟩
  | .dt true _ _, h => by obtain ⟨_, _, h, _⟩ := h; rw [if_pos rfl] at h; obtain ⟨o, h⟩ := h; exact ⟨_, h⟩
  | .dt false _ _, h => by obtain ⟨_, _, h, _⟩ := h; rw [if_neg Bool.false_ne_true] at h; exact ⟨_, h⟩
  | .ins _ _, h => let ⟨_, _, _, _, _, h, _⟩ := h; ⟨_, h⟩
theorem OR.mono (l : WLe W W') {H H' : Hp} {a : Addr} (e : H' a = H a) : ∀ {o : Ob}, OR K T W H a o → OR K T W' H' a o
  | .lst _, ⟨xs, h, r⟩ => ⟨xs, e.trans h, r.mono l⟩
  | .dk lk _ _, ⟨xs, z, h, r⟩ => ⟨xs, z, by rw [e]; exact h, r.mono l⟩
  | .dt lk _ _, ⟨xs, z, h, r⟩ => ⟨xs, z, by rw [e]; exact h, r.mono l⟩
  | .ins _ _, ⟨C, dx, xs, c, z, h, r⟩ => ⟨C, dx, xs, c, z, e.trans h, r.mono l⟩

structure SR (K : PySem.W.Frag) (T : Tbl) (W : Wd) (S : Sto) (H : Hp) : Prop where
  nx : W.n = S.next
  sub : ∀ a o, W.I a = some o → H a = some o
  lt : ∀ k o, S.objs k = some o → k < S.next
  out : ∀ k o, S.objs k = some o → W.I (W.m k) = none
  at_ : ∀ k o, S.objs k = some o → OR K T W H (W.m k) o
  inj : ∀ j k a b, S.objs j = some a → S.objs k = some b → W.m j = W.m k → j = k

def Sto.put (S : Sto) (k : Nat) (o : Ob) : Sto := ⟨S.next, fun j => if j = k then some o else S.objs j⟩
def Sto.drop (S : Sto) (k : Nat) : Sto := ⟨S.next, fun j => if j = k then none else S.objs j⟩
def Sto.alloc (S : Sto) (o : Ob) : Sto := ⟨S.next + 1, fun j => if j = S.next then some o else S.objs j⟩
def Wd.add (W : Wd) (p : Addr) (o : HO) : Wd := ⟨upd W.I p o, W.m, W.n⟩
def Wd.box (W : Wd) (p : Addr) : Wd := ⟨W.I, fun j => if j = W.n then p else W.m j, W.n + 1⟩

variable {S : Sto} {H : Hp} {p : Addr} {o : HO}
theorem SR.free (s : SR K T W S H) (hp : H p = none) : W.I p = none := by
  cases e : W.I p with
  | none => rfl
  | some u => rw [s.sub p u e] at hp; cases hp
theorem SR.ne (s : SR K T W S H) (hp : H p = none) {k : Nat} {b : Ob} (h : S.objs k = some b) : W.m k ≠ p := by
  intro e
  obtain ⟨u, hu⟩ := (s.at_ k b h).some
  rw [e, hp] at hu; cases hu
theorem WLe.add (hp : W.I p = none) : WLe W (W.add p o) :=
  ⟨fun a u h => by show upd W.I p o a = some u; rw [upd_ne (ne_of_none h hp)]; exact h, Nat.le_refl _, fun _ _ => rfl⟩
/-- a new object that will never change -/
theorem SR.add (s : SR K T W S H) (hp : H p = none) : SR K T (W.add p o) S (upd H p o) := by
  have l : WLe W (W.add p o) := .add (s.free hp)
  refine ⟨s.nx, fun a u h => ?_, s.lt, fun k b h => ?_, fun k b h => ?_, s.inj⟩
  · by_cases e : a = p
    · subst e
      have h' : upd W.I a o a = some u := h
      rw [upd_same] at h'; rw [upd_same]; exact h'
    · have h' : upd W.I p o a = some u := h
      rw [upd_ne e] at h'; rw [upd_ne e]; exact s.sub a u h'
  · show upd W.I p o (W.m k) = none
    rw [upd_ne (s.ne hp h)]; exact s.out k b h
  · exact (s.at_ k b h).mono l (upd_ne (s.ne hp h))
/-- a new object beside what is known (nothing is said of it) -/
theorem SR.beside (s : SR K T W S H) (hp : H p = none) : SR K T W S (upd H p o) := by
  refine ⟨s.nx, fun a u h => ?_, s.lt, s.out, fun k b h => (s.at_ k b h).mono (.refl _) (upd_ne (s.ne hp h)), s.inj⟩
  rw [upd_ne (ne_of_none (s.sub a u h) hp)]; exact s.sub a u h
theorem WLe.box : WLe W (W.box p) := ⟨fun _ _ h => h, Nat.le_succ _, fun k h => if_neg (Nat.ne_of_lt h)⟩
theorem Wd.box_at : (W.box p).m W.n = p := if_pos rfl
/-- a new object of the store -/
theorem SR.box {b : Ob} (s : SR K T W S H) (hp : H p = none) (h : OR K T (W.box p) (upd H p o) p b) : SR K T (W.box p) (S.alloc b) (upd H p o) := by
  have lt : ∀ {k : Nat} {b' : Ob}, S.objs k = some b' → k ≠ W.n := fun {k b'} e z => by
    have := s.lt k b' e
    rw [← s.nx] at this
    omega
  have old : ∀ {k : Nat} {b' : Ob}, k ≠ W.n → (S.alloc b).objs k = some b' → S.objs k = some b' := fun {k b'} hk e => by
    have e' : (if k = S.next then some b else S.objs k) = some b' := e
    rw [if_neg (by rw [← s.nx]; exact hk)] at e'
    exact e'
  have new : ∀ {b' : Ob}, (S.alloc b).objs W.n = some b' → b = b' := fun {b'} e => by
    have e' : (if W.n = S.next then some b else S.objs W.n) = some b' := e
    rw [if_pos s.nx] at e'
    exact Option.some.inj e'
  have mo : ∀ {k : Nat}, k ≠ W.n → (W.box p).m k = W.m k := fun {k} hk => if_neg hk
  refine ⟨by show W.n + 1 = S.next + 1; rw [s.nx], fun a u q => ?_, fun k b' e => ?_, fun k b' e => ?_, fun k b' e => ?_, fun j k a b' e1 e2 e3 => ?_⟩
  · rw [upd_ne (ne_of_none (s.sub a u q) hp)]; exact s.sub a u q
  · by_cases hk : k = W.n
    · rw [hk, s.nx]; exact Nat.lt_succ_self _
    · exact Nat.lt_succ_of_lt (s.lt k b' (old hk e))
  · by_cases hk : k = W.n
    · rw [hk, Wd.box_at]; exact s.free hp
    · rw [mo hk]; exact s.out k b' (old hk e)
  · by_cases hk : k = W.n
    · subst hk
      rw [Wd.box_at, ← new e]; exact h
    · rw [mo hk]
      exact (s.at_ k b' (old hk e)).mono .box (upd_ne (s.ne hp (old hk e)))
  · by_cases hj : j = W.n
    · by_cases hk : k = W.n
      · rw [hj, hk]
      · rw [hj, Wd.box_at, mo hk] at e3
        exact absurd e3.symm (s.ne hp (old hk e2))
    · by_cases hk : k = W.n
      · rw [hk, Wd.box_at, mo hj] at e3
        exact absurd e3 (s.ne hp (old hj e1))
      · rw [mo hj, mo hk] at e3
        exact s.inj j k a b' (old hj e1) (old hk e2) e3
/-- a store's object is changed -/
theorem SR.put {k : Nat} {b b' : Ob} (s : SR K T W S H) (e : S.objs k = some b) (h : OR K T W (upd H (W.m k) o) (W.m k) b') : SR K T W (S.put k b') (upd H (W.m k) o) := by
  have old : ∀ {j : Nat} {c : Ob}, j ≠ k → (S.put k b').objs j = some c → S.objs j = some c := fun {j c} hj q => by
    have q' : (if j = k then some b' else S.objs j) = some c := q
    rw [if_neg hj] at q'; exact q'
  have ex : ∀ {j : Nat} {c : Ob}, (S.put k b').objs j = some c → ∃ c', S.objs j = some c' := fun {j c} q => by
    by_cases hj : j = k
    · rw [hj]; exact ⟨_, e⟩
    · exact ⟨_, old hj q⟩
  refine ⟨s.nx, fun a u q => ?_, fun j c q => let ⟨c', q'⟩ := ex q; s.lt j c' q', fun j c q => let ⟨c', q'⟩ := ex q; s.out j c' q', fun j c q => ?_, fun i j c d q1 q2 q3 => ?_⟩
  · have ne : a ≠ W.m k := fun z => by rw [z, s.out k b e] at q; cases q
    rw [upd_ne ne]; exact s.sub a u q
  · by_cases hj : j = k
    · subst hj
      have q' : (if j = j then some b' else S.objs j) = some c := q
      rw [if_pos rfl] at q'
      cases q'
      exact h
    · refine (s.at_ j c (old hj q)).mono (.refl _) (upd_ne fun z => hj (s.inj j k c b (old hj q) e z))
  · obtain ⟨c1, r1⟩ := ex q1
    obtain ⟨c2, r2⟩ := ex q2
    exact s.inj i j c1 c2 r1 r2 q3
/-- a store's object is given up: it never changes from now on -/
theorem SR.frz {k : Nat} {b : Ob} (s : SR K T W S H) (e : S.objs k = some b) (h : H (W.m k) = some o) : SR K T (W.add (W.m k) o) (S.drop k) H := by
  have old : ∀ {j : Nat} {c : Ob}, (S.drop k).objs j = some c → j ≠ k ∧ S.objs j = some c := fun {j c} q => by
    have q' : (if j = k then none else S.objs j) = some c := q
    by_cases hj : j = k
    · rw [if_pos hj] at q'; cases q'
    · rw [if_neg hj] at q'; exact ⟨hj, q'⟩
  have l : WLe W (W.add (W.m k) o) := .add (s.out k b e)
  refine ⟨s.nx, fun a u q => ?_, fun j c q => s.lt j c (old q).2, fun j c q => ?_, fun j c q => (s.at_ j c (old q).2).mono l rfl, fun i j c d q1 q2 q3 => s.inj i j c d (old q1).2 (old q2).2 q3⟩
  · have q' : upd W.I (W.m k) o a = some u := q
    by_cases ha : a = W.m k
    · rw [ha, upd_same] at q'; rw [ha, h]; exact q'
    · rw [upd_ne ha] at q'; exact s.sub a u q'
  · show upd W.I (W.m k) o (W.m j) = none
    rw [upd_ne fun z => (old q).1 (s.inj j k c b (old q).2 e z)]
    exact s.out j c (old q).2

/-! ### the frame's names -/
abbrev Ev := List (Option Val)
structure ER (K : PySem.W.Frag) (T : Tbl) (W : Wd) (ρ : Ev) (σ : St) : Prop where
  len : ρ.length = σ.length
  get : ∀ (i : Nat) (v : Val), ρ[i]? = some (some v) → ∃ x : V, σ[i]? = some (some x) ∧ VR K T W v x
theorem ER.mono {ρ : Ev} {σ : St} (l : WLe W W') (e : ER K T W ρ σ) : ER K T W' ρ σ := ⟨e.len, fun i v h => let ⟨x, a, b⟩ := e.get i v h; ⟨x, a, b.mono l⟩⟩
theorem ER.set {ρ : Ev} {σ : St} {i : Nat} {v : Val} {x : V} (e : ER K T W ρ σ) (r : VR K T W v x) : ER K T W (ρ.set i (some v)) (σ.set i (some x)) := by
  refine ⟨by rw [List.length_set, List.length_set]; exact e.len, fun j u h => ?_⟩
  by_cases hj : i = j
  · subst hj
    by_cases hl : i < ρ.length
    · rw [List.getElem?_set_self hl] at h
      cases h
      exact ⟨x, List.getElem?_set_self (by rw [← e.len]; exact hl), r⟩
    · rw [List.getElem?_eq_none (by simpa using hl)] at h; cases h
  · rw [List.getElem?_set_ne hj] at h
    obtain ⟨y, a, b⟩ := e.get j u h
    exact ⟨y, by rw [List.getElem?_set_ne hj]; exact a, b⟩
/-- forgetting a name -/
theorem ER.forget {ρ : Ev} {σ : St} {i : Nat} {x : Option V} (e : ER K T W ρ σ) : ER K T W (ρ.set i none) (σ.set i x) := by
  refine ⟨by rw [List.length_set, List.length_set]; exact e.len, fun j u h => ?_⟩
  by_cases hj : i = j
  · subst hj
    by_cases hl : i < ρ.length
    · rw [List.getElem?_set_self hl] at h; cases h
    · rw [List.getElem?_eq_none (by simpa using hl)] at h; cases h
  · rw [List.getElem?_set_ne hj] at h
    obtain ⟨y, a, b⟩ := e.get j u h
    exact ⟨y, by rw [List.getElem?_set_ne hj]; exact a, b⟩
def wipeE (ρ : Ev) : List Nat → Ev
  | [] => ρ
  | v :: vs => (wipeE ρ vs).set v none
theorem ER.wipe {ρ : Ev} {σ : St} (e : ER K T W ρ σ) : ∀ vs, ER K T W (wipeE ρ vs) (L2.wipe σ vs)
  | [] => e
  | _ :: vs => (ER.wipe e vs).forget
theorem ER.start : ∀ {N : List Str} {vs : List Val} {xs : List V}, VRs K T W vs xs → ER K T W (vs.map Option.some ++ List.replicate (N.length - vs.length) none) (L2.start N xs) := fun {N vs xs} r => by
  unfold L2.start
  refine ⟨by simp [r.length], fun i v h => ?_⟩
  by_cases hi : i < vs.length
  · rw [List.getElem?_append_left (by simpa using hi), List.getElem?_map] at h
    cases q : vs[i]? with
    | none => rw [q] at h; cases h
    | some u =>
      rw [q] at h
      cases h
      obtain ⟨x, a, b⟩ := r.get q
      refine ⟨x, ?_, b⟩
      rw [List.getElem?_append_left (by simpa [← r.length] using hi), List.getElem?_map, a]
      rfl
  · rw [List.getElem?_append_right (by simpa using hi), List.getElem?_replicate] at h
    split at h <;> cases h
end
end PM

/-! PM, part b: readings by data, the core -/
namespace PM
open PySem PySem.Spec L2

inductive Res (α : Type) where
  | ok (a : α) (S : Sto) | ex (c : Nat) (vs : List Val) (S : Sto) | st
def Res.bind {α β : Type} (r : Res α) (g : α → Sto → Res β) : Res β := match r with
  | .ok a S => g a S
  | .ex c vs S => .ex c vs S
  | .st => .st
def noEx {α : Type} : Res α → Res α
  | .ok a S => .ok a S
  | _ => .st
inductive SRes where
  | nx (ρ : Ev) (S : Sto) | rt (v : Val) (S : Sto) | bk (ρ : Ev) (S : Sto) | ct (ρ : Ev) (S : Sto)
  | ex (c : Nat) (vs : List Val) (ρ : Ev) (S : Sto) | st
abbrev EM := Ev → Sto → Res Val
abbrev BM := Ev → Sto → Res Bool
abbrev AM := Ev → Sto → Res (List Val)
abbrev SM := Ev → Sto → SRes
abbrev FM := List Val → Sto → Res Val

section
variable {K : PySem.W.Frag} {T : Tbl}
/-- an exception's class and own dict -/
def XR (K : PySem.W.Frag) (T : Tbl) (W : Wd) (c : Nat) (vs : List Val) (cls : Value) (od : Option Addr) : Prop :=
  ∃ C, T.cl c = some C ∧ cls = .ref C ∧ ((T.fl c = [] ∧ vs = [] ∧ od = none) ∨ (T.fl c ≠ [] ∧ ∃ a xs, od = some a ∧ xs.length ≤ (T.fl c).length ∧ W.I a = some (.xd ((T.fl c).zip xs)) ∧ VRs K T W vs xs))
def RP (K : PySem.W.Frag) (T : Tbl) {α : Type} (W : Wd) (r : Res α) (P : Wd → Sto → Hp → α → Prop) (PX : Hp → Value → Option Addr → Prop) : Prop := match r with
  | .ok a S' => ∀ W' H', WLe W W' → SR K T W' S' H' → P W' S' H' a
  | .ex c vs S' => ∀ W' H' cls od, WLe W W' → SR K T W' S' H' → XR K T W' c vs cls od → PX H' cls od
  | .st => False
variable {α β : Type} {W : Wd} {P P' : Wd → Sto → Hp → α → Prop} {PX PX' : Hp → Value → Option Addr → Prop}
theorem RP.wle {W' : Wd} {r : Res α} (l : WLe W W') (h : RP K T W r P PX) : RP K T W' r P PX := by
  cases r with
  | ok a S => exact fun W2 H2 l2 s => h W2 H2 (l.trans l2) s
  | ex c vs S => exact fun W2 H2 cls od l2 s => h W2 H2 cls od (l.trans l2) s
  | st => exact h
theorem RP.imp {r : Res α} (h : RP K T W r P PX) (i : ∀ W' S' H' a, WLe W W' → SR K T W' S' H' → P W' S' H' a → P' W' S' H' a) (j : ∀ H' c o, PX H' c o → PX' H' c o) : RP K T W r P' PX' := by
  cases r with
  | ok a S => exact fun W2 H2 l s => i W2 S H2 a l s (h W2 H2 l s)
  | ex c vs S => exact fun W2 H2 cls od l s x => j _ _ _ (h W2 H2 cls od l s x)
  | st => exact h
theorem RP.bind {r : Res α} {g : α → Sto → Res β} {P : Wd → Sto → Hp → β → Prop} {P' : Wd → Sto → Hp → α → Prop} (h : RP K T W (r.bind g) P PX)
    (i : ∀ W' S' H' a, WLe W W' → SR K T W' S' H' → RP K T W' (g a S') P PX → P' W' S' H' a) : RP K T W r P' PX := by
  cases r with
  | ok a S => exact fun W2 H2 l s => i W2 S H2 a l s (RP.wle l h)
  | ex c vs S => exact h
  | st => exact h
theorem RP.noEx {r : Res α} (h : RP K T W (PM.noEx r) P PX) : RP K T W r P PX' := by
  cases r with
  | ok a S => exact h
  | ex c vs S => exact False.elim h
  | st => exact h
theorem RP.now {a : α} {S : Sto} {H : Hp} (h : RP K T W (.ok a S) P PX) (s : SR K T W S H) : P W S H a := h W H (.refl W) s
end

abbrev VP (K : PySem.W.Frag) (T : Tbl) (Q : VK) : Wd → Sto → Hp → Val → Prop := fun W' _ H' v => ∀ x, VR K T W' v x → Q x H'
/-- the wish of an exception, by the slots -/
abbrev XW := Value → Option Addr → L2.St → Hp → Prop
def XW0 : XW := fun _ _ _ _ => False
def rdE (K : PySem.W.Frag) (T : Tbl) (Ew : XW) (f : EM) : TE := fun σ H Q => ∃ W ρ S, SR K T W S H ∧ ER K T W ρ σ ∧ RP K T W (f ρ S) (VP K T Q) (fun H' c o => Ew c o σ H')
def rdT (K : PySem.W.Frag) (T : Tbl) (Ew : XW) (f : BM) : TT := fun σ H Q => ∃ W ρ S, SR K T W S H ∧ ER K T W ρ σ ∧ RP K T W (f ρ S) (fun _ _ H' b => Q b H') (fun H' c o => Ew c o σ H')
def rdA (K : PySem.W.Frag) (T : Tbl) (Ew : XW) (f : AM) : TA := fun σ H Q => ∃ W ρ S, SR K T W S H ∧ ER K T W ρ σ ∧ RP K T W (f ρ S) (fun W' _ H' vs => ∀ xs, VRs K T W' vs xs → Q xs H') (fun H' c o => Ew c o σ H')
/-- behind a statement -/
def SPo (K : PySem.W.Frag) (T : Tbl) (Ew : XW) (W : Wd) (D : Ends) : SRes → Prop
  | .nx ρ' S' => ∀ W' H' σ', WLe W W' → SR K T W' S' H' → ER K T W' ρ' σ' → D.nx σ' H'
  | .rt v S' => ∀ W' H' x, WLe W W' → SR K T W' S' H' → VR K T W' v x → D.rt x H'
  | .bk ρ' S' => ∀ W' H' σ', WLe W W' → SR K T W' S' H' → ER K T W' ρ' σ' → D.bk σ' H'
  | .ct ρ' S' => ∀ W' H' σ', WLe W W' → SR K T W' S' H' → ER K T W' ρ' σ' → D.ct σ' H'
  | .ex c vs ρ' S' => ∀ W' H' σ' cls od, WLe W W' → SR K T W' S' H' → ER K T W' ρ' σ' → XR K T W' c vs cls od → Ew cls od σ' H'
  | .st => False
def rdS (K : PySem.W.Frag) (T : Tbl) (Ew : XW) (s : SM) : TS := fun D σ H => ∃ W ρ S, SR K T W S H ∧ ER K T W ρ σ ∧ SPo K T Ew W D (s ρ S)
theorem SPo.wle {K : PySem.W.Frag} {T : Tbl} {Ew : XW} {W W' : Wd} {D : Ends} {r : SRes} (l : WLe W W') (h : SPo K T Ew W D r) : SPo K T Ew W' D r := by
  cases r with
  | nx ρ S => exact fun W2 H2 σ l2 => h W2 H2 σ (l.trans l2)
  | rt ρ S => exact fun W2 H2 σ l2 => h W2 H2 σ (l.trans l2)
  | bk ρ S => exact fun W2 H2 σ l2 => h W2 H2 σ (l.trans l2)
  | ct ρ S => exact fun W2 H2 σ l2 => h W2 H2 σ (l.trans l2)
  | ex c vs ρ S => exact fun W2 H2 σ cls od l2 => h W2 H2 σ cls od (l.trans l2)
  | st => exact h

/-! ### the judgements over data -/
abbrev PEm (T : Tbl) (X : Cx) (Ew : XW) (e : Expr) (f : EM) : Prop := PE X e (rdE X.K T Ew f)
abbrev PTm (T : Tbl) (X : Cx) (Ew : XW) (e : Expr) (f : BM) : Prop := PT X e (rdT X.K T Ew f)
abbrev PWm (T : Tbl) (X : Cx) (Ew : XW) (e : Expr) (f : BM) : Prop := PW X e (rdT X.K T Ew f)
abbrev PAm (T : Tbl) (X : Cx) (Ew : XW) (es : List Expr) (f : AM) : Prop := PA X es (rdA X.K T Ew f)
abbrev PSm (T : Tbl) (X : Cx) (Ew : XW) (st : Stmt) (f : SM) : Prop := PS X st (rdS X.K T Ew f)
abbrev PBm (T : Tbl) (X : Cx) (Ew : XW) (st : List Stmt) (f : SM) : Prop := PSs X st (rdS X.K T Ew f)
section
variable {X : Cx}
theorem PE.to {e : Expr} {t t' : TE} (h : PE X e t) (i : ∀ σ H Q, t' σ H Q → t σ H Q) : PE X e t' := ⟨fun pins s σ H Q I q => h.run pins s σ H Q I (i _ _ _ q)⟩
theorem PT.to {e : Expr} {t t' : TT} (h : PT X e t) (i : ∀ σ H Q, t' σ H Q → t σ H Q) : PT X e t' := ⟨fun pins s σ H Q I q => h.run pins s σ H Q I (i _ _ _ q)⟩
theorem PW.to {e : Expr} {t t' : TT} (h : PW X e t) (i : ∀ σ H Q, t' σ H Q → t σ H Q) : PW X e t' := ⟨fun wh pins s σ H Q I q => h.run wh pins s σ H Q I (i _ _ _ q)⟩
theorem PA.to {e : List Expr} {t t' : TA} (h : PA X e t) (i : ∀ σ H Q, t' σ H Q → t σ H Q) : PA X e t' := ⟨fun p pins s σ H Q I q => h.run p pins s σ H Q I (i _ _ _ q)⟩
theorem PS.to {e : Stmt} {t t' : TS} (h : PS X e t) (i : ∀ D σ H, t' D σ H → t D σ H) : PS X e t' := ⟨fun pins s σ H D I q => h.run pins s σ H D I (i _ _ _ q)⟩
theorem PSs.to {e : List Stmt} {t t' : TS} (h : PSs X e t) (i : ∀ D σ H, t' D σ H → t D σ H) : PSs X e t' := ⟨fun pins s σ H D I q => h.run pins s σ H D I (i _ _ _ q)⟩
end

/-! ### combinators: expressions -/
def eVar (i : Nat) : EM := fun ρ S => match ρ[i]? with
  | some (some v) => .ok v S
  | _ => .st
def eC (v : Val) : EM := fun _ S => .ok v S
def eBin (op : Val → Val → Sto → Res Val) (a b : EM) : EM := fun ρ S => (a ρ S).bind fun v S1 => (b ρ S1).bind fun w S2 => op v w S2
def eUn (op : Val → Sto → Res Val) (a : EM) : EM := fun ρ S => (a ρ S).bind fun v S1 => op v S1
def aNil : AM := fun _ S => .ok [] S
def aCons (a : EM) (r : AM) : AM := fun ρ S => (a ρ S).bind fun v S1 => (r ρ S1).bind fun vs S2 => .ok (v :: vs) S2
def eBI (op : List Val → Sto → Res Val) (a : AM) : EM := fun ρ S => (a ρ S).bind fun vs S1 => op vs S1
def eCall (F : FM) (a : AM) : EM := fun ρ S => (a ρ S).bind fun vs S1 => noEx (F vs S1)
def eTup (a : AM) : EM := fun ρ S => (a ρ S).bind fun vs S1 => if vs.length ≤ sizeLine then .ok (.tup vs) S1 else .st
/-- a new list: a value, or (bx) an object of the store -/
def mkL (bx : Bool) (vs : List Val) (S : Sto) : Res Val := if bx then .ok (.loc S.next) (S.alloc (.lst vs)) else .ok (.lst vs) S
def eLst (bx : Bool) (a : AM) : EM := fun ρ S => (a ρ S).bind fun vs S1 => if vs.length ≤ sizeLine then mkL bx vs S1 else .st
def eIf (t : BM) (a b : EM) : EM := fun ρ S => (t ρ S).bind fun c S1 => if c then a ρ S1 else b ρ S1
/-- values that are True or False -/
def eAnd (a b : EM) : EM := fun ρ S => (a ρ S).bind fun v S1 => match v with
  | .bl true => b ρ S1
  | .bl false => .ok (.bl false) S1
  | _ => .st
def eOr (a b : EM) : EM := fun ρ S => (a ρ S).bind fun v S1 => match v with
  | .bl true => .ok (.bl true) S1
  | .bl false => b ρ S1
  | _ => .st
def eNot (a : EM) : EM := fun ρ S => (a ρ S).bind fun v S1 => match v with
  | .bl c => .ok (.bl (!c)) S1
  | _ => .st
/-- a test by a value that is True or False -/
def tB (a : EM) : BM := fun ρ S => (a ρ S).bind fun v S1 => match v with
  | .bl c => .ok c S1
  | _ => .st
def tAndM (a b : BM) : BM := fun ρ S => (a ρ S).bind fun c S1 => if c then b ρ S1 else .ok false S1
def tOrM (a b : BM) : BM := fun ρ S => (a ρ S).bind fun c S1 => if c then .ok true S1 else b ρ S1
def tNotM (a : BM) : BM := fun ρ S => (a ρ S).bind fun c S1 => .ok (!c) S1

section
variable {T : Tbl} {X : Cx} {Ew : XW} {e a b c : Expr} {es : List Expr} {f fa fb fc : EM} {fs : AM} {pos : Pos}
theorem m_var (i : Nat) {x : Str} (hN : X.N[i]? = some x := by rfl) (hv : Vis X.env.scope x := by first | exact Or.inl rfl | exact Or.inr (Or.inl rfl) | exact Or.inr (Or.inr rfl)) (hd : (x == ("__debug__" : Str)) = false := by decide)
    (hcd : (x == ("__classdict__" : Str)) = false := by decide) : PEm T X Ew (.Name x pos) (eVar i) := by
  refine PE.to (pe_var hN hv hd hcd) fun σ H Q h => ?_
  obtain ⟨W, ρ, S, s, r, h⟩ := h
  unfold eVar at h
  cases e : ρ[i]? with
  | none => rw [e] at h; exact False.elim h
  | some o =>
    cases o with
    | none => rw [e] at h; exact False.elim h
    | some v =>
      rw [e] at h
      obtain ⟨x, hx, vx⟩ := r.get i v e
      exact ⟨x, hx, h.now s x vx⟩
theorem m_int {i : Int} {j} : PEm T X Ew (.Constant (.int i) j pos) (eC (.int i)) := PE.to pe_int fun σ H Q ⟨W, ρ, S, s, r, h⟩ => h.now s _ (.int i)
theorem m_bl {i : Bool} {j} : PEm T X Ew (.Constant (.bool i) j pos) (eC (.bl i)) := PE.to pe_bl fun σ H Q ⟨W, ρ, S, s, r, h⟩ => h.now s _ (.bl i)
theorem m_non {j} : PEm T X Ew (.Constant .none j pos) (eC .non) := PE.to pe_non fun σ H Q ⟨W, ρ, S, s, r, h⟩ => h.now s _ .non
theorem m_str {i : Str} {j} : PEm T X Ew (.Constant (.str i) j pos) (eC (.str i)) := PE.to pe_str fun σ H Q ⟨W, ρ, S, s, r, h⟩ => h.now s _ (.str i)
/-- a constant of the module -/
theorem m_glob {x : Str} {v : Val} {z : V} {u : Value} (hg : Gl X x) (hm : X.mg x = some u) (r : RelV z u) (hv : ∀ W, VR X.K T W v z) (hd : (x == ("__debug__" : Str)) = false := by decide) : PEm T X Ew (.Name x pos) (eC v) :=
  PE.to (pe_glob hg hm r hd) fun σ H Q ⟨W, ρ, S, s, r, h⟩ => h.now s _ (hv W)
/-- a built-in's name as a value -/
theorem m_bltn {x : Str} {v : Val} {z : V} {u : Value} (hg : Gl X x) (hm : X.mg x = none) (hb : bootBuiltins x = some u) (r : RelV z u) (hv : ∀ W, VR X.K T W v z) (hn : x ≠ "__name__" := by decide) (hd : (x == ("__debug__" : Str)) = false := by decide) :
    PEm T X Ew (.Name x pos) (eC v) := PE.to (pe_bltn hg hm hb r hn hd) fun σ H Q ⟨W, ρ, S, s, r, h⟩ => h.now s _ (hv W)

def Op2 (K : PySem.W.Frag) (T : Tbl) (r : R2) (op : Val → Val → Sto → Res Val) : Prop := ∀ W S H v w x y (Q : VK) (PX : Hp → Value → Option Addr → Prop), SR K T W S H → VR K T W v x → VR K T W w y →
  RP K T W (op v w S) (VP K T Q) PX → r x y H Q
def Op1 (K : PySem.W.Frag) (T : Tbl) (r : V → Hp → VK → Prop) (op : Val → Sto → Res Val) : Prop := ∀ W S H v x (Q : VK) (PX : Hp → Value → Option Addr → Prop), SR K T W S H → VR K T W v x →
  RP K T W (op v S) (VP K T Q) PX → r x H Q
def OpL (K : PySem.W.Frag) (T : Tbl) (r : List V → Hp → VK → Prop) (op : List Val → Sto → Res Val) : Prop := ∀ W S H vs xs (Q : VK) (PX : Hp → Value → Option Addr → Prop), SR K T W S H → VRs K T W vs xs →
  RP K T W (op vs S) (VP K T Q) PX → r xs H Q
theorem rd_bin {r : R2} {op : Val → Val → Sto → Res Val} (ok : Op2 X.K T r op) {σ : L2.St} {H : Hp} {Q : VK} (h : rdE X.K T Ew (eBin op fa fb) σ H Q) : tOp r (rdE X.K T Ew fa) (rdE X.K T Ew fb) σ H Q := by
  obtain ⟨W, ρ, S, s, er, h⟩ := h
  refine ⟨W, ρ, S, s, er, RP.bind h fun W1 S1 H1 v l1 s1 h1 x vx => ⟨W1, ρ, S1, s1, er.mono l1, RP.bind h1 fun W2 S2 H2 w l2 s2 h2 y vy => ?_⟩⟩
  exact ok W2 S2 H2 v w x y Q _ s2 (vx.mono l2) vy h2
theorem m_op {op : Operator} {r : R2} {o : Val → Val → Sto → Res Val} (ho : OpR X (binaryOp op) r) (ok : Op2 X.K T r o) (ha : PEm T X Ew a fa) (hb : PEm T X Ew b fb) : PEm T X Ew (.BinOp a op b pos) (eBin o fa fb) :=
  PE.to (pe_op ho ha hb) fun _ _ _ h => rd_bin ok h
theorem m_cmp {op : CmpOp} {r : R2} {o : Val → Val → Sto → Res Val} (ho : OpR X (compareOp op) r) (ok : Op2 X.K T r o) (ha : PEm T X Ew a fa) (hb : PEm T X Ew b fb) (hm : behindInMarks op b = false) : PEm T X Ew (.Compare a [op] [b] pos) (eBin o fa fb) :=
  PE.to (pe_cmpR ho ha hb hm) fun _ _ _ h => rd_bin ok h
theorem mt_cmp {op : CmpOp} {r : R2} {o : Val → Val → Sto → Res Val} (ho : OpR X (compareOp op) r) (ok : Op2 X.K T r o) (ha : PEm T X Ew a fa) (hb : PEm T X Ew b fb) (hm : behindInMarks op b = false) : PTm T X Ew (.Compare a [op] [b] pos) (tB (eBin o fa fb)) := by
  refine PT.to (pt_cmpR ho ha hb hm) fun σ H Q h => ?_
  refine rd_bin (Ew := Ew) (fa := fa) (fb := fb) ok ?_
  obtain ⟨W, ρ, S, s, er, h⟩ := h
  refine ⟨W, ρ, S, s, er, RP.bind h fun W1 S1 H1 v l1 s1 h1 x vx => ?_⟩
  cases vx with
  | bl k => exact ⟨k, rfl, h1.now s1⟩
  | _ => exact False.elim h1
theorem m_un {op : UnaryOp} {r : V → Hp → VK → Prop} {o : Val → Sto → Res Val} (ho : UnR X (unaryOp op) r) (ok : Op1 X.K T r o) (ha : PEm T X Ew a fa) : PEm T X Ew (.UnaryOp op a pos) (eUn o fa) := by
  refine PE.to (pe_un ho ha) fun σ H Q h => ?_
  obtain ⟨W, ρ, S, s, er, h⟩ := h
  exact ⟨W, ρ, S, s, er, RP.bind h fun W1 S1 H1 v l1 s1 h1 x vx => ok W1 S1 H1 v x Q _ s1 vx h1⟩
/-- a op b op' c -/
def eChain (o o' : Val → Val → Sto → Res Val) (a b c : EM) : EM := fun ρ S => (a ρ S).bind fun v S1 => (b ρ S1).bind fun w S2 => (o v w S2).bind fun k S3 => match k with
  | .bl true => (c ρ S3).bind fun z S4 => o' w z S4
  | .bl false => .ok (.bl false) S3
  | _ => .st
theorem m_chain {op op' : CmpOp} {r r' : R2} {o o' : Val → Val → Sto → Res Val} (ho : OpR X (compareOp op) r) (ho' : OpR X (compareOp op') r') (ok : Op2 X.K T r o) (ok' : Op2 X.K T r' o') (ha : PEm T X Ew a fa) (hb : PEm T X Ew b fb) (hc : PEm T X Ew c fc)
    (hm : lastMarks [op, op'] [b, c] = false := by with_unfolding_all rfl) : PEm T X Ew (.Compare a [op, op'] [b, c] pos) (eChain o o' fa fb fc) := by
  refine PE.to (pe_chain ho ho' ha hb hc hm) fun σ H Q h => ?_
  obtain ⟨W, ρ, S, s, er, h⟩ := h
  refine ⟨W, ρ, S, s, er, RP.bind h fun W1 S1 H1 v l1 s1 h1 x vx => ⟨W1, ρ, S1, s1, er.mono l1, RP.bind h1 fun W2 S2 H2 w l2 s2 h2 y vy => ?_⟩⟩
  refine ok W2 S2 H2 v w x y _ _ s2 (vx.mono l2) vy (RP.bind h2 fun W3 S3 H3 k l3 s3 h3 z vz => ?_)
  cases vz with
  | bl k =>
    refine ⟨k, rfl, ?_⟩
    cases k with
    | true =>
      rw [if_pos rfl]
      exact ⟨W3, ρ, S3, s3, (er.mono l1).mono (l2.trans l3), RP.bind h3 fun W4 S4 H4 z l4 s4 h4 z' vz' => ok' W4 S4 H4 w z y z' Q _ s4 (vy.mono (l3.trans l4)) vz' h4⟩
    | false =>
      rw [if_neg Bool.false_ne_true]
      exact h3.now s3 _ (.bl false)
  | _ => exact False.elim h3
theorem mt_of_chain {op op' : CmpOp} {r r' : R2} {o o' : Val → Val → Sto → Res Val} (ho : OpR X (compareOp op) r) (ho' : OpR X (compareOp op') r') (ok : Op2 X.K T r o) (ok' : Op2 X.K T r' o') (ha : PEm T X Ew a fa) (hb : PEm T X Ew b fb) (hc : PEm T X Ew c fc)
    (hm : lastMarks [op, op'] [b, c] = false := by with_unfolding_all rfl) : PTm T X Ew (.Compare a [op, op'] [b, c] pos) (tB (eChain o o' fa fb fc)) := by
  refine PT.to (pt_chain ho ho' ha hb hc hm) fun σ H Q h => ?_
  obtain ⟨W, ρ, S, s, er, h⟩ := h
  have h' : RP X.K T W (eChain o o' fa fb fc ρ S) (VP X.K T fun x H' => ∃ k, x = .bl k ∧ Q k H') (fun H' c o => Ew c o σ H') := RP.bind h fun W1 S1 H1 v l1 s1 h1 x vx => by
    cases vx with
    | bl k => exact ⟨k, rfl, h1.now s1⟩
    | _ => exact False.elim h1
  refine ⟨W, ρ, S, s, er, RP.bind h' fun W1 S1 H1 v l1 s1 h1 x vx => ⟨W1, ρ, S1, s1, er.mono l1, RP.bind h1 fun W2 S2 H2 w l2 s2 h2 y vy => ?_⟩⟩
  refine ok W2 S2 H2 v w x y _ _ s2 (vx.mono l2) vy (RP.bind h2 fun W3 S3 H3 k l3 s3 h3 z vz => ?_)
  cases vz with
  | bl k =>
    refine ⟨k, rfl, ?_⟩
    cases k with
    | true =>
      rw [if_pos rfl]
      exact ⟨W3, ρ, S3, s3, (er.mono l1).mono (l2.trans l3), RP.bind h3 fun W4 S4 H4 z l4 s4 h4 z' vz' => ok' W4 S4 H4 w z y z' _ _ s4 (vy.mono (l3.trans l4)) vz' h4⟩
    | false =>
      rw [if_neg Bool.false_ne_true]
      exact h3.now s3 _ (.bl false)
  | _ => exact False.elim h3

theorem ma_nil : PAm T X Ew [] aNil := PA.to pa_nil fun σ H Q ⟨W, ρ, S, s, er, h⟩ => h.now s _ .nil
theorem ma_cons (ha : PEm T X Ew e f) (hr : PAm T X Ew es fs) (hs : starEach (e :: es) X.env = (false, eval e X.env) :: starEach es X.env := by rfl) : PAm T X Ew (e :: es) (aCons f fs) := by
  refine PA.to (pa_cons ha hr hs) fun σ H Q h => ?_
  obtain ⟨W, ρ, S, s, er, h⟩ := h
  refine ⟨W, ρ, S, s, er, RP.bind h fun W1 S1 H1 v l1 s1 h1 x vx => ⟨W1, ρ, S1, s1, er.mono l1, RP.bind h1 fun W2 S2 H2 vs l2 s2 h2 xs vxs => ?_⟩⟩
  exact h2.now s2 _ (.cons (vx.mono l2) vxs)
theorem m_tup (h : PAm T X Ew es fs) {x1} : PEm T X Ew (.Tuple es x1 pos) (eTup fs) := by
  refine PE.to (pe_tup h) fun σ H Q h => ?_
  obtain ⟨W, ρ, S, s, er, h⟩ := h
  refine ⟨W, ρ, S, s, er, RP.bind h fun W1 S1 H1 vs l1 s1 h1 xs vxs => ?_⟩
  by_cases hz : vs.length ≤ sizeLine
  · rw [if_pos hz] at h1
    refine ⟨by rw [← vxs.length]; exact hz, fun p hp => ?_⟩
    have l : WLe W1 (W1.add p (.tup xs)) := .add (s1.free hp)
    exact h1 _ _ l (s1.add hp) _ (.tup (.inl (.inl upd_same)) (vxs.mono l))
  · rw [if_neg hz] at h1; exact False.elim h1
theorem mkL_ok {K : PySem.W.Frag} {T : Tbl} {W : Wd} {S : Sto} {H : Hp} {vs : List Val} {xs : List V} {p : Addr} {bx : Bool} {Q : VK} {PX : Hp → Value → Option Addr → Prop} (s : SR K T W S H) (r : VRs K T W vs xs) (hp : H p = none)
    (h : RP K T W (mkL bx vs S) (VP K T Q) PX) : Q (.ref p) (upd H p (.lst xs)) := by
  cases bx with
  | false =>
    have l : WLe W (W.add p (.lst xs)) := .add (s.free hp)
    exact h _ _ l (s.add hp) _ (.lst upd_same (r.mono l))
  | true =>
    have q := h _ _ .box (s.box (b := .lst vs) hp ⟨xs, upd_same, r.mono .box⟩) (.ref p)
    refine q ?_
    have z : VR K T (W.box p) (.loc W.n) (.ref ((W.box p).m W.n)) := .loc (Nat.lt_succ_self _)
    rw [Wd.box_at] at z
    rw [← s.nx]; exact z
theorem m_lst {bx : Bool} (h : PAm T X Ew es fs) : PEm T X Ew (.List es pos) (eLst bx fs) := by
  refine PE.to (pe_lst h) fun σ H Q h => ?_
  obtain ⟨W, ρ, S, s, er, h⟩ := h
  refine ⟨W, ρ, S, s, er, RP.bind h fun W1 S1 H1 vs l1 s1 h1 xs vxs => ?_⟩
  by_cases hz : vs.length ≤ sizeLine
  · rw [if_pos hz] at h1
    exact ⟨by rw [← vxs.length]; exact hz, fun p hp => mkL_ok s1 vxs hp h1⟩
  · rw [if_neg hz] at h1; exact False.elim h1
theorem m_if {t : BM} (ht : PTm T X Ew c t) (ha : PEm T X Ew a fa) (hb : PEm T X Ew b fb) : PEm T X Ew (.IfExp c a b pos) (eIf t fa fb) := by
  refine PE.to (pe_ifExp ht ha hb) fun σ H Q h => ?_
  obtain ⟨W, ρ, S, s, er, h⟩ := h
  refine ⟨W, ρ, S, s, er, RP.bind h fun W1 S1 H1 k l1 s1 h1 => ?_⟩
  cases k with
  | true => rw [if_pos rfl]; exact ⟨W1, ρ, S1, s1, er.mono l1, h1⟩
  | false => rw [if_neg Bool.false_ne_true]; exact ⟨W1, ρ, S1, s1, er.mono l1, h1⟩
theorem m_one {op : BoolOp} (h : PEm T X Ew a f) : PEm T X Ew (.BoolOp op [a] pos) f := pe_one h
theorem m_and {rest : List Expr} (ha : PEm T X Ew a fa) (hb : PEm T X Ew (.BoolOp .And (b :: rest) pos) fb) : PEm T X Ew (.BoolOp .And (a :: b :: rest) pos) (eAnd fa fb) := by
  refine PE.to (pe_and ha hb) fun σ H Q h => ?_
  obtain ⟨W, ρ, S, s, er, h⟩ := h
  refine ⟨W, ρ, S, s, er, RP.bind h fun W1 S1 H1 v l1 s1 h1 x vx => ?_⟩
  cases vx with
  | bl k =>
    refine ⟨k, rfl, ?_⟩
    cases k with
    | true => rw [if_pos rfl]; exact ⟨W1, ρ, S1, s1, er.mono l1, h1⟩
    | false => rw [if_neg Bool.false_ne_true]; exact h1.now s1 _ (.bl false)
  | _ => exact False.elim h1
theorem m_or {rest : List Expr} (ha : PEm T X Ew a fa) (hb : PEm T X Ew (.BoolOp .Or (b :: rest) pos) fb) : PEm T X Ew (.BoolOp .Or (a :: b :: rest) pos) (eOr fa fb) := by
  refine PE.to (pe_or ha hb) fun σ H Q h => ?_
  obtain ⟨W, ρ, S, s, er, h⟩ := h
  refine ⟨W, ρ, S, s, er, RP.bind h fun W1 S1 H1 v l1 s1 h1 x vx => ?_⟩
  cases vx with
  | bl k =>
    refine ⟨k, rfl, ?_⟩
    cases k with
    | true => rw [if_pos rfl]; exact h1.now s1 _ (.bl true)
    | false => rw [if_neg Bool.false_ne_true]; exact ⟨W1, ρ, S1, s1, er.mono l1, h1⟩
  | _ => exact False.elim h1
theorem m_not (ha : PEm T X Ew a fa) : PEm T X Ew (.UnaryOp .Not a pos) (eNot fa) := by
  refine PE.to (pe_not ha) fun σ H Q h => ?_
  obtain ⟨W, ρ, S, s, er, h⟩ := h
  refine ⟨W, ρ, S, s, er, RP.bind h fun W1 S1 H1 v l1 s1 h1 x vx => ?_⟩
  cases vx with
  | bl k => exact ⟨k, rfl, h1.now s1 _ (.bl _)⟩
  | _ => exact False.elim h1
/-! tests -/
variable {ta tb : BM}
theorem mt_val (h : PEm T X Ew e f) (he : ∀ whole, isTrue e X.env whole = (do let v ← whole; standAt e.pos; holding [v] (truthy v)) := by intro _; rfl) : PTm T X Ew e (tB f) := by
  refine PT.to (pt_val h he) fun σ H Q h => ?_
  obtain ⟨W, ρ, S, s, er, h⟩ := h
  refine ⟨W, ρ, S, s, er, RP.bind h fun W1 S1 H1 v l1 s1 h1 x vx => ?_⟩
  cases vx with
  | bl k => exact ⟨k, rfl, h1.now s1⟩
  | _ => exact False.elim h1
theorem mw_and1 (h : PTm T X Ew a ta) : PWm T X Ew (.BoolOp .And [a] pos) ta := pw_and1 h
theorem mw_or1 (h : PTm T X Ew a ta) : PWm T X Ew (.BoolOp .Or [a] pos) ta := pw_or1 h
theorem mw_and {rest : List Expr} (ha : PTm T X Ew a ta) (hb : PWm T X Ew (.BoolOp .And (b :: rest) pos) tb) : PWm T X Ew (.BoolOp .And (a :: b :: rest) pos) (tAndM ta tb) := by
  refine PW.to (pw_and ha hb) fun σ H Q h => ?_
  obtain ⟨W, ρ, S, s, er, h⟩ := h
  refine ⟨W, ρ, S, s, er, RP.bind h fun W1 S1 H1 k l1 s1 h1 => ?_⟩
  cases k with
  | true => rw [if_pos rfl]; exact ⟨W1, ρ, S1, s1, er.mono l1, h1⟩
  | false => rw [if_neg Bool.false_ne_true]; exact h1.now s1
theorem mw_or {rest : List Expr} (ha : PTm T X Ew a ta) (hb : PWm T X Ew (.BoolOp .Or (b :: rest) pos) tb) : PWm T X Ew (.BoolOp .Or (a :: b :: rest) pos) (tOrM ta tb) := by
  refine PW.to (pw_or ha hb) fun σ H Q h => ?_
  obtain ⟨W, ρ, S, s, er, h⟩ := h
  refine ⟨W, ρ, S, s, er, RP.bind h fun W1 S1 H1 k l1 s1 h1 => ?_⟩
  cases k with
  | true => rw [if_pos rfl]; exact h1.now s1
  | false => rw [if_neg Bool.false_ne_true]; exact ⟨W1, ρ, S1, s1, er.mono l1, h1⟩
theorem mt_not (h : PTm T X Ew a ta) : PTm T X Ew (.UnaryOp .Not a pos) (tNotM ta) := by
  refine PT.to (pt_not h) fun σ H Q h => ?_
  obtain ⟨W, ρ, S, s, er, h⟩ := h
  exact ⟨W, ρ, S, s, er, RP.bind h fun W1 S1 H1 k l1 s1 h1 => h1.now s1⟩
end
end PM

/-! PM, part c: statements, calls, attributes, loops -/
namespace PM
open PySem PySem.Spec L2

def Res.toS {α : Type} (r : Res α) (ρ : Ev) (g : α → Sto → SRes) : SRes := match r with
  | .ok a S => g a S
  | .ex c vs S => .ex c vs ρ S
  | .st => .st
section
variable {K : PySem.W.Frag} {T : Tbl} {Ew : XW} {W : Wd} {D D' : Ends} {σ : L2.St} {ρ : Ev}
theorem SPo.of {α : Type} {r : Res α} {g : α → Sto → SRes} {P : Wd → Sto → Hp → α → Prop} (er : ER K T W ρ σ) (h : SPo K T Ew W D (r.toS ρ g))
    (i : ∀ W' S' H' a, WLe W W' → SR K T W' S' H' → SPo K T Ew W' D (g a S') → P W' S' H' a) : RP K T W r P (fun H' c o => Ew c o σ H') := by
  cases r with
  | ok a S => exact fun W2 H2 l s => i W2 S H2 a l s (SPo.wle l h)
  | ex c vs S => exact fun W2 H2 cls od l s x => h W2 H2 σ cls od l s (er.mono l) x
  | st => exact h
/-- only the four ends matter -/
theorem SPo.ends {r : SRes} (h : SPo K T Ew W D r) (n : D.nx = D'.nx) (t : D.rt = D'.rt) (b : D.bk = D'.bk) (c : D.ct = D'.ct) : SPo K T Ew W D' r := by
  cases D; cases D'; cases n; cases t; cases b; cases c; exact h
end

/-! ### targets -/
inductive Tgt where
  | name (i : Nat)
  | tup (ts : List Tgt)
mutual
def Tgt.set : Tgt → Val → Ev → Option Ev
  | .name i, v, ρ => some (ρ.set i (some v))
  | .tup ts, .tup vs, ρ => Tgt.sets ts vs ρ
  | .tup _, _, _ => none
def Tgt.sets : List Tgt → List Val → Ev → Option Ev
  | [], [], ρ => some ρ
  | t :: ts, v :: vs, ρ => (t.set v ρ).bind fun ρ' => Tgt.sets ts vs ρ'
  | _, _, _ => none
end
mutual
def Tgt.g (K : PySem.W.Frag) : Tgt → TG
  | .name i => gName i
  | .tup ts => gTup K ts.length (Tgt.gs K ts)
def Tgt.gs (K : PySem.W.Frag) : List Tgt → TGs
  | [] => gNil
  | t :: ts => gCons (t.g K) (Tgt.gs K ts)
end
mutual
def Tgt.slots : Tgt → List Nat
  | .name i => [i]
  | .tup ts => Tgt.slotss ts
def Tgt.slotss : List Tgt → List Nat
  | [] => []
  | t :: ts => t.slots ++ Tgt.slotss ts
end
theorem wipe_get (σ : L2.St) : ∀ (ws : List Nat) (j : Nat), (L2.wipe σ ws)[j]? = if j ∈ ws ∧ j < σ.length then some none else σ[j]?
  | [], j => by simp [L2.wipe]
  | w :: ws, j => by
    unfold L2.wipe
    by_cases e : w = j
    · subst e
      by_cases hl : w < σ.length
      · rw [List.getElem?_set_self (by rw [wipe_length]; exact hl), if_pos ⟨List.mem_cons_self, hl⟩]
      · rw [List.getElem?_eq_none (by rw [List.length_set, wipe_length]; omega), if_neg (fun z => hl z.2), List.getElem?_eq_none (by omega)]
    · rw [List.getElem?_set_ne e, wipe_get σ ws j]
      have : (j ∈ w :: ws) ↔ j ∈ ws := by
        rw [List.mem_cons]
        exact ⟨fun z => z.resolve_left fun q => e q.symm, .inr⟩
      by_cases hj : j ∈ ws
      · simp [hj]
      · have h2 : ¬ j = w := fun q => e q.symm
        simp [hj, h2]
theorem wipe_set {σ : L2.St} {i : Nat} {x : Option V} {ws : List Nat} (h : i ∈ ws) : L2.wipe (σ.set i x) ws = L2.wipe σ ws := by
  apply List.ext_getElem?
  intro j
  rw [wipe_get, wipe_get, List.length_set]
  by_cases e : i = j
  · subst e
    by_cases hl : i < σ.length
    · rw [if_pos ⟨h, hl⟩, if_pos ⟨h, hl⟩]
    · rw [if_neg (fun z => hl z.2), if_neg (fun z => hl z.2), List.getElem?_eq_none (by rw [List.length_set]; omega), List.getElem?_eq_none (by omega)]
  · rw [List.getElem?_set_ne e]
section
variable {K : PySem.W.Frag} {T : Tbl} {W : Wd} {H : Hp} {ws : List Nat}
mutual
theorem Tgt.ok (sub : ∀ a o, W.I a = some o → H a = some o) : ∀ (t : Tgt) {v : Val} {x : V} {ρ ρ' : Ev} {σ : L2.St} {R : L2.St → Hp → Prop}, VR K T W v x → ER K T W ρ σ → t.set v ρ = some ρ' →
    (∀ σ', ER K T W ρ' σ' → ((∀ i ∈ t.slots, i ∈ ws) → L2.wipe σ' ws = L2.wipe σ ws) → R σ' H) → t.g K x σ H R
  | .name i, v, x, ρ, ρ', σ, R, vx, er, e, k => by
    unfold Tgt.set at e
    cases e
    unfold Tgt.g
    exact k _ (er.set vx) fun z => wipe_set (z i (by simp [Tgt.slots]))
  | .tup ts, v, x, ρ, ρ', σ, R, vx, er, e, k => by
    cases vx with
    | tup h r =>
      unfold Tgt.set at e
      unfold Tgt.g
      have hl := Tgt.sets_len ts e
      exact ⟨_, _, rfl, SqT_mono sub h, by rw [← r.length, hl], Tgt.oks sub ts r er e fun σ' e' w => k σ' e' fun z => w (by simpa [Tgt.slots] using z)⟩
    | _ => simp [Tgt.set] at e
theorem Tgt.oks (sub : ∀ a o, W.I a = some o → H a = some o) : ∀ (ts : List Tgt) {vs : List Val} {xs : List V} {ρ ρ' : Ev} {σ : L2.St} {R : L2.St → Hp → Prop}, VRs K T W vs xs → ER K T W ρ σ → Tgt.sets ts vs ρ = some ρ' →
    (∀ σ', ER K T W ρ' σ' → ((∀ i ∈ Tgt.slotss ts, i ∈ ws) → L2.wipe σ' ws = L2.wipe σ ws) → R σ' H) → Tgt.gs K ts xs σ H R
  | [], _, _, ρ, ρ', σ, R, .nil, er, e, k => by
    unfold Tgt.sets at e
    cases e
    unfold Tgt.gs
    exact ⟨rfl, k σ er fun _ => rfl⟩
  | [], _, _, ρ, ρ', σ, R, .cons _ _, er, e, k => by simp [Tgt.sets] at e
  | t :: ts, _, _, ρ, ρ', σ, R, .nil, er, e, k => by simp [Tgt.sets] at e
  | t :: ts, _, _, ρ, ρ', σ, R, .cons (v := v) (vs := vs) vx r, er, e, k => by
    unfold Tgt.sets at e
    cases q : t.set v ρ with
    | none => rw [q] at e; cases e
    | some ρ1 =>
      rw [q] at e
      unfold Tgt.gs
      refine ⟨_, _, rfl, Tgt.ok sub t vx er q fun σ1 e1 w1 => Tgt.oks sub ts r e1 e fun σ2 e2 w2 => k σ2 e2 fun z => ?_⟩
      rw [w2 fun i hi => z i (by unfold Tgt.slotss; exact List.mem_append_right _ hi), w1 fun i hi => z i (by unfold Tgt.slotss; exact List.mem_append_left _ hi)]
theorem Tgt.sets_len : ∀ (ts : List Tgt) {vs : List Val} {ρ ρ' : Ev}, Tgt.sets ts vs ρ = some ρ' → vs.length = ts.length
  | [], [], _, _, _ => rfl
  | [], _ :: _, _, _, e => by simp [Tgt.sets] at e
  | _ :: _, [], _, _, e => by simp [Tgt.sets] at e
  | t :: ts, v :: vs, ρ, ρ', e => by
    unfold Tgt.sets at e
    cases q : t.set v ρ with
    | none => rw [q] at e; cases e
    | some ρ1 =>
      rw [q] at e
      exact congrArg (· + 1) (Tgt.sets_len ts e)
end
end

/-! ### statements -/
def sNext : SM := fun ρ S => .nx ρ S
def sNever : SM := fun _ _ => .st
def sSeq (s t : SM) : SM := fun ρ S => match s ρ S with
  | .nx ρ' S' => t ρ' S'
  | r => r
def sSet (i : Nat) (e : EM) : SM := fun ρ S => (e ρ S).toS ρ fun v S1 => .nx (ρ.set i (some v)) S1
def sAsg (t : Tgt) (e : EM) : SM := fun ρ S => (e ρ S).toS ρ fun v S1 => match t.set v ρ with
  | some ρ' => .nx ρ' S1
  | none => .st
def sPar (i j : Nat) (a : AM) : SM := fun ρ S => (a ρ S).toS ρ fun vs S1 => match vs with
  | [v, w] => .nx ((ρ.set i (some v)).set j (some w)) S1
  | _ => .st
def sDrop (e : EM) : SM := fun ρ S => (e ρ S).toS ρ fun _ S1 => .nx ρ S1
def sRet (e : EM) : SM := fun ρ S => (e ρ S).toS ρ fun v S1 => .rt v S1
def sRetN : SM := fun _ S => .rt .non S
def sBreak : SM := fun ρ S => .bk ρ S
def sCont : SM := fun ρ S => .ct ρ S
def sIf (t : BM) (a b : SM) : SM := fun ρ S => (t ρ S).toS ρ fun c S1 => if c then a ρ S1 else b ρ S1
def sAug (i : Nat) (op : Val → Val → Sto → Res Val) (e : EM) : SM := fun ρ S => match ρ[i]? with
  | some (some v) => (e ρ S).toS ρ fun w S1 => (op v w S1).toS ρ fun z S2 => .nx (ρ.set i (some z)) S2
  | _ => .st
def whileM : Nat → BM → SM → SM
  | 0, _, _ => fun _ _ => .st
  | n + 1, c, b => fun ρ S => (c ρ S).toS ρ fun k S1 => if k then (match b ρ S1 with
      | .nx ρ' S' => whileM n c b ρ' S'
      | .ct ρ' S' => whileM n c b ρ' S'
      | .bk ρ' S' => .nx ρ' S'
      | r => r) else .nx ρ S1

/-- what a loop walks: the items; what must hold of the store at each turn -/
structure ItV where
  items : List Val
  src : Sto → Prop
abbrev IM := Ev → Sto → Res ItV
open Classical in
noncomputable def forGo (src : Sto → Prop) (tg : Tgt) (b : SM) : List Val → SM
  | [] => fun ρ S => if src S then .nx ρ S else .st
  | v :: vs => fun ρ S => if src S then (match tg.set v ρ with
      | some ρ1 => (match b ρ1 S with
        | .nx ρ' S' => forGo src tg b vs ρ' S'
        | .ct ρ' S' => forGo src tg b vs ρ' S'
        | .bk ρ' S' => .nx ρ' S'
        | r => r)
      | none => .st) else .st
noncomputable def sFor (it : IM) (tg : Tgt) (b : SM) : SM := fun ρ S => (it ρ S).toS ρ fun iv S1 => forGo iv.src tg b iv.items ρ S1
def ItOk (K : PySem.W.Frag) (T : Tbl) (W : Wd) (iv : ItV) (J : It) : Prop := ∀ W' S' H', WLe W W' → SR K T W' S' H' → iv.src S' → ∀ i,
  (∀ v, iv.items[i]? = some v → J.go i H' ∧ ∀ x H'', J.yld i H' x H'' → ∃ W'', WLe W' W'' ∧ SR K T W'' S' H'' ∧ VR K T W'' v x) ∧ (iv.items[i]? = none → J.stop i H')
theorem ItOk.mono {K : PySem.W.Frag} {T : Tbl} {W W' : Wd} {iv : ItV} {J : It} (l : WLe W W') (h : ItOk K T W iv J) : ItOk K T W' iv J := fun W2 S H l2 => h W2 S H (l.trans l2)
def rdI (K : PySem.W.Frag) (T : Tbl) (Ew : XW) (f : IM) : TI := fun σ H R => ∃ W ρ S, SR K T W S H ∧ ER K T W ρ σ ∧ RP K T W (f ρ S) (fun W' _ H' iv => ∀ J, ItOk K T W' iv J → R J H') (fun H' c o => Ew c o σ H')
abbrev PIm (T : Tbl) (X : Cx) (Ew : XW) (tg e : Expr) (f : IM) : Prop := PI X tg e (rdI X.K T Ew f)
theorem PI.to {X : Cx} {tg e : Expr} {t t' : TI} (h : PI X tg e t) (i : ∀ σ H R, t' σ H R → t σ H R) : PI X tg e t' := ⟨fun pins s σ H R I q => h.run pins s σ H R I (i _ _ _ q)⟩
/-- a target: its names -/
abbrev PGm (X : Cx) (e : Expr) (t : Tgt) : Prop := PG X e (t.g X.K)
abbrev PGsm (X : Cx) (e : List Expr) (t : List Tgt) : Prop := PGs X e (Tgt.gs X.K t)

section
variable {T : Tbl} {X : Cx} {Ew : XW} {e c a b : Expr} {es : List Expr} {f fa fb : EM} {fs : AM} {t : BM} {s u : SM} {st : Stmt} {sts rest body orelse : List Stmt} {pos : Pos}
theorem g_name {i : Nat} {x : Str} (hN : X.N.Nodup) (hi : X.N[i]? = some x) (hx : Loc X.env.scope x) (hf : X.fn x = true ∨ X.env.scope.names.lookup x = some .local := by first | exact .inl rfl | exact .inr rfl | assumption) : PGm X (.Name x pos) (.name i) := by
  show PG X (.Name x pos) (Tgt.g X.K (.name i))
  unfold Tgt.g
  exact pg_name hN hi hx hf
theorem gs_nil : PGsm X [] [] := by
  show PGs X [] (Tgt.gs X.K [])
  unfold Tgt.gs
  exact pgs_nil
theorem gs_cons {tg : Tgt} {ts : List Tgt} (h1 : PGm X e tg) (h2 : PGsm X es ts) (hs : (assignEach (e :: es) X.env).map (·.2) = assign e X.env :: (assignEach es X.env).map (·.2) := by rfl) : PGsm X (e :: es) (tg :: ts) := by
  show PGs X (e :: es) (Tgt.gs X.K (tg :: ts))
  unfold Tgt.gs
  exact pgs_cons h1 h2 hs
theorem g_tup {ts : List Tgt} {k : Nat} (hc : X.calm = true) (h : PGsm X es ts) (hn : (assignEach es X.env).length = ts.length := by rfl) (hst : (assignEach es X.env).findIdx? (·.1) = none := by rfl) : PGm X (.Tuple es k pos) (.tup ts) := by
  show PG X _ (Tgt.g X.K (.tup ts))
  unfold Tgt.g
  exact pg_tup hc h hn hst
theorem mb_nil : PBm T X Ew [] sNext := PSs.to pss_nil fun D σ H ⟨W, ρ, S, s, er, h⟩ => h W H σ (.refl W) s er
theorem mb_one (h : PSm T X Ew st s) : PBm T X Ew [st] s := pss_one h
theorem mb_cons (h1 : PSm T X Ew st s) (h2 : PBm T X Ew rest u) : PBm T X Ew (st :: rest) (sSeq s u) := by
  refine PSs.to (pss_cons h1 h2) fun D σ H ⟨W, ρ, S, sr, er, h⟩ => ⟨W, ρ, S, sr, er, ?_⟩
  unfold sSeq at h
  cases q : s ρ S with
  | nx ρ' S' =>
    rw [q] at h
    exact fun W2 H2 σ2 l s2 e2 => ⟨W2, ρ', S', s2, e2, SPo.wle l h⟩
  | rt v S' => rw [q] at h; exact h
  | bk v S' => rw [q] at h; exact h
  | ct v S' => rw [q] at h; exact h
  | ex c vs v S' => rw [q] at h; exact h
  | st => rw [q] at h; exact h
theorem ms_pass : PSm T X Ew (.Pass pos) sNext := PS.to ps_pass fun D σ H ⟨W, ρ, S, s, er, h⟩ => h W H σ (.refl W) s er
theorem ms_never : PSm T X Ew st sNever := PS.to ps_never fun D σ H ⟨W, ρ, S, s, er, h⟩ => h
theorem mb_never : PBm T X Ew sts sNever := PSs.to pss_never fun D σ H ⟨W, ρ, S, s, er, h⟩ => h
theorem ms_break : PSm T X Ew (.Break pos) sBreak := PS.to ps_break fun D σ H ⟨W, ρ, S, s, er, h⟩ => h W H σ (.refl W) s er
theorem ms_cont : PSm T X Ew (.Continue pos) sCont := PS.to ps_continue fun D σ H ⟨W, ρ, S, s, er, h⟩ => h W H σ (.refl W) s er
theorem ms_set {i : Nat} {x : Str} {pos' : Pos} (hN : X.N.Nodup) (hi : X.N[i]? = some x) (hx : Loc X.env.scope x) (he : PEm T X Ew e f) (hs : swapsWith e (some (.Name x pos')) pos.line X.env = pure false := by rfl)
    (hf : X.fn x = true ∨ X.env.scope.names.lookup x = some .local := by first | exact .inl rfl | exact .inr rfl | assumption) : PSm T X Ew (.Assign [.Name x pos'] e pos) (sSet i f) := by
  refine PS.to (ps_set hN hi hx he hs hf) fun D σ H ⟨W, ρ, S, sr, er, h⟩ => ⟨W, ρ, S, sr, er, SPo.of er h fun W1 S1 H1 v l s1 h1 x vx => ?_⟩
  exact h1 W1 H1 _ (.refl _) s1 ((er.mono l).set vx)
theorem ms_asg {tg : Expr} {g : Tgt} (he : PEm T X Ew e f) (hg : PGm X tg g) (hs : swapsWithSole [tg] e pos.line X.env = pure false := by rfl) (hw : swappedStores [tg] e X.env = pure none := by rfl)
    (h1 : (assignEach [tg] X.env).map (·.2) = [assign tg X.env] := by rfl) : PSm T X Ew (.Assign [tg] e pos) (sAsg g f) := by
  refine PS.to (ps_asg he hg hs hw h1) fun D σ H ⟨W, ρ, S, sr, er, h⟩ => ⟨W, ρ, S, sr, er, SPo.of er h fun W1 S1 H1 v l s1 h1 x vx => ?_⟩
  cases q : g.set v ρ with
  | none => rw [q] at h1; exact False.elim h1
  | some ρ' =>
    rw [q] at h1
    exact Tgt.ok (ws := []) s1.sub g vx (er.mono l) q fun σ' e' _ => h1 W1 H1 σ' (.refl _) s1 e'
theorem ms_par {i j : Nat} {x y : Str} {px py pt : Pos} {kt k2 pt2} (hc : X.calm = true) (hN : X.N.Nodup) (hi : X.N[i]? = some x) (hj : X.N[j]? = some y) (hij : i ≠ j)
    (hx : X.env.scope.names.lookup x = some .local) (hy : X.env.scope.names.lookup y = some .local) (ha : PAm T X Ew [a, b] fs)
    (hw : swappedStores [.Tuple [.Name x px, .Name y py] kt pt] (.Tuple [a, b] k2 pt2) X.env = pure (some [x, y]) := by rfl)
    (hs : swapsWithSole [.Tuple [.Name x px, .Name y py] kt pt] (.Tuple [a, b] k2 pt2) pos.line X.env = pure false := by rfl) :
    PSm T X Ew (.Assign [.Tuple [.Name x px, .Name y py] kt pt] (.Tuple [a, b] k2 pt2) pos) (sPar i j fs) := by
  refine PS.to (ps_par hc hN hi hj hij hx hy ha hw hs) fun D σ H ⟨W, ρ, S, sr, er, h⟩ => ⟨W, ρ, S, sr, er, SPo.of er h fun W1 S1 H1 vs l s1 h1 xs vxs => ?_⟩
  cases vxs with
  | nil => exact False.elim h1
  | cons v1 r1 =>
    cases r1 with
    | nil => exact False.elim h1
    | cons v2 r2 =>
      cases r2 with
      | nil => exact ⟨_, _, rfl, h1 W1 H1 _ (.refl _) s1 (((er.mono l).set v1).set v2)⟩
      | cons _ _ => exact False.elim h1
theorem ms_expr (he : PEm T X Ew e f) (hs : swapsWith e none pos.line X.env = pure false := by rfl) : PSm T X Ew (.Expr e pos) (sDrop f) :=
  PS.to (ps_expr he hs) fun D σ H ⟨W, ρ, S, sr, er, h⟩ => ⟨W, ρ, S, sr, er, SPo.of er h fun W1 S1 H1 v l s1 h1 x vx => h1 W1 H1 _ (.refl _) s1 (er.mono l)⟩
theorem ms_ret (he : PEm T X Ew e f) : PSm T X Ew (.Return (some e) pos) (sRet f) :=
  PS.to (ps_ret he) fun D σ H ⟨W, ρ, S, sr, er, h⟩ => ⟨W, ρ, S, sr, er, SPo.of er h fun W1 S1 H1 v l s1 h1 x vx => h1 W1 H1 _ (.refl _) s1 vx⟩
theorem ms_retN : PSm T X Ew (.Return none pos) sRetN := PS.to ps_retN fun D σ H ⟨W, ρ, S, s, er, h⟩ => h W H _ (.refl W) s .non
theorem ms_if {A B : List Stmt} (ht : PTm T X Ew c t) (ha : PBm T X Ew A s) (hb : PBm T X Ew B u) : PSm T X Ew (.If c A B pos) (sIf t s u) := by
  refine PS.to (ps_if ht ha hb) fun D σ H ⟨W, ρ, S, sr, er, h⟩ => ⟨W, ρ, S, sr, er, SPo.of er h fun W1 S1 H1 k l s1 h1 => ?_⟩
  cases k with
  | true => rw [if_pos rfl]; exact ⟨W1, ρ, S1, s1, er.mono l, h1⟩
  | false => rw [if_neg Bool.false_ne_true]; exact ⟨W1, ρ, S1, s1, er.mono l, h1⟩
theorem ms_aug {i : Nat} {x : Str} {op : Operator} {o : Val → Val → Sto → Res Val} {r : TIp} {pos' : Pos} (hN : X.N.Nodup) (hi : X.N[i]? = some x) (hx : Loc X.env.scope x) (he : PEm T X Ew e f) (ho : PIp X op r) (ok : Op2 X.K T r o)
    (hf : X.fn x = true ∨ X.env.scope.names.lookup x = some .local := by first | exact .inl rfl | exact .inr rfl | assumption) : PSm T X Ew (.AugAssign (.Name x pos') op e pos) (sAug i o f) := by
  refine PS.to (ps_aug hN hi hx he ho hf) fun D σ H ⟨W, ρ, S, sr, er, h⟩ => ?_
  unfold sAug at h
  cases q : ρ[i]? with
  | none => rw [q] at h; exact False.elim h
  | some z =>
    cases z with
    | none => rw [q] at h; exact False.elim h
    | some v =>
      rw [q] at h
      obtain ⟨y, hy, vy⟩ := er.get i v q
      refine ⟨y, hy, W, ρ, S, sr, er, SPo.of er h fun W1 S1 H1 w l s1 h1 x vx => ?_⟩
      refine ok W1 S1 H1 v w y x _ (fun H' c o => Ew c o σ H') s1 (vy.mono l) vx (SPo.of (er.mono l) h1 fun W2 S2 H2 z l2 s2 h2 xz vz => ?_)
      exact h2 W2 H2 _ (.refl _) s2 (((er.mono l).mono l2).set vz)
theorem ms_while (n : Nat) (hp : PassesOwn (model X.prog X.w) X.A X.env X.xe) (hc : PTm T X Ew c t) (hb : PBm T X Ew body s) : PSm T X Ew (.While c body [] pos) (whileM n t s) := by
  refine PS.to (ps_while hp hc hb) fun D σ H ⟨W, ρ, S, sr, er, h⟩ => ?_
  refine ⟨fun m σ H => ∃ W ρ S, SR X.K T W S H ∧ ER X.K T W ρ σ ∧ SPo X.K T Ew W D (whileM m t s ρ S), ⟨n, W, ρ, S, sr, er, h⟩, fun m σ H hW => ?_⟩
  obtain ⟨W, ρ, S, sr, er, h⟩ := hW
  cases m with
  | zero => exact False.elim h
  | succ m =>
    unfold whileM at h
    refine ⟨W, ρ, S, sr, er, SPo.of er h fun W1 S1 H1 k l s1 h1 => ?_⟩
    cases k with
    | false => rw [if_neg Bool.false_ne_true]; exact h1 W1 H1 σ (.refl _) s1 (er.mono l)
    | true =>
      rw [if_pos rfl]
      rw [if_pos rfl] at h1
      refine ⟨_, fun σ' H' z => ⟨m, Nat.lt_succ_self m, z⟩, W1, ρ, S1, s1, er.mono l, ?_⟩
      cases q : s ρ S1 with
      | nx ρ' S' => rw [q] at h1; exact fun W2 H2 σ2 l2 s2 e2 => ⟨W2, ρ', S', s2, e2, SPo.wle l2 h1⟩
      | ct ρ' S' => rw [q] at h1; exact fun W2 H2 σ2 l2 s2 e2 => ⟨W2, ρ', S', s2, e2, SPo.wle l2 h1⟩
      | bk ρ' S' => rw [q] at h1; exact h1
      | rt v S' => rw [q] at h1; exact h1
      | ex c vs ρ' S' => rw [q] at h1; exact h1
      | st => rw [q] at h1; exact h1
theorem ms_for {tgE iter : Expr} {it : IM} {g : Tgt} (hp : PassesOwn (model X.prog X.w) X.A X.env X.xe) (hc : X.calm = true) (hi : PIm T X Ew tgE iter it) (hg : PGm X tgE g) (hb : PBm T X Ew body s)
    (hs : ∀ x, foldedSetIterable iter X.env x = pure x := by intro _; rfl) : PSm T X Ew (.For tgE iter body [] pos) (sFor it g s) := by
  refine PS.to (ps_for hp hc hi hg hb hs) fun D σ H ⟨W, ρ, S, sr, er, h⟩ => ⟨W, ρ, S, sr, er, SPo.of er h fun W1 S1 H1 iv l s1 h1 J hJ => ?_⟩
  refine ⟨fun i m σ H => ∃ W ρ S rest, iv.items.drop i = rest ∧ m = rest.length ∧ WLe W1 W ∧ SR X.K T W S H ∧ ER X.K T W ρ σ ∧ SPo X.K T Ew W D (forGo iv.src g s rest ρ S),
    ⟨_, W1, ρ, S1, iv.items, rfl, rfl, .refl _, s1, er.mono l, h1⟩, fun i m σ H hW => ?_⟩
  obtain ⟨W, ρ, S, rest, hd, rfl, lw, sr, er, h⟩ := hW
  cases rest with
  | nil =>
    unfold forGo at h
    by_cases hsrc : iv.src S
    · rw [if_pos hsrc] at h
      have hn : iv.items[i]? = none := List.getElem?_eq_none (by simpa using hd)
      exact .inl ⟨(hJ W S H lw sr hsrc i).2 hn, h W H σ (.refl _) sr er⟩
    · rw [if_neg hsrc] at h; exact False.elim h
  | cons v vs =>
    unfold forGo at h
    by_cases hsrc : iv.src S
    · rw [if_pos hsrc] at h
      have hv : iv.items[i]? = some v := by
        have := congrArg (·[0]?) hd
        simpa using this
      have hd' : iv.items.drop (i + 1) = vs := by
        have := congrArg List.tail hd
        simpa using this
      obtain ⟨go, yl⟩ := (hJ W S H lw sr hsrc i).1 v hv
      refine .inr ⟨go, _, fun σ' H' z => ⟨vs.length, Nat.lt_succ_self _, z⟩, fun x H' y => ?_⟩
      obtain ⟨W2, l2, s2, vx⟩ := yl x H' y
      cases q : g.set v ρ with
      | none => rw [q] at h; exact False.elim h
      | some ρ1 =>
        rw [q] at h
        refine Tgt.ok (ws := []) s2.sub g vx (er.mono l2) q fun σ' e' _ => ⟨W2, ρ1, S, s2, e', ?_⟩
        have h' := SPo.wle l2 h
        cases q2 : s ρ1 S with
        | nx ρ' S' => simp only [q2] at h'; exact fun W3 H3 σ3 l3 s3 e3 => ⟨W3, ρ', S', vs, hd', rfl, (lw.trans l2).trans l3, s3, e3, SPo.wle l3 h'⟩
        | ct ρ' S' => simp only [q2] at h'; exact fun W3 H3 σ3 l3 s3 e3 => ⟨W3, ρ', S', vs, hd', rfl, (lw.trans l2).trans l3, s3, e3, SPo.wle l3 h'⟩
        | bk ρ' S' => simp only [q2] at h'; exact h'
        | rt v S' => simp only [q2] at h'; exact h'
        | ex c vs ρ' S' => simp only [q2] at h'; exact h'
        | st => simp only [q2] at h'; exact h'
    · rw [if_neg hsrc] at h; exact False.elim h
end
end PM

/-! PM, part d: the operators and built-ins over data -/
namespace PM
open PySem PySem.Spec L2

/-! ### looking into a value -/
def lstOf (S : Sto) : Val → Option (List Val)
  | .lst xs => some xs
  | .fz xs => some xs
  | .loc k => match S.objs k with
    | some (.lst xs) => some xs
    | _ => none
  | _ => none
/-- a list that is not the script -/
def mlstOf (S : Sto) : Val → Option (List Val)
  | .lst xs => some xs
  | .loc k => match S.objs k with
    | some (.lst xs) => some xs
    | _ => none
  | _ => none
def insOf (S : Sto) : Val → Option (Nat × List Val)
  | .ins c vs => some (c, vs)
  | .loc k => match S.objs k with
    | some (.ins c vs) => some (c, vs)
    | _ => none
  | _ => none
section
variable {K : PySem.W.Frag} {T : Tbl} {W : Wd} {S : Sto} {H : Hp} {v : Val} {x : V}
theorem locLst (s : SR K T W S H) {k : Nat} {vs : List Val} (e : S.objs k = some (.lst vs)) : ∃ xs, H (W.m k) = some (.lst xs) ∧ VRs K T W vs xs := s.at_ k _ e
theorem lstOf_ok (s : SR K T W S H) (r : VR K T W v x) {vs : List Val} (e : lstOf S v = some vs) : ∃ a xs, x = .ref a ∧ SqL K H a xs ∧ VRs K T W vs xs := by
  cases r with
  | lst h r => cases e; exact ⟨_, _, rfl, .inl (.inl (s.sub _ _ h)), r⟩
  | fz h r => cases e; exact ⟨_, _, rfl, SqL_mono s.sub h, r⟩
  | @loc k h =>
    unfold lstOf at e
    cases q : S.objs k with
    | none => simp only [q] at e; cases e
    | some o =>
      cases o with
      | lst ys =>
        simp only [q] at e; cases e
        obtain ⟨xs, h1, h2⟩ := locLst s q
        exact ⟨_, _, rfl, .inl (.inl h1), h2⟩
      | dk _ _ _ => simp only [q] at e; cases e
      | dt _ _ _ => simp only [q] at e; cases e
      | ins _ _ => simp only [q] at e; cases e
  | _ => cases e
theorem mlstOf_ok (s : SR K T W S H) (r : VR K T W v x) {vs : List Val} (e : mlstOf S v = some vs) : ∃ a xs, x = .ref a ∧ H a = some (.lst xs) ∧ VRs K T W vs xs := by
  cases r with
  | lst h r => cases e; exact ⟨_, _, rfl, s.sub _ _ h, r⟩
  | @loc k h =>
    unfold mlstOf at e
    cases q : S.objs k with
    | none => simp only [q] at e; cases e
    | some o =>
      cases o with
      | lst ys =>
        simp only [q] at e; cases e
        obtain ⟨xs, h1, h2⟩ := locLst s q
        exact ⟨_, _, rfl, h1, h2⟩
      | dk _ _ _ => simp only [q] at e; cases e
      | dt _ _ _ => simp only [q] at e; cases e
      | ins _ _ => simp only [q] at e; cases e
  | _ => cases e
theorem insOf_ok (s : SR K T W S H) (r : VR K T W v x) {c : Nat} {vs : List Val} (e : insOf S v = some (c, vs)) :
    ∃ a C dx xs, x = .ref a ∧ T.cl c = some C ∧ xs.length ≤ (T.fl c).length ∧ H a = some (.ins C dx ((T.fl c).zip xs)) ∧ VRs K T W vs xs := by
  cases r with
  | ins h1 h2 h3 h4 => cases e; exact ⟨_, _, _, _, rfl, h1, h2, s.sub _ _ h3, h4⟩
  | @loc k h =>
    unfold insOf at e
    cases q : S.objs k with
    | none => simp only [q] at e; cases e
    | some o =>
      cases o with
      | ins c' vs' =>
        simp only [q] at e; cases e
        obtain ⟨C, dx, xs, h1, h2, h3, h4⟩ := s.at_ k _ q
        exact ⟨_, _, _, _, rfl, h1, h2, h3, h4⟩
      | dk _ _ _ => simp only [q] at e; cases e
      | dt _ _ _ => simp only [q] at e; cases e
      | lst _ => simp only [q] at e; cases e
  | _ => cases e
theorem tup_ok (s : SR K T W S H) {vs : List Val} (r : VR K T W (.tup vs) x) : ∃ a xs, x = .ref a ∧ SqT K H a xs ∧ VRs K T W vs xs := by
  cases r with
  | tup h r => exact ⟨_, _, rfl, SqT_mono s.sub h, r⟩
end

/-! ### data -/
mutual
def Val.dat : Val → Option PyData
  | .non => some .none
  | .bl b => some (.bool b)
  | .int i => some (.int i)
  | .str x => some (.str x)
  | .tup xs => (Val.dats xs).map .tuple
  | .lst xs => (Val.dats xs).map .list
  | .fz xs => (Val.dats xs).map .list
  | _ => none
def Val.dats : List Val → Option (List PyData)
  | [] => some []
  | v :: vs => match v.dat, Val.dats vs with
    | some d, some ds => some (d :: ds)
    | _, _ => none
end
/-- a list of the store counts as its items -/
def datS (S : Sto) : Val → Option PyData
  | .loc k => match S.objs k with
    | some (.lst xs) => (Val.dats xs).map .list
    | _ => none
  | v => v.dat
section
variable {K : PySem.W.Frag} {T : Tbl} {W : Wd} {S : Sto} {H : Hp}
mutual
theorem Val.dat_ok (sub : ∀ a o, W.I a = some o → H a = some o) : ∀ {v : Val} {x : V} {d : PyData}, VR K T W v x → v.dat = some d → Dp K H x d
  | _, _, d, .non, e => by unfold Val.dat at e; cases e; exact .non
  | _, _, d, .bl b, e => by unfold Val.dat at e; cases e; exact .bl b
  | _, _, d, .int b, e => by unfold Val.dat at e; cases e; exact .int b
  | _, _, d, .str b, e => by unfold Val.dat at e; cases e; exact .str b
  | _, _, d, .ty b, e => by unfold Val.dat at e; cases e
  | _, _, d, .tup (vs := vs) h r, e => by
    unfold Val.dat at e
    cases q : Val.dats vs with
    | none => rw [q] at e; cases e
    | some ds => rw [q] at e; cases e; exact .tup (SqT_mono sub h) (Val.dats_ok sub r q)
  | _, _, d, .lst (vs := vs) h r, e => by
    unfold Val.dat at e
    cases q : Val.dats vs with
    | none => rw [q] at e; cases e
    | some ds => rw [q] at e; cases e; exact .lst (.inl (.inl (sub _ _ h))) (Val.dats_ok sub r q)
  | _, _, d, .fz (vs := vs) h r, e => by
    unfold Val.dat at e
    cases q : Val.dats vs with
    | none => rw [q] at e; cases e
    | some ds => rw [q] at e; cases e; exact .lst (SqL_mono sub h) (Val.dats_ok sub r q)
  | _, _, d, .dk _ _ _, e => by unfold Val.dat at e; cases e
  | _, _, d, .dt _ _ _, e => by unfold Val.dat at e; cases e
  | _, _, d, .ins _ _ _ _, e => by unfold Val.dat at e; cases e
  | _, _, d, .loc _, e => by unfold Val.dat at e; cases e
  | _, _, d, .cls _, e => by unfold Val.dat at e; cases e
  | _, _, d, .err0 _ _ _, e => by unfold Val.dat at e; cases e
  | _, _, d, .errd _ _ _ _ _, e => by unfold Val.dat at e; cases e
theorem Val.dats_ok (sub : ∀ a o, W.I a = some o → H a = some o) : ∀ {vs : List Val} {xs : List V} {ds : List PyData}, VRs K T W vs xs → Val.dats vs = some ds → DpAll K H xs ds
  | _, _, ds, .nil, e => by unfold Val.dats at e; cases e; exact .nil
  | _, _, ds, .cons (v := v) (vs := vs) a r, e => by
    unfold Val.dats at e
    cases q : v.dat with
    | none => rw [q] at e; cases e
    | some d =>
      cases q2 : Val.dats vs with
      | none => rw [q, q2] at e; cases e
      | some d2 =>
        rw [q, q2] at e; cases e
        exact .cons (Val.dat_ok sub a q) (Val.dats_ok sub r q2)
end
theorem datS_ok (s : SR K T W S H) {v : Val} {x : V} {d : PyData} (r : VR K T W v x) (e : datS S v = some d) : Dp K H x d := by
  cases r with
  | @loc k h =>
    unfold datS at e
    cases q : S.objs k with
    | none => simp only [q] at e; cases e
    | some o =>
      cases o with
      | lst ys =>
        simp only [q] at e
        obtain ⟨xs, h1, h2⟩ := locLst s q
        cases q2 : Val.dats ys with
        | none => rw [q2] at e; cases e
        | some ds => rw [q2] at e; cases e; exact .lst (.inl (.inl h1)) (Val.dats_ok s.sub h2 q2)
      | dk _ _ _ => simp only [q] at e; cases e
      | dt _ _ _ => simp only [q] at e; cases e
      | ins _ _ => simp only [q] at e; cases e
  | non => exact Val.dat_ok (T := T) s.sub .non e
  | bl b => exact Val.dat_ok (T := T) s.sub (.bl b) e
  | int b => exact Val.dat_ok (T := T) s.sub (.int b) e
  | str b => exact Val.dat_ok (T := T) s.sub (.str b) e
  | ty b => exact Val.dat_ok (T := T) s.sub (.ty b) e
  | tup h r => exact Val.dat_ok s.sub (.tup h r) e
  | lst h r => exact Val.dat_ok s.sub (.lst h r) e
  | fz h r => exact Val.dat_ok s.sub (.fz h r) e
  | dk a b c => exact Val.dat_ok s.sub (.dk a b c) e
  | dt a b c => exact Val.dat_ok s.sub (.dt a b c) e
  | ins a b c d => exact Val.dat_ok s.sub (.ins a b c d) e
  | cls a => exact Val.dat_ok s.sub (.cls a) e
  | err0 a b c => exact Val.dat_ok s.sub (.err0 a b c) e
  | errd a b c d r => exact Val.dat_ok s.sub (.errd a b c d r) e
end

/-! ### operators -/
theorem OpR.or {X : Cx} {f : Value → Value → Sem Value} {r r' : R2} (h : OpR X f r) (h' : OpR X f r') : OpR X f (fun x y H Q => r x y H Q ∨ r' x y H Q) := by
  intro pins s σ H x y v u Q I rx ry q
  rcases q with q | q
  · exact h pins s σ H x y v u Q I rx ry q
  · exact h' pins s σ H x y v u Q I rx ry q
theorem CallR.or {X : Cx} {f : Value} {r r' : List V → Hp → VK → Prop} (h : CallR X f r) (h' : CallR X f r') : CallR X f (fun x H Q => r x H Q ∨ r' x H Q) := by
  intro pins s σ H xs us Q I rx q
  rcases q with q | q
  · exact h pins s σ H xs us Q I rx q
  · exact h' pins s σ H xs us Q I rx q

def vAdd (bx : Bool) (v w : Val) (S : Sto) : Res Val := match v, w with
  | .int i, .int j => .ok (.int (i + j)) S
  | .str i, .str j => if i.length + j.length ≤ sizeLine then .ok (.str (i ++ j)) S else .st
  | .tup xs, .tup ys => if xs.length + ys.length ≤ sizeLine then .ok (.tup (xs ++ ys)) S else .st
  | a, b => match mlstOf S a, mlstOf S b with
    | some xs, some ys => if xs.length + ys.length ≤ sizeLine then mkL bx (xs ++ ys) S else .st
    | _, _ => .st
def vSub (v w : Val) (S : Sto) : Res Val := match v, w with
  | .int i, .int j => .ok (.int (i - j)) S
  | _, _ => .st
def vMul (v w : Val) (S : Sto) : Res Val := match v, w with
  | .int i, .int j => if (-(2 ^ 64) < i ∧ i < 2 ^ 64) ∨ (-(2 ^ 64) < j ∧ j < 2 ^ 64) then .ok (.int (i * j)) S else .st
  | _, _ => .st
def vFdiv (v w : Val) (S : Sto) : Res Val := match v, w with
  | .int i, .int j => if 0 < j ∧ j < 1073741824 then .ok (.int (i / j)) S else .st
  | _, _ => .st
def vMod (v w : Val) (S : Sto) : Res Val := match v, w with
  | .int i, .int j => if 0 < j then .ok (.int (i % j)) S else .st
  | _, _ => .st
def vPow (v w : Val) (S : Sto) : Res Val := match v, w with
  | .int i, .int j => if 0 ≤ j ∧ j ≤ 1000000 ∧ i.natAbs < 2 ^ 64 then .ok (.int (i ^ j.toNat)) S else .st
  | _, _ => .st
def vNeg (v : Val) (S : Sto) : Res Val := match v with
  | .int i => .ok (.int (-i)) S
  | _ => .st
def vLt (v w : Val) (S : Sto) : Res Val := match v, w with
  | .int i, .int j => .ok (.bl (decide (i < j))) S
  | _, _ => .st
def vLe (v w : Val) (S : Sto) : Res Val := match v, w with
  | .int i, .int j => .ok (.bl (decide (i ≤ j))) S
  | _, _ => .st
def vGt (v w : Val) (S : Sto) : Res Val := match v, w with
  | .int i, .int j => .ok (.bl (decide (j < i))) S
  | _, _ => .st
def vGe (v w : Val) (S : Sto) : Res Val := match v, w with
  | .int i, .int j => .ok (.bl (decide (j ≤ i))) S
  | _, _ => .st
def vEq (v w : Val) (S : Sto) : Res Val := match datS S v, datS S w with
  | some d, some e => if SeqAt.shaped d = true ∧ SeqAt.shaped e = true then .ok (.bl (PyData.eqv d e)) S else .st
  | _, _ => .st
def vNe (v w : Val) (S : Sto) : Res Val := match datS S v, datS S w with
  | some d, some e => if SeqAt.shaped d = true ∧ SeqAt.shaped e = true then .ok (.bl (!PyData.eqv d e)) S else .st
  | _, _ => .st
def vIsN (v w : Val) (S : Sto) : Res Val := match v, w with
  | .non, .non => .ok (.bl true) S
  | _, .non => .ok (.bl false) S
  | _, _ => .st
def vNotN (v w : Val) (S : Sto) : Res Val := match v, w with
  | .non, .non => .ok (.bl false) S
  | _, .non => .ok (.bl true) S
  | _, _ => .st
/-- an item of a list or tuple -/
def vIx (v w : Val) (S : Sto) : Res Val := match v, w with
  | .tup xs, .int i => match atI xs i with
    | some u => .ok u S
    | none => .st
  | a, .int i => match lstOf S a with
    | some xs => (match atI xs i with
      | some u => .ok u S
      | none => .st)
    | none => .st
  | _, _ => .st
theorem atI_ok {K : PySem.W.Frag} {T : Tbl} {W : Wd} {vs : List Val} {xs : List V} {i : Int} {u : Val} (r : VRs K T W vs xs) (e : atI vs i = some u) : ∃ y, atI xs i = some y ∧ VR K T W u y := by
  unfold atI at e ⊢
  rw [← r.length]
  cases q : ixN vs.length i with
  | none => rw [q] at e; cases e
  | some j =>
    rw [q] at e
    obtain ⟨y, h1, h2⟩ := r.get e
    exact ⟨y, h1, h2⟩
section
variable {K : PySem.W.Frag} {T : Tbl}
theorem o_int {g : Int → Int → V} {f : Int → Int → Val} {op : Val → Val → Sto → Res Val} (hg : ∀ W i j, VR K T W (f i j) (g i j))
    (h : ∀ v w S, (∃ i j, v = .int i ∧ w = .int j ∧ op v w S = .ok (f i j) S) ∨ op v w S = .st) : Op2 K T (rI0 g) op := by
  intro W S H v w x y Q PX s vx vy q
  rcases h v w S with ⟨i, j, rfl, rfl, e⟩ | e
  · rw [e] at q
    cases vx; cases vy
    exact ⟨i, j, rfl, rfl, q.now s _ (hg W i j)⟩
  · rw [e] at q; exact False.elim q
theorem o_intC {C : Int → Int → Prop} {g : Int → Int → V} {f : Int → Int → Val} {op : Val → Val → Sto → Res Val} (hg : ∀ W i j, VR K T W (f i j) (g i j))
    (h : ∀ v w S, (∃ i j, v = .int i ∧ w = .int j ∧ C i j ∧ op v w S = .ok (f i j) S) ∨ op v w S = .st) : Op2 K T (rI C g) op := by
  intro W S H v w x y Q PX s vx vy q
  rcases h v w S with ⟨i, j, rfl, rfl, c, e⟩ | e
  · rw [e] at q
    cases vx; cases vy
    exact ⟨i, j, rfl, rfl, c, q.now s _ (hg W i j)⟩
  · rw [e] at q; exact False.elim q
theorem o_sub : Op2 K T (rI0 fun i j => .int (i - j)) vSub := o_int (f := fun i j => .int (i - j)) (fun _ _ _ => .int _) fun v w S => by
  cases v <;> cases w <;> first | exact .inl ⟨_, _, rfl, rfl, rfl⟩ | exact .inr rfl
theorem o_lt : Op2 K T (rI0 fun i j => .bl (decide (i < j))) vLt := o_int (f := fun i j => .bl (decide (i < j))) (fun _ _ _ => .bl _) fun v w S => by
  cases v <;> cases w <;> first | exact .inl ⟨_, _, rfl, rfl, rfl⟩ | exact .inr rfl
theorem o_le : Op2 K T (rI0 fun i j => .bl (decide (i ≤ j))) vLe := o_int (f := fun i j => .bl (decide (i ≤ j))) (fun _ _ _ => .bl _) fun v w S => by
  cases v <;> cases w <;> first | exact .inl ⟨_, _, rfl, rfl, rfl⟩ | exact .inr rfl
theorem o_gt : Op2 K T (rI0 fun i j => .bl (decide (j < i))) vGt := o_int (f := fun i j => .bl (decide (j < i))) (fun _ _ _ => .bl _) fun v w S => by
  cases v <;> cases w <;> first | exact .inl ⟨_, _, rfl, rfl, rfl⟩ | exact .inr rfl
theorem o_ge : Op2 K T (rI0 fun i j => .bl (decide (j ≤ i))) vGe := o_int (f := fun i j => .bl (decide (j ≤ i))) (fun _ _ _ => .bl _) fun v w S => by
  cases v <;> cases w <;> first | exact .inl ⟨_, _, rfl, rfl, rfl⟩ | exact .inr rfl
theorem o_mul : Op2 K T (rI CMul fun i j => .int (i * j)) vMul := o_intC (f := fun i j => .int (i * j)) (fun _ _ _ => .int _) fun v w S => by
  cases v <;> cases w <;> first | exact .inr rfl | skip
  rename_i i j
  by_cases c : (-(2 ^ 64) < i ∧ i < 2 ^ 64) ∨ (-(2 ^ 64) < j ∧ j < 2 ^ 64)
  · exact .inl ⟨_, _, rfl, rfl, c, if_pos c⟩
  · exact .inr (if_neg c)
theorem o_fdiv : Op2 K T (rI CDiv fun i j => .int (i / j)) vFdiv := o_intC (f := fun i j => .int (i / j)) (fun _ _ _ => .int _) fun v w S => by
  cases v <;> cases w <;> first | exact .inr rfl | skip
  rename_i i j
  by_cases c : 0 < j ∧ j < 1073741824
  · exact .inl ⟨_, _, rfl, rfl, c, if_pos c⟩
  · exact .inr (if_neg c)
theorem o_mod : Op2 K T (rI (fun _ j => 0 < j) fun i j => .int (i % j)) vMod := o_intC (f := fun i j => .int (i % j)) (fun _ _ _ => .int _) fun v w S => by
  cases v <;> cases w <;> first | exact .inr rfl | skip
  rename_i i j
  by_cases c : 0 < j
  · exact .inl ⟨_, _, rfl, rfl, c, if_pos c⟩
  · exact .inr (if_neg c)
theorem o_pow : Op2 K T (rI CPow fun i j => .int (i ^ j.toNat)) vPow := o_intC (f := fun i j => .int (i ^ j.toNat)) (fun _ _ _ => .int _) fun v w S => by
  cases v <;> cases w <;> first | exact .inr rfl | skip
  rename_i i j
  by_cases c : 0 ≤ j ∧ j ≤ 1000000 ∧ i.natAbs < 2 ^ 64
  · exact .inl ⟨_, _, rfl, rfl, c, if_pos c⟩
  · exact .inr (if_neg c)
theorem o_neg : Op1 K T (rU fun i => .int (-i)) vNeg := by
  intro W S H v x Q PX s vx q
  cases vx with
  | int i => exact ⟨i, rfl, q.now s _ (.int _)⟩
  | _ => exact False.elim q
def rAddAll (K : PySem.W.Frag) : R2 := fun x y H Q => rI0 (fun i j => .int (i + j)) x y H Q ∨ (∃ i j, x = .str i ∧ y = .str j ∧ i.length + j.length ≤ sizeLine ∧ Q (.str (i ++ j)) H) ∨ rCatA K x y H Q ∨ rCat x y H Q
theorem add_all {X : Cx} : OpR X (binaryOp .Add) (rAddAll X.K) := OpR.or op_add (OpR.or op_add_str (OpR.or op_catA op_cat))
theorem o_add (bx : Bool) : Op2 K T (rAddAll K) (vAdd bx) := by
  intro W S H v w x y Q PX s vx vy q
  have lists : ∀ {a b : Val} {x y : V}, VR K T W a x → VR K T W b y → RP K T W (match mlstOf S a, mlstOf S b with
      | some xs, some ys => if xs.length + ys.length ≤ sizeLine then mkL bx (xs ++ ys) S else .st
      | _, _ => .st) (VP K T Q) PX → rAddAll K x y H Q := fun {a b x y} vx vy q => by
    cases ea : mlstOf S a with
    | none => simp only [ea] at q; exact False.elim q
    | some xs =>
      cases eb : mlstOf S b with
      | none => simp only [ea, eb] at q; exact False.elim q
      | some ys =>
        simp only [ea, eb] at q
        by_cases hz : xs.length + ys.length ≤ sizeLine
        · rw [if_pos hz] at q
          obtain ⟨a1, x1, rfl, h1, r1⟩ := mlstOf_ok s vx ea
          obtain ⟨a2, x2, rfl, h2, r2⟩ := mlstOf_ok s vy eb
          exact .inr (.inr (.inr ⟨a1, a2, x1, x2, rfl, rfl, h1, h2, by rw [← r1.length, ← r2.length]; exact hz, fun p hp => mkL_ok s (r1.append r2) hp q⟩))
        · rw [if_neg hz] at q; exact False.elim q
  cases v with
  | int i =>
    cases w with
    | int j => cases vx; cases vy; exact .inl ⟨i, j, rfl, rfl, q.now s _ (.int _)⟩
    | _ => exact lists vx vy q
  | str i =>
    cases w with
    | str j =>
      cases vx; cases vy
      unfold vAdd at q
      simp only at q
      by_cases hz : i.length + j.length ≤ sizeLine
      · rw [if_pos hz] at q
        exact .inr (.inl ⟨i, j, rfl, rfl, hz, q.now s _ (.str _)⟩)
      · rw [if_neg hz] at q; exact False.elim q
    | _ => exact lists vx vy q
  | tup xs =>
    cases w with
    | tup ys =>
      unfold vAdd at q
      simp only at q
      by_cases hz : xs.length + ys.length ≤ sizeLine
      · rw [if_pos hz] at q
        have vx' := vx
        have vy' := vy
        obtain ⟨a, x1, rfl, h1, r1⟩ := tup_ok s vx
        obtain ⟨b, y1, rfl, h2, r2⟩ := tup_ok s vy
        refine .inr (.inr (.inl ⟨a, b, x1, y1, rfl, rfl, h1, h2, by rw [← r1.length, ← r2.length]; exact hz, fun e => ?_, fun e1 e2 => ?_, fun e1 e2 p hp => ?_⟩))
        · subst e
          cases r1
          exact q.now s _ vy'
        · subst e2
          cases r2
          rw [List.append_nil] at q
          exact q.now s _ vx'
        · have l : WLe W (W.add p (.tup (x1 ++ y1))) := .add (s.free hp)
          exact q _ _ l (s.add hp) _ (.tup (.inl (.inl upd_same)) ((r1.append r2).mono l))
      · rw [if_neg hz] at q; exact False.elim q
    | _ => exact lists vx vy q
  | _ => exact lists vx vy q
theorem o_eq : Op2 K T (rEqD K) vEq := by
  intro W S H v w x y Q PX s vx vy q
  unfold vEq at q
  cases e1 : datS S v with
  | none => simp only [e1] at q; exact False.elim q
  | some d =>
    cases e2 : datS S w with
    | none => simp only [e1, e2] at q; exact False.elim q
    | some e =>
      simp only [e1, e2] at q
      by_cases c : SeqAt.shaped d = true ∧ SeqAt.shaped e = true
      · rw [if_pos c] at q
        exact ⟨d, e, datS_ok s vx e1, datS_ok s vy e2, c.1, c.2, q.now s _ (.bl _)⟩
      · rw [if_neg c] at q; exact False.elim q
theorem o_ne : Op2 K T (rNeD K) vNe := by
  intro W S H v w x y Q PX s vx vy q
  unfold vNe at q
  cases e1 : datS S v with
  | none => simp only [e1] at q; exact False.elim q
  | some d =>
    cases e2 : datS S w with
    | none => simp only [e1, e2] at q; exact False.elim q
    | some e =>
      simp only [e1, e2] at q
      by_cases c : SeqAt.shaped d = true ∧ SeqAt.shaped e = true
      · rw [if_pos c] at q
        exact ⟨d, e, datS_ok s vx e1, datS_ok s vy e2, c.1, c.2, q.now s _ (.bl _)⟩
      · rw [if_neg c] at q; exact False.elim q
theorem o_isN : Op2 K T (fun x y H Q => y = .non ∧ Q (.bl (decide (x = .non))) H) vIsN := by
  intro W S H v w x y Q PX s vx vy q
  cases vy with
  | non =>
    refine ⟨rfl, ?_⟩
    cases vx <;> exact q.now s _ (.bl _)
  | _ => cases v <;> exact False.elim q
theorem o_notN : Op2 K T (fun x y H Q => y = .non ∧ Q (.bl (!decide (x = .non))) H) vNotN := by
  intro W S H v w x y Q PX s vx vy q
  cases vy with
  | non =>
    refine ⟨rfl, ?_⟩
    cases vx <;> exact q.now s _ (.bl _)
  | _ => cases v <;> exact False.elim q
theorem o_ix : Op2 K T (fun x y H Q => rIxL K x y H Q ∨ rIxT K x y H Q) vIx := by
  intro W S H v w x y Q PX s vx vy q
  have lists : ∀ {a : Val} {x : V} {i : Int}, VR K T W a x → RP K T W (match lstOf S a with
    | some xs => (match atI xs i with
      | some u => .ok u S
      | none => .st)
    | none => .st) (VP K T Q) PX → rIxL K x (.int i) H Q := fun {a x i} vx q => by
    cases ea : lstOf S a with
    | none => simp only [ea] at q; exact False.elim q
    | some xs =>
      simp only [ea] at q
      cases eb : atI xs i with
      | none => simp only [eb] at q; exact False.elim q
      | some u =>
        simp only [eb] at q
        obtain ⟨a1, x1, rfl, h1, r1⟩ := lstOf_ok s vx ea
        obtain ⟨y1, h2, r2⟩ := atI_ok r1 eb
        exact ⟨a1, x1, i, y1, rfl, rfl, h1, h2, q.now s _ r2⟩
  cases w with
  | int i =>
    cases vy
    cases v with
    | tup vs =>
      unfold vIx at q
      simp only at q
      cases eb : atI vs i with
      | none => simp only [eb] at q; exact False.elim q
      | some u =>
        simp only [eb] at q
        obtain ⟨a1, x1, rfl, h1, r1⟩ := tup_ok s vx
        obtain ⟨y1, h2, r2⟩ := atI_ok r1 eb
        exact .inr ⟨a1, x1, i, y1, rfl, rfl, h1, h2, q.now s _ r2⟩
    | _ => exact .inl (lists vx q)
  | _ => cases v <;> exact False.elim q
end
end PM

/-! PM, part e: defs, calls, instances, comprehensions -/
namespace PM
open PySem PySem.Spec L2

/-! ### a def -/
def spD (K : PySem.W.Frag) (T : Tbl) (n : Nat) (F : FM) : Sp := fun vs H Q E => ∃ W args S, args.length = n ∧ SR K T W S H ∧ VRs K T W args vs ∧ RP K T W (F args S) (VP K T Q) (fun H' c o => E c o H')
def runB (N : Nat) (b : SM) : FM := fun vs S => match b (vs.map Option.some ++ List.replicate (N - vs.length) none) S with
  | .nx _ S' => .ok .non S'
  | .rt v S' => .ok v S'
  | .ex c vs _ S' => .ex c vs S'
  | _ => .st
/-- what a body's context gives -/
structure Bd (X : Cx) (Ew : XW) (k : Nat) : Prop where
  hp : PassesOwn (model X.prog X.w) X.A X.env X.xe
  calm : X.calm = true
  room : Room k X.A
  tk : Takes X Ew
  nd : X.N.Nodup
theorem Bd.hu {X : Cx} {Ew : XW} {k : Nat} (h : Bd X Ew k) : X.A.units + 64 < cLine := h.room.units
theorem Bd.hu1 {X : Cx} {Ew : XW} {k : Nat} (h : Bd X Ew k) : X.A.units + 1 < cLine := Nat.lt_of_le_of_lt (Nat.add_le_add_left (by decide : 1 ≤ 64) _) h.room.units
theorem Bd.hu65 {X : Cx} {Ew : XW} {k : Nat} (h : Bd X Ew k) : X.A.units + 65 < cLine := by have := h.room.un; omega
theorem Bd.mono {X : Cx} {Ew : XW} {j k : Nat} (h : Bd X Ew k) (l : j ≤ k) : Bd X Ew j := ⟨h.hp, h.calm, h.room.mono l, h.tk, h.nd⟩
theorem Bd.blk {X : Cx} {Ew : XW} {k : Nat} (h : Bd X Ew k) (s : Shared) (H : Hp) (scope : Scope) (cenv : Env) (fp : List Addr) : Bd (X.blk s H scope cenv fp) XW0 k :=
  ⟨PassesOwn.never, h.calm, h.room, takes0, h.nd⟩
section
variable {P : Program} {w : World} {K : PySem.W.Frag} {mg : Str → Option Value} {base : Heap} {T : Tbl}
theorem read_body {n : Nat} {N : List Str} {b : SM} {vs : List V} {H : Hp} {Q : VK} {E : XK} (h : spD K T n (runB N.length b) vs H Q E) :
    rdS K T (fun c o _ H' => E c o H') b { nx := fun _ H' => Q .non H', rt := Q } (L2.start N vs) H := by
  obtain ⟨W, args, S, _, s, r, h⟩ := h
  refine ⟨W, _, S, s, ER.start (N := N) r, ?_⟩
  unfold runB at h
  cases q : b (args.map Option.some ++ List.replicate (N.length - args.length) none) S with
  | nx ρ S' => simp only [q] at h; exact fun W' H' σ' l s' e' => h W' H' l s' _ .non
  | rt v S' => simp only [q] at h; exact fun W' H' x l s' vx => h W' H' l s' _ vx
  | ex c vs ρ S' => simp only [q] at h; exact fun W' H' σ' cls od l s' e' x => h W' H' cls od l s' x
  | bk _ _ => simp only [q] at h; exact False.elim h
  | ct _ _ => simp only [q] at h; exact False.elim h
  | st => simp only [q] at h; exact False.elim h
theorem fn_ok {x qual : Str} {st : Stmt} {f : Addr} {fd : FuncData} {N ps : List Str} {k : Nat} {b : SM} (F : Fun K x qual st f fd) (S : FnScope N ps (defScope st))
    (hb : ∀ (cdv : Value) (A : Around) (outer : List Env) (s : Shared) (H : Hp) (E : XK), Bd (cxOf (L2.CX P w) P w K mg base N qual (defScope st) f cdv A outer s H E) (fun c o _ H' => E c o H') k →
      PBm T (cxOf (L2.CX P w) P w K mg base N qual (defScope st) f cdv A outer s H E) (fun c o _ H' => E c o H') (defBody st) b) :
    FnOk P w K mg base (L2.CX P w) (k + 1) f fd ps (spD K T ps.length (runB N.length b)) := by
  refine F.okX S (fun vs H Q E h => ?_) (fun cdv A outer s H vs Q E hr h => ⟨_, hb cdv A outer s H E ⟨passes_of rfl, rfl, hr, takes_of rfl rfl rfl rfl, S.nd⟩, read_body h⟩)
  obtain ⟨W, args, S, hl, _, r, _⟩ := h
  rw [← r.length, hl]
end

/-! ### calls -/
def eCallX (F : FM) (a : AM) : EM := fun ρ S => (a ρ S).bind fun vs S1 => F vs S1
def isInst (c : Nat) (S : Sto) (o : Val) : Bool := match insOf S o with
  | some (c', _) => c' == c
  | none => false
def eMeth (c : Nat) (F : FM) (o : EM) (a : AM) : EM := fun ρ S => (o ρ S).bind fun v S1 => if isInst c S1 v then (a ρ S1).bind fun vs S2 => noEx (F (v :: vs) S2) else .st
def eMethX (c : Nat) (F : FM) (o : EM) (a : AM) : EM := fun ρ S => (o ρ S).bind fun v S1 => if isInst c S1 v then (a ρ S1).bind fun vs S2 => F (v :: vs) S2 else .st
def eMake (c : Nat) (F : FM) (a : AM) : EM := fun ρ S => (a ρ S).bind fun vs S1 => (noEx (F (.loc S1.next :: vs) (S1.alloc (.ins c [])))).bind fun r S2 => match r with
  | .non => .ok (.loc S1.next) S2
  | _ => .st
def eMakeX (c : Nat) (F : FM) (a : AM) : EM := fun ρ S => (a ρ S).bind fun vs S1 => (F (.loc S1.next :: vs) (S1.alloc (.ins c []))).bind fun r S2 => match r with
  | .non => .ok (.loc S1.next) S2
  | _ => .st
/-- a store's object handed out for good -/
def giveUp (v : Val) (S : Sto) : Res Val := match v with
  | .loc k => match S.objs k with
    | some (.lst xs) => .ok (.lst xs) (S.drop k)
    | some (.dk false ks vs) => .ok (.dk ks vs) (S.drop k)
    | some (.dt false ks vs) => .ok (.dt ks vs) (S.drop k)
    | some (.ins c vs) => .ok (.ins c vs) (S.drop k)
    | _ => .st
  | v => .ok v S
def eFrz (f : EM) : EM := fun ρ S => (f ρ S).bind giveUp
/-- what is known of a class -/
structure CO (K : PySem.W.Frag) (T : Tbl) (c : Nat) (C : Addr) : Prop where
  at_ : T.cl c = some C
  cls : Cls K C
  nd : (T.fl c).Nodup
  na : ∀ f ∈ T.fl c, NoAttr K C f
  len : (T.fl c).length < 1000
theorem lookup_zip : ∀ {fs : List Str} {xs : List V} {i : Nat} {f : Str}, fs.Nodup → fs[i]? = some f → (fs.zip xs).lookup f = xs[i]?
  | [], _, _, _, _, h => by simp at h
  | _ :: _, [], i, _, _, _ => by simp
  | g :: fs, x :: xs, 0, f, nd, h => by
    simp only [List.getElem?_cons_zero, Option.some.injEq] at h
    subst h
    simp [List.lookup]
  | g :: fs, x :: xs, i + 1, f, nd, h => by
    have h' : fs[i]? = some f := by simpa using h
    have ne : f ≠ g := fun e => (List.nodup_cons.mp nd).1 (e ▸ List.mem_of_getElem? h')
    have hb : (f == g) = false := beq_eq_false_iff_ne.mpr ne
    simp only [List.zip_cons_cons, List.lookup, hb, List.getElem?_cons_succ]
    exact lookup_zip (List.nodup_cons.mp nd).2 h'
theorem lookup_none : ∀ {fs : List Str} {xs : List V} {f : Str}, f ∉ fs → (fs.zip xs).lookup f = none
  | [], _, _, _ => by simp
  | _ :: _, [], _, _ => by simp
  | g :: fs, x :: xs, f, h => by
    have hb : (f == g) = false := beq_eq_false_iff_ne.mpr fun e => h (by rw [e]; exact List.mem_cons_self)
    simp only [List.zip_cons_cons, List.lookup, hb]
    exact lookup_none fun z => h (List.mem_cons_of_mem _ z)
theorem putF_set : ∀ {fs : List Str} {xs : List V} {i : Nat} {f : Str} {y : V}, fs.Nodup → fs[i]? = some f → i < xs.length → putF f y (fs.zip xs) = fs.zip (xs.set i y)
  | [], _, _, _, _, _, h, _ => by simp at h
  | _ :: _, [], _, _, _, _, _, h => by simp at h
  | g :: fs, x :: xs, 0, f, y, nd, h, _ => by
    simp only [List.getElem?_cons_zero, Option.some.injEq] at h
    subst h
    simp [putF]
  | g :: fs, x :: xs, i + 1, f, y, nd, h, hi => by
    have h' : fs[i]? = some f := by simpa using h
    have ne : g ≠ f := fun e => (List.nodup_cons.mp nd).1 (e ▸ List.mem_of_getElem? h')
    have ih := putF_set (y := y) (List.nodup_cons.mp nd).2 h' (by simpa using hi)
    simp only [List.zip_cons_cons, putF, if_neg ne, List.set_cons_succ, ih]
theorem putF_new : ∀ {fs : List Str} {xs : List V} {f : Str} {y : V}, fs.Nodup → fs[xs.length]? = some f → putF f y (fs.zip xs) = fs.zip (xs ++ [y])
  | [], _, _, _, _, h => by simp at h
  | g :: fs, [], f, y, nd, h => by
    simp only [List.length_nil, List.getElem?_cons_zero, Option.some.injEq] at h
    subst h
    simp [putF]
  | g :: fs, x :: xs, f, y, nd, h => by
    have h' : fs[xs.length]? = some f := by simpa using h
    have ne : g ≠ f := fun e => (List.nodup_cons.mp nd).1 (e ▸ List.mem_of_getElem? h')
    have ih := putF_new (y := y) (List.nodup_cons.mp nd).2 h'
    simp only [List.zip_cons_cons, putF, if_neg ne, List.cons_append, ih]
def eAttr (c i : Nat) (o : EM) : EM := fun ρ S => (o ρ S).bind fun v S1 => match insOf S1 v with
  | some (c', vs) => if c' = c then (match vs[i]? with
    | some u => .ok u S1
    | none => .st) else .st
  | none => .st
def sAttr (c i : Nat) (o e : EM) : SM := fun ρ S => (e ρ S).toS ρ fun u S1 => (o ρ S1).toS ρ fun v S2 => match v with
  | .loc k => (match S2.objs k with
    | some (.ins c' vs) => if c' = c then (if i < vs.length then .nx ρ (S2.put k (.ins c (vs.set i u))) else if i = vs.length then .nx ρ (S2.put k (.ins c (vs ++ [u]))) else .st) else .st
    | _ => .st)
  | _ => .st

section
variable {T : Tbl} {X : Cx} {Ew : XW} {k : Nat} {f C : Addr} {fd : FuncData} {ps : List Str} {n : Nat} {F : FM} {x m fl : Str} {p pos apos : Pos} {e o value : Expr} {es : List Expr} {fo fe : EM} {fs : AM} {c i : Nat}
theorem spD_of {W : Wd} {S : Sto} {H : Hp} {args : List Val} {xs : List V} {Q : VK} {PX : Hp → Value → Option Addr → Prop} {E : XK} (s : SR X.K T W S H) (r : VRs X.K T W args xs) (hl : args.length = n) (h : RP X.K T W (F args S) (VP X.K T Q) PX) (hE : ∀ H' c o, PX H' c o → E c o H') :
    spD X.K T n F xs H Q E := ⟨W, args, S, hl, s, r, h.imp (fun _ _ _ _ _ _ q => q) hE⟩
theorem spD_no {W : Wd} {S : Sto} {H : Hp} {args : List Val} {xs : List V} {Q : VK} {PX : Hp → Value → Option Addr → Prop} (s : SR X.K T W S H) (r : VRs X.K T W args xs) (hl : args.length = n) (h : RP X.K T W (noEx (F args S)) (VP X.K T Q) PX) :
    spD X.K T n F xs H Q E0 := ⟨W, args, S, hl, s, r, h.noEx⟩
def eCallN (n : Nat) (F : FM) (a : AM) : EM := fun ρ S => (a ρ S).bind fun vs S1 => if vs.length = n then noEx (F vs S1) else .st
theorem m_call (G : FnOk X.prog X.w X.K X.mg X.base (L2.CX X.prog X.w) k f fd ps (spD X.K T n F)) (hr : Room k X.A) (hg : Gl X x) (hm : X.mg x = some (.ref f)) (hk : PySem.W.keepIn X.K (.ref f) = true) (hb : Binds X.K fd ps [])
    (ha : PAm T X Ew (e :: es) fs) (hdb : (x == ("__debug__" : Str)) = false := by decide) (he : starEach (e :: es) X.env = (false, eval e X.env) :: starEach es X.env := by rfl) (hpl : (backTo pos (starEach es X.env)).any (·.1) = false := by rfl) :
    PEm T X Ew (.Call (.Name x p) (e :: es) [] pos) (eCallN n F fs) := by
  refine PE.to (pe_call G hr hg hm hk hb .nil passL ha hdb he hpl) fun σ H Q h => ?_
  obtain ⟨W, ρ, S, s, er, h⟩ := h
  refine ⟨W, ρ, S, s, er, RP.bind h fun W1 S1 H1 vs l1 s1 h1 xs vx => ?_⟩
  show spD X.K T n F (xs ++ []) H1 Q E0
  rw [List.append_nil]
  by_cases hl : vs.length = n
  · rw [if_pos hl] at h1; exact spD_no s1 vx hl h1
  · rw [if_neg hl] at h1; exact False.elim h1
theorem m_call0 (G : FnOk X.prog X.w X.K X.mg X.base (L2.CX X.prog X.w) k f fd ps (spD X.K T n F)) (hr : Room k X.A) (hg : Gl X x) (hm : X.mg x = some (.ref f)) (hk : PySem.W.keepIn X.K (.ref f) = true) (hb : Binds X.K fd ps [])
    (hdb : (x == ("__debug__" : Str)) = false := by decide) : PEm T X Ew (.Call (.Name x p) [] [] pos) (eCallN n F aNil) := by
  refine PE.to (pe_call0 G hr hg hm hk hb .nil passL hdb) fun σ H Q h => ?_
  obtain ⟨W, ρ, S, s, er, h⟩ := h
  have h1 : RP X.K T W (if ([] : List Val).length = n then noEx (F [] S) else .st) (VP X.K T Q) (fun H' c o => Ew c o σ H') := h
  show spD X.K T n F [] H Q E0
  by_cases hl : ([] : List Val).length = n
  · rw [if_pos hl] at h1; exact spD_no s .nil hl h1
  · rw [if_neg hl] at h1; exact False.elim h1
/-- what is raised goes on -/
def eCallXN (n : Nat) (F : FM) (a : AM) : EM := fun ρ S => (a ρ S).bind fun vs S1 => if vs.length = n then F vs S1 else .st
theorem m_callX (tk : Takes X Ew) (G : FnOk X.prog X.w X.K X.mg X.base (L2.CX X.prog X.w) k f fd ps (spD X.K T n F)) (hr : Room k X.A) (hg : Gl X x) (hm : X.mg x = some (.ref f)) (hk : PySem.W.keepIn X.K (.ref f) = true) (hb : Binds X.K fd ps [])
    (ha : PAm T X Ew (e :: es) fs) (hdb : (x == ("__debug__" : Str)) = false := by decide) (he : starEach (e :: es) X.env = (false, eval e X.env) :: starEach es X.env := by rfl) (hpl : (backTo pos (starEach es X.env)).any (·.1) = false := by rfl) :
    PEm T X Ew (.Call (.Name x p) (e :: es) [] pos) (eCallXN n F fs) := by
  refine PE.to (pe_callS (E := WE Ew) G hr hg hm hk hb (fun σ => passAt tk σ) ha hdb he hpl) fun σ H Q h => ?_
  obtain ⟨W, ρ, S, s, er, h⟩ := h
  refine ⟨W, ρ, S, s, er, RP.bind h fun W1 S1 H1 vs l1 s1 h1 xs vx => ?_⟩
  by_cases hl : vs.length = n
  · rw [if_pos hl] at h1; exact spD_of s1 vx hl h1 fun _ _ _ q => q
  · rw [if_neg hl] at h1; exact False.elim h1
theorem isInst_ok {K : PySem.W.Frag} {W : Wd} {S : Sto} {H : Hp} {v : Val} {y : V} (O : CO K T c C) (s : SR K T W S H) (r : VR K T W v y) (h : isInst c S v = true) : ∃ a dx xs, y = .ref a ∧ H a = some (.ins C dx ((T.fl c).zip xs)) := by
  unfold isInst at h
  cases q : insOf S v with
  | none => simp only [q] at h; cases h
  | some z =>
    obtain ⟨c', vs⟩ := z
    simp only [q] at h
    obtain rfl : c' = c := by simpa using h
    obtain ⟨a, C', dx, xs, rfl, hc, _, hH, _⟩ := insOf_ok s r q
    rw [O.at_] at hc
    cases hc
    exact ⟨a, dx, xs, rfl, hH⟩
def eMethN (n c : Nat) (F : FM) (o : EM) (a : AM) : EM := fun ρ S => (o ρ S).bind fun v S1 => if isInst c S1 v then (a ρ S1).bind fun vs S2 => if (v :: vs).length = n then noEx (F (v :: vs) S2) else .st else .st
theorem m_meth {pl : Sem Bool} (O : CO X.K T c C) (hmn : m ∉ T.fl c) (ho : PEm T X Ew o fo) (hm : Meth X.K C m f) (G : FnOk X.prog X.w X.K X.mg X.base (L2.CX X.prog X.w) k f fd ps (spD X.K T n F)) (hr : Room k X.A) (hb : Binds X.K fd ps [])
    (ha : PAm T X Ew (e :: es) fs)
    (hst : starEach (e :: es) X.env = (false, eval e X.env) :: starEach es X.env := by rfl) (hpl : (backTo pos (starEach es X.env)).any (·.1) = false := by rfl)
    (ht : eval (.Call (.Attribute o m apos) (e :: es) [] pos) X.env = (do
      let ov ← eval o X.env
      standAt apos.atName
      let (f, first) ← holding [ov] (getMethod ov m pl)
      callWith pos f first (backTo pos (starEach (e :: es) X.env)) (backToKw pos (keywordEach [] X.env))) := by rfl) :
    PEm T X Ew (.Call (.Attribute o m apos) (e :: es) [] pos) (eMethN n c F fo fs) := by
  refine PE.to (pe_meth ho O.cls hm G hr hb .nil passL ha hst hpl ht) fun σ H Q h => ?_
  obtain ⟨W, ρ, S, s, er, h⟩ := h
  refine ⟨W, ρ, S, s, er, RP.bind h fun W1 S1 H1 v l1 s1 h1 y vy => ?_⟩
  cases hi : isInst c S1 v with
  | false => rw [hi] at h1; exact False.elim h1
  | true =>
    rw [hi, if_pos rfl] at h1
    obtain ⟨a, dx, xs, rfl, hH⟩ := isInst_ok O s1 vy hi
    refine ⟨a, dx, _, rfl, hH, lookup_none hmn, W1, ρ, S1, s1, er.mono l1, RP.bind h1 fun W2 S2 H2 vs l2 s2 h2 zs vz => ?_⟩
    show spD X.K T n F (.ref a :: (zs ++ [])) H2 Q E0
    rw [List.append_nil]
    by_cases hl : (v :: vs).length = n
    · rw [if_pos hl] at h2; exact spD_no s2 (.cons (vy.mono l2) vz) hl h2
    · rw [if_neg hl] at h2; exact False.elim h2
theorem m_meth0 {pl : Sem Bool} (O : CO X.K T c C) (hmn : m ∉ T.fl c) (ho : PEm T X Ew o fo) (hm : Meth X.K C m f) (G : FnOk X.prog X.w X.K X.mg X.base (L2.CX X.prog X.w) k f fd ps (spD X.K T n F)) (hr : Room k X.A) (hb : Binds X.K fd ps [])
    (ht : eval (.Call (.Attribute o m apos) [] [] pos) X.env = (do
      let ov ← eval o X.env
      standAt apos.atName
      let (f, first) ← holding [ov] (getMethod ov m pl)
      callWith pos f first (backTo pos (starEach [] X.env)) (backToKw pos (keywordEach [] X.env))) := by rfl) :
    PEm T X Ew (.Call (.Attribute o m apos) [] [] pos) (eMethN n c F fo aNil) := by
  refine PE.to (pe_meth0 ho O.cls hm G hr hb .nil passL ht) fun σ H Q h => ?_
  obtain ⟨W, ρ, S, s, er, h⟩ := h
  refine ⟨W, ρ, S, s, er, RP.bind h fun W1 S1 H1 v l1 s1 h1 y vy => ?_⟩
  cases hi : isInst c S1 v with
  | false => rw [hi] at h1; exact False.elim h1
  | true =>
    rw [hi, if_pos rfl] at h1
    obtain ⟨a, dx, xs, rfl, hH⟩ := isInst_ok O s1 vy hi
    have h2 : RP X.K T W1 (if [v].length = n then noEx (F [v] S1) else .st) (VP X.K T Q) (fun H' c o => Ew c o σ H') := h1
    refine ⟨a, dx, _, rfl, hH, lookup_none hmn, ?_⟩
    show spD X.K T n F [.ref a] H1 Q E0
    by_cases hl : [v].length = n
    · rw [if_pos hl] at h2; exact spD_no s1 (.cons vy .nil) hl h2
    · rw [if_neg hl] at h2; exact False.elim h2
def eMakeN (n c : Nat) (F : FM) (a : AM) : EM := fun ρ S => (a ρ S).bind fun vs S1 => if (Val.loc S1.next :: vs).length = n then (noEx (F (.loc S1.next :: vs) (S1.alloc (.ins c [])))).bind fun r S2 => (match r with
  | .non => .ok (.loc S1.next) S2
  | _ => .st) else .st
theorem m_make (O : CO X.K T c C) (M : Mk X.K C f) (G : FnOk X.prog X.w X.K X.mg X.base (L2.CX X.prog X.w) k f fd ps (spD X.K T n F)) (hr : Room (k + 1) X.A) (hg : Gl X x) (hm : X.mg x = some (.ref C)) (hb : Binds X.K fd ps [])
    (ha : PAm T X Ew (e :: es) fs) (hdb : (x == ("__debug__" : Str)) = false := by decide) (he : starEach (e :: es) X.env = (false, eval e X.env) :: starEach es X.env := by rfl) (hpl : (backTo pos (starEach es X.env)).any (·.1) = false := by rfl) :
    PEm T X Ew (.Call (.Name x p) (e :: es) [] pos) (eMakeN n c F fs) := by
  refine PE.to (pe_make M G hr hg hm hb .nil passL ha hdb he hpl) fun σ H Q h => ?_
  obtain ⟨W, ρ, S, s, er, h⟩ := h
  refine ⟨W, ρ, S, s, er, RP.bind h fun W1 S1 H1 vs l1 s1 h1 xs vx => fun q dx hq hdx hne => ?_⟩
  show spD X.K T n F (.ref q :: (xs ++ [])) (upd (upd H1 dx (.own q)) q (.ins C dx [])) (fun v H2 => v = .non ∧ Q (.ref q) H2) E0
  rw [List.append_nil]
  by_cases hl : (Val.loc S1.next :: vs).length = n
  · rw [if_pos hl] at h1
    have s2 := s1.beside (o := .own q) hdx
    have hq' : (upd H1 dx (.own q)) q = none := by rw [upd_ne hne.symm]; exact hq
    have s3 : SR X.K T (W1.box q) (S1.alloc (.ins c [])) (upd (upd H1 dx (.own q)) q (.ins C dx [])) :=
      s2.box (b := .ins c []) hq' ⟨C, dx, [], O.at_, Nat.zero_le _, by rw [upd_same]; simp, .nil⟩
    have vl : VR X.K T (W1.box q) (.loc S1.next) (.ref q) := by
      have z : VR X.K T (W1.box q) (.loc W1.n) (.ref ((W1.box q).m W1.n)) := .loc (Nat.lt_succ_self _)
      rw [Wd.box_at] at z
      rw [← s1.nx]; exact z
    refine spD_no (PX := fun H' c o => Ew c o σ H') s3 (.cons vl (vx.mono .box)) hl ?_
    refine RP.bind (h1.wle .box) fun W2 S2 H2 r l2 s4 h2 y vy => ?_
    cases vy with
    | non => exact ⟨rfl, h2.now s4 _ (vl.mono l2)⟩
    | _ => exact False.elim h2
  · rw [if_neg hl] at h1; exact False.elim h1
theorem m_frz (h : PEm T X Ew e fe) : PEm T X Ew e (eFrz fe) := by
  refine PE.to h fun σ H Q h => ?_
  obtain ⟨W, ρ, S, s, er, h⟩ := h
  refine ⟨W, ρ, S, s, er, RP.bind h fun W1 S1 H1 v l1 s1 h1 y vy => ?_⟩
  cases vy with
  | @loc k hk =>
    unfold giveUp at h1
    cases q : S1.objs k with
    | none => simp only [q] at h1; exact False.elim h1
    | some b =>
      have A := s1.at_ k b q
      cases b with
      | lst xs =>
        simp only [q] at h1
        obtain ⟨zs, hz, r⟩ := A
        have l : WLe W1 (W1.add (W1.m k) (.lst zs)) := .add (s1.out k _ q)
        exact h1 _ _ l (s1.frz q hz) _ (.lst upd_same (r.mono l))
      | ins c vs =>
        simp only [q] at h1
        obtain ⟨C, dx, zs, hc, hl, hz, r⟩ := A
        have l : WLe W1 (W1.add (W1.m k) (.ins C dx ((T.fl c).zip zs))) := .add (s1.out k _ q)
        exact h1 _ _ l (s1.frz q hz) _ (.ins hc hl upd_same (r.mono l))
      | dk lk ks vs =>
        cases lk with
        | true => simp only [q] at h1; exact False.elim h1
        | false =>
          simp only [q] at h1
          obtain ⟨zs, hl, hz, r⟩ := A
          rw [if_neg Bool.false_ne_true] at hz
          have l : WLe W1 (W1.add (W1.m k) (.dK (ks.zip zs))) := .add (s1.out k _ q)
          exact h1 _ _ l (s1.frz q hz) _ (.dk hl upd_same (r.mono l))
      | dt lk ks vs =>
        cases lk with
        | true => simp only [q] at h1; exact False.elim h1
        | false =>
          simp only [q] at h1
          obtain ⟨zs, hl, hz, r⟩ := A
          rw [if_neg Bool.false_ne_true] at hz
          have l : WLe W1 (W1.add (W1.m k) (.dT (ks.zip zs))) := .add (s1.out k _ q)
          exact h1 _ _ l (s1.frz q hz) _ (.dt hl upd_same (r.mono l))
  | non => exact h1.now s1 _ .non
  | bl b => exact h1.now s1 _ (.bl b)
  | int b => exact h1.now s1 _ (.int b)
  | str b => exact h1.now s1 _ (.str b)
  | ty b => exact h1.now s1 _ (.ty b)
  | tup h r => exact h1.now s1 _ (.tup h r)
  | lst h r => exact h1.now s1 _ (.lst h r)
  | fz h r => exact h1.now s1 _ (.fz h r)
  | dk a b c => exact h1.now s1 _ (.dk a b c)
  | dt a b c => exact h1.now s1 _ (.dt a b c)
  | ins a b c d => exact h1.now s1 _ (.ins a b c d)
  | cls a => exact h1.now s1 _ (.cls a)
  | err0 a b c => exact h1.now s1 _ (.err0 a b c)
  | errd a b c d r => exact h1.now s1 _ (.errd a b c d r)
theorem m_attr (O : CO X.K T c C) (hi : (T.fl c)[i]? = some fl) (ho : PEm T X Ew o fo) (hb : attributeBase o fl X.env (eval o X.env) = eval o X.env := by rfl) : PEm T X Ew (.Attribute o fl pos) (eAttr c i fo) := by
  refine PE.to (pe_fld ho hb) fun σ H Q h => ?_
  obtain ⟨W, ρ, S, s, er, h⟩ := h
  refine ⟨W, ρ, S, s, er, RP.bind h fun W1 S1 H1 v l1 s1 h1 y vy => ?_⟩
  cases q : insOf S1 v with
  | none => simp only [q] at h1; exact False.elim h1
  | some z =>
    obtain ⟨c', vs⟩ := z
    simp only [q] at h1
    by_cases hc : c' = c
    · subst hc
      rw [if_pos rfl] at h1
      cases q2 : vs[i]? with
      | none => simp only [q2] at h1; exact False.elim h1
      | some u =>
        simp only [q2] at h1
        obtain ⟨a, C', dx, xs, rfl, hcl, hle, hH, r⟩ := insOf_ok s1 vy q
        rw [O.at_] at hcl
        cases hcl
        obtain ⟨yu, e1, vu⟩ := r.get q2
        exact ⟨a, C, dx, _, yu, rfl, hH, O.cls, O.na _ (List.mem_of_getElem? hi), (lookup_zip O.nd hi).trans e1, h1.now s1 _ vu⟩
    · rw [if_neg hc] at h1; exact False.elim h1
theorem ms_attr {pos' : Pos} (O : CO X.K T c C) (hi : (T.fl c)[i]? = some fl) (ho : PEm T X Ew o fo) (hv : PEm T X Ew value fe) (hs : swapsWith value (some (.Attribute o fl pos')) pos.line X.env = pure false := by rfl) :
    PSm T X Ew (.Assign [.Attribute o fl pos'] value pos) (sAttr c i fo fe) := by
  refine PS.to (ps_fld ho hv hs) fun D σ H ⟨W, ρ, S, sr, er, h⟩ => ⟨W, ρ, S, sr, er, SPo.of er h fun W1 S1 H1 u l1 s1 h1 y vy => ⟨W1, ρ, S1, s1, er.mono l1, SPo.of (er.mono l1) h1 fun W2 S2 H2 v l2 s2 h2 z vz => ?_⟩⟩
  cases vz with
  | @loc k hk =>
    simp only at h2
    cases q : S2.objs k with
    | none => simp only [q] at h2; exact False.elim h2
    | some b =>
      cases b with
      | ins c' vs =>
        simp only [q] at h2
        by_cases hc : c' = c
        · subst hc
          rw [if_pos rfl] at h2
          obtain ⟨C', dx, xs, hcl, hle, hH, r⟩ := s2.at_ k _ q
          rw [O.at_] at hcl
          cases hcl
          have hlt := O.len
          refine ⟨_, C, dx, _, rfl, hH, O.cls, O.na _ (List.mem_of_getElem? hi), ?_, ?_⟩
          · rw [List.length_zip]; omega
          · by_cases h3 : i < vs.length
            · rw [if_pos h3] at h2
              have h3' : i < xs.length := by rw [← r.length]; exact h3
              refine h2 W2 _ σ (.refl _) (s2.put q ⟨C, dx, xs.set i y, O.at_, by rw [List.length_set]; exact hle, ?_, VRs.set (vy.mono l2) i r⟩) ((er.mono l1).mono l2)
              rw [upd_same, putF_set O.nd hi h3']
            · rw [if_neg h3] at h2
              by_cases h4 : i = vs.length
              · subst h4
                rw [if_pos rfl] at h2
                have hi' : (T.fl c')[xs.length]? = some fl := by rw [← r.length]; exact hi
                refine h2 W2 _ σ (.refl _) (s2.put q ⟨C, dx, xs ++ [y], O.at_, ?_, ?_, r.append (.cons (vy.mono l2) .nil)⟩) ((er.mono l1).mono l2)
                · have := (List.getElem?_eq_some_iff.mp hi').1
                  rw [List.length_append, List.length_singleton]; omega
                · rw [upd_same, putF_new O.nd hi']
              · rw [if_neg h4] at h2; exact False.elim h2
        · rw [if_neg hc] at h2; exact False.elim h2
      | _ => simp only [q] at h2; exact False.elim h2
  | _ => exact False.elim h2
end

/-! ### built-ins -/
section
variable {T : Tbl} {X : Cx} {Ew : XW} {x : Str} {p pos apos cpos : Pos} {e o : Expr} {es : List Expr} {fo : EM} {fs : AM} {id Ty : String} {r : List V → Hp → VK → Prop} {op : List Val → Sto → Res Val}
theorem rd_L (ok : OpL X.K T r op) {σ : L2.St} {H : Hp} {Q : VK} (h : rdE X.K T Ew (eBI op fs) σ H Q) : tCB r (rdA X.K T Ew fs) σ H Q := by
  obtain ⟨W, ρ, S, s, er, h⟩ := h
  exact ⟨W, ρ, S, s, er, RP.bind h fun W1 S1 H1 vs l1 s1 h1 xs vx => ok W1 S1 H1 vs xs Q _ s1 vx h1⟩
theorem m_callB (hc : CallR X (.builtin id) r) (ok : OpL X.K T r op) (hg : Gl X x) (hm : X.mg x = none) (hv : bootBuiltins x = some (.builtin id)) (ha : PAm T X Ew (e :: es) fs) (hn : x ≠ "__name__" := by decide) (hdb : (x == ("__debug__" : Str)) = false := by decide)
    (he : starEach (e :: es) X.env = (false, eval e X.env) :: starEach es X.env := by rfl) (hpl : (backTo pos (starEach es X.env)).any (·.1) = false := by rfl) : PEm T X Ew (.Call (.Name x p) (e :: es) [] pos) (eBI op fs) :=
  PE.to (pe_callB hc hg hm hv ha hn hdb he hpl) fun _ _ _ h => rd_L ok h
theorem m_callTy (hc : CallR X (.type Ty) r) (ok : OpL X.K T r op) (hg : Gl X x) (hm : X.mg x = none) (hv : bootBuiltins x = some (.type Ty)) (ha : PAm T X Ew (e :: es) fs) (hn : x ≠ "__name__" := by decide) (hdb : (x == ("__debug__" : Str)) = false := by decide)
    (he : starEach (e :: es) X.env = (false, eval e X.env) :: starEach es X.env := by rfl) (hpl : (backTo pos (starEach es X.env)).any (·.1) = false := by rfl) : PEm T X Ew (.Call (.Name x p) (e :: es) [] pos) (eBI op fs) :=
  PE.to (pe_callTy hc hg hm hv ha hn hdb he hpl) fun _ _ _ h => rd_L ok h
def OpM (K : PySem.W.Frag) (T : Tbl) (r : V → List V → Hp → VK → Prop) (op : Val → List Val → Sto → Res Val) : Prop := ∀ W S H v y vs xs (Q : VK) (PX : Hp → Value → Option Addr → Prop), SR K T W S H → VR K T W v y → VRs K T W vs xs →
  RP K T W (op v vs S) (VP K T Q) PX → r y xs H Q
def eBM (chk : Val → Sto → Bool) (op : Val → List Val → Sto → Res Val) (o : EM) (a : AM) : EM := fun ρ S => (o ρ S).bind fun v S1 => if chk v S1 then (a ρ S1).bind fun vs S2 => op v vs S2 else .st
theorem m_bm {name : Str} {rm : V → List V → Hp → VK → Prop} {chk : Val → Sto → Bool} {om : Val → List Val → Sto → Res Val} (pa : PlainAttrs Ty) (slot : Slot Ty name id) (hty : typeOf (.builtin id) = pure (.type "method_descriptor")) (hm : MtR X id rm)
    (hck : ∀ W S H v y, SR X.K T W S H → VR X.K T W v y → chk v S = true → tyV X.K Ty y H) (ok : OpM X.K T rm om) (ho : PEm T X Ew o fo) (ha : PAm T X Ew (e :: es) fs)
    (hbase : attributeBase o name X.env (eval o X.env) = eval o X.env := by rfl)
    (hfew : ((backTo cpos (starEach (e :: es) X.env)).all (fun x => !x.1) && (backToKw cpos (keywordEach [] X.env)).all (fun x => x.1.isSome)
      && decide ((e :: es).length + ([] : List Keyword).length + (if ([] : List Keyword).isEmpty then 0 else 1) < 30)) = true := by rfl)
    (hline : (apos.endLine == cpos.line) = true := by rfl) (hs : starEach (e :: es) X.env = (false, eval e X.env) :: starEach es X.env := by rfl) (hplain : (backTo cpos (starEach es X.env)).any (·.1) = false := by rfl) :
    PEm T X Ew (.Call (.Attribute o name apos) (e :: es) [] cpos) (eBM chk om fo fs) := by
  refine PE.to (pe_bm pa slot hty hm ho ha hbase hfew hline hs hplain) fun σ H Q h => ?_
  obtain ⟨W, ρ, S, s, er, h⟩ := h
  refine ⟨W, ρ, S, s, er, RP.bind h fun W1 S1 H1 v l1 s1 h1 y vy => ?_⟩
  cases hc : chk v S1 with
  | false => rw [hc] at h1; exact False.elim h1
  | true =>
    rw [hc, if_pos rfl] at h1
    exact ⟨hck W1 S1 H1 v y s1 vy hc, W1, ρ, S1, s1, er.mono l1, RP.bind h1 fun W2 S2 H2 vs l2 s2 h2 xs vx => ok W2 S2 H2 v y vs xs Q _ s2 (vy.mono l2) vx h2⟩
end

/-! ### list comprehensions -/
open Classical in
noncomputable def lcGo (src : Sto → Prop) (tg : Tgt) (tst : BM) (elt : EM) (n0 : Nat) (ρ0 : Ev) : List Val → Sto → Res Unit
  | [], S => if src S then .ok () S else .st
  | v :: vs, S => if src S then (match tg.set v ρ0 with
      | some ρ1 => (noEx (tst ρ1 S)).bind fun k S1 => if k then (noEx (elt ρ1 S1)).bind fun u S2 => (match S2.objs n0 with
          | some (.lst acc) => if acc.length < sizeLine then lcGo src tg tst elt n0 ρ0 vs (S2.put n0 (.lst (acc ++ [u]))) else .st
          | _ => .st) else lcGo src tg tst elt n0 ρ0 vs S1
      | none => .st) else .st
def lcEnd (bx : Bool) (n0 : Nat) (S : Sto) : Res Val := match S.objs n0 with
  | some (.lst acc) => if bx then .ok (.loc n0) S else .ok (.lst acc) (S.drop n0)
  | _ => .st
noncomputable def eLc (bx : Bool) (it : IM) (tg : Tgt) (tst : BM) (elt : EM) (ws : List Nat) : EM := fun ρ S => (it ρ S).bind fun iv S1 =>
  (lcGo iv.src tg tst elt S1.next (wipeE ρ ws) iv.items (S1.alloc (.lst []))).bind fun _ S2 => lcEnd bx S1.next S2
def tYesM : BM := fun _ S => .ok true S
section
variable {T : Tbl} {X : Cx} {Ew : XW} {elt tgE iter c : Expr} {ifs : List Expr} {scope : Scope} {own : List (Str × Nat)} {pos : Pos} {it : IM} {tg : Tgt} {tst : BM} {fe : EM} {bx : Bool}
theorem rd_lc (hsl : ∀ i ∈ tg.slots, i ∈ own.map (·.2)) {σ : L2.St} {H : Hp} {Q : VK} (h : rdE X.K T Ew (eLc bx it tg tst fe (own.map (·.2))) σ H Q) :
    tLc (rdI X.K T Ew it) (tg.g X.K) (rdT X.K T XW0 tst) (rdE X.K T XW0 fe) (own.map (·.2)) σ H Q := by
  obtain ⟨W, ρ, S, sr, er, h⟩ := h
  refine ⟨W, ρ, S, sr, er, RP.bind h fun W1 S1 H1 iv l1 s1 h1 J hJ D hD => ?_⟩
  have sB : SR X.K T (W1.box D) (S1.alloc (.lst [])) (upd H1 D (.lst [])) := s1.box (b := .lst []) hD ⟨[], upd_same, .nil⟩
  have eD : (W1.box D).m S1.next = D := by rw [← s1.nx]; exact Wd.box_at
  have lD : S1.next < (W1.box D).n := by rw [← s1.nx]; exact Nat.lt_succ_self _
  refine ⟨fun i m H => ∃ W S rest, iv.items.drop i = rest ∧ m = rest.length ∧ WLe (W1.box D) W ∧ SR X.K T W S H ∧
      RP X.K T W ((lcGo iv.src tg tst fe S1.next (wipeE ρ (own.map (·.2))) rest S).bind fun _ S2 => lcEnd bx S1.next S2) (VP X.K T Q) (fun H' c o => Ew c o σ H'),
    ⟨_, W1.box D, _, iv.items, rfl, rfl, .refl _, sB, h1.wle .box⟩, fun i m H hW => ?_⟩
  obtain ⟨W, S, rest, hd, rfl, lw, sr, h⟩ := hW
  have wD : W.m S1.next = D := (lw.eq _ lD).trans eD
  cases rest with
  | nil =>
    unfold lcGo at h
    by_cases hsrc : iv.src S
    · rw [if_pos hsrc] at h
      have hn : iv.items[i]? = none := List.getElem?_eq_none (by simpa using hd)
      refine .inl ⟨(hJ W S H (.trans .box lw) sr hsrc i).2 hn, ?_⟩
      have h' : RP X.K T W (lcEnd bx S1.next S) (VP X.K T Q) (fun H' c o => Ew c o σ H') := h
      unfold lcEnd at h'
      cases q : S.objs S1.next with
      | none => simp only [q] at h'; exact False.elim h'
      | some b =>
        cases b with
        | lst acc =>
          simp only [q] at h'
          obtain ⟨xs, hx, r⟩ := sr.at_ _ _ q
          cases bx with
          | true =>
            rw [if_pos rfl] at h'
            have z : VR X.K T W (.loc S1.next) (.ref (W.m S1.next)) := .loc (Nat.lt_of_lt_of_le lD lw.le)
            rw [wD] at z
            exact h'.now sr _ z
          | false =>
            rw [if_neg Bool.false_ne_true] at h'
            have l : WLe W (W.add (W.m S1.next) (.lst xs)) := .add (sr.out _ _ q)
            have z : VR X.K T (W.add (W.m S1.next) (.lst xs)) (.lst acc) (.ref (W.m S1.next)) := .lst upd_same (r.mono l)
            have r' := h' _ _ l (sr.frz q hx) _ z
            rw [wD] at r'
            exact r'
        | _ => simp only [q] at h'; exact False.elim h'
    · rw [if_neg hsrc] at h; exact False.elim h
  | cons v vs =>
    unfold lcGo at h
    by_cases hsrc : iv.src S
    · rw [if_pos hsrc] at h
      have hv : iv.items[i]? = some v := by
        have := congrArg (·[0]?) hd
        simpa using this
      have hd' : iv.items.drop (i + 1) = vs := by
        have := congrArg List.tail hd
        simpa using this
      obtain ⟨go, yl⟩ := (hJ W S H (.trans .box lw) sr hsrc i).1 v hv
      refine .inr ⟨go, _, fun H' z => ⟨vs.length, Nat.lt_succ_self _, z⟩, fun x H' y => ?_⟩
      obtain ⟨W2, l2, s2, vx⟩ := yl x H' y
      cases q : tg.set v (wipeE ρ (own.map (·.2))) with
      | none => rw [q] at h; exact False.elim h
      | some ρ1 =>
        rw [q] at h
        have er2 : ER X.K T W2 (wipeE ρ (own.map (·.2))) (L2.wipe σ (own.map (·.2))) := ((er.mono l1).mono (.trans .box (lw.trans l2))).wipe _
        refine Tgt.ok (ws := own.map (·.2)) s2.sub tg vx er2 q fun σ' e' w' => ⟨?_, ?_⟩
        · rw [w' hsl]
          apply List.ext_getElem?
          intro j
          rw [wipe_get, wipe_get]
          rw [wipe_length]
          by_cases hj : j ∈ own.map (·.2) ∧ j < σ.length
          · rw [if_pos hj, if_pos hj]
          · rw [if_neg hj, if_neg hj]
        have h' : RP X.K T W2 ((noEx (tst ρ1 S)).bind fun k S1' => (if k then (noEx (fe ρ1 S1')).bind fun u S2 => (match S2.objs S1.next with
          | some (.lst acc) => if acc.length < sizeLine then lcGo iv.src tg tst fe S1.next (wipeE ρ (own.map (·.2))) vs (S2.put S1.next (.lst (acc ++ [u]))) else .st
          | _ => .st) else lcGo iv.src tg tst fe S1.next (wipeE ρ (own.map (·.2))) vs S1').bind fun _ S2 => lcEnd bx S1.next S2) (VP X.K T Q) (fun H' c o => Ew c o σ H') := by
          have hh := h.wle l2
          cases qt : noEx (tst ρ1 S) with
          | ok k S' => simp only [qt, Res.bind] at hh ⊢; exact hh
          | ex c vs S' => simp only [qt, Res.bind] at hh ⊢; exact hh
          | st => simp only [qt, Res.bind] at hh ⊢; exact hh
        refine ⟨W2, ρ1, S, s2, e', (RP.bind h' fun W3 S3 H3 k l3 s3 h3 => ?_ : RP X.K T W2 (noEx (tst ρ1 S)) _ (fun H' c o => Ew c o σ H')).noEx⟩
        have lw3 : WLe (W1.box D) W3 := lw.trans (l2.trans l3)
        cases k with
        | false =>
          dsimp only at h3 ⊢
          rw [if_neg Bool.false_ne_true] at h3 ⊢
          exact ⟨W3, S3, vs, hd', rfl, lw3, s3, h3⟩
        | true =>
          dsimp only at h3 ⊢
          rw [if_pos rfl] at h3 ⊢
          have h4 : RP X.K T W3 ((noEx (fe ρ1 S3)).bind fun u S2 => (match S2.objs S1.next with
            | some (.lst acc) => if acc.length < sizeLine then lcGo iv.src tg tst fe S1.next (wipeE ρ (own.map fun (p : Str × Nat) => p.2)) vs (S2.put S1.next (.lst (acc ++ [u]))) else .st
            | _ => .st).bind fun _ S2 => lcEnd bx S1.next S2) (VP X.K T Q) (fun H' c o => Ew c o σ H') := by
            cases qt : noEx (fe ρ1 S3) with
            | ok k S' => simp only [qt, Res.bind] at h3 ⊢; exact h3
            | ex c vs S' => simp only [qt, Res.bind] at h3 ⊢; exact h3
            | st => simp only [qt, Res.bind] at h3 ⊢; exact h3
          refine ⟨W3, ρ1, S3, s3, e'.mono l3, (RP.bind h4 fun W4 S4 H4 u l4 s4 h5 yv vu => ?_ : RP X.K T W3 (noEx (fe ρ1 S3)) _ (fun H' c o => Ew c o σ H')).noEx⟩
          have lw4 : WLe (W1.box D) W4 := lw3.trans l4
          have wD4 : W4.m S1.next = D := (lw4.eq _ lD).trans eD
          cases q5 : S4.objs S1.next with
          | none => simp only [q5] at h5; exact False.elim h5
          | some b =>
            cases b with
            | lst acc =>
              simp only [q5] at h5
              by_cases hz : acc.length < sizeLine
              · rw [if_pos hz] at h5
                obtain ⟨xs, hx, r⟩ := s4.at_ _ _ q5
                rw [wD4] at hx
                refine ⟨xs, hx, by rw [← r.length]; exact hz, W4, S4.put S1.next (.lst (acc ++ [u])), vs, hd', rfl, lw4, ?_, h5⟩
                have sp := s4.put (o := .lst (xs ++ [yv])) (b' := .lst (acc ++ [u])) q5 ⟨xs ++ [yv], upd_same, r.append (.cons vu .nil)⟩
                rw [wD4] at sp
                exact sp
              · rw [if_neg hz] at h5; exact False.elim h5
            | _ => simp only [q5] at h5; exact False.elim h5
    · rw [if_neg hsrc] at h; exact False.elim h
theorem mts_nil : PTs X [] (rdT X.K T XW0 tYesM) := ⟨fun pins s σ H Q I h => pts_nil.run pins s σ H Q I (by
  obtain ⟨W, ρ, S, sr, er, h⟩ := h
  exact h.now sr)⟩
theorem mts_one (h : PTm T X XW0 c tst) : PTs X [c] (rdT X.K T XW0 tst) := pts_one h
theorem m_lc (hc : X.calm = true) (hN : X.N.Nodup) (hi : PIm T X Ew tgE iter it) (ok : BlkOk X.N X.env.scope scope own) (hsl : ∀ i ∈ tg.slots, i ∈ own.map (·.2))
    (hg : ∀ (s : Shared) (H : Hp) (C : Addr) (cl : List (Str × Addr)) (fp : List Addr), PG (X.blk s H scope (compEnvC scope cl C X.env) fp) tgE (tg.g X.K)) (ht : ∀ (s : Shared) (H : Hp) (C : Addr) (cl : List (Str × Addr)) (fp : List Addr), PTs (X.blk s H scope (compEnvC scope cl C X.env) fp) ifs (rdT X.K T XW0 tst))
    (he : ∀ (s : Shared) (H : Hp) (C : Addr) (cl : List (Str × Addr)) (fp : List Addr), PEm T (X.blk s H scope (compEnvC scope cl C X.env) fp) XW0 elt fe) (hs : ∀ x, foldedSetIterable iter X.env x = pure x := by intro _; rfl) :
    PEm T X Ew (.ListComp elt [⟨tgE, iter, ifs, 0⟩] scope pos) (eLc bx it tg tst fe (own.map (·.2))) :=
  PE.to (pe_lc hc hN hi ok hg ht he hs) fun _ _ _ h => rd_lc hsl h
/-- name = [..] where the name is stored within the comprehension's frame -/
theorem ms_setLc {i : Nat} {y : Str} {py : Pos} {spos : Pos} (hc : X.calm = true) (hN : X.N.Nodup) (hy : X.N[i]? = some y) (hyl : X.env.scope.names.lookup y = some .local)
    (hsw : swapsWith (.ListComp elt [⟨tgE, iter, ifs, 0⟩] scope pos) (some (.Name y py)) spos.line X.env = pure true) (hi : PIm T X Ew tgE iter it) (ok : BlkOk X.N X.env.scope scope own) (hsl : ∀ i ∈ tg.slots, i ∈ own.map (·.2))
    (hg : ∀ (s : Shared) (H : Hp) (C : Addr) (cl : List (Str × Addr)) (fp : List Addr), PG (X.blk s H scope (compEnvC scope cl C X.env) fp) tgE (tg.g X.K)) (ht : ∀ (s : Shared) (H : Hp) (C : Addr) (cl : List (Str × Addr)) (fp : List Addr), PTs (X.blk s H scope (compEnvC scope cl C X.env) fp) ifs (rdT X.K T XW0 tst))
    (he : ∀ (s : Shared) (H : Hp) (C : Addr) (cl : List (Str × Addr)) (fp : List Addr), PEm T (X.blk s H scope (compEnvC scope cl C X.env) fp) XW0 elt fe) (hs : ∀ x, foldedSetIterable iter X.env x = pure x := by intro _; rfl) :
    PSm T X Ew (.Assign [.Name y py] (.ListComp elt [⟨tgE, iter, ifs, 0⟩] scope pos) spos) (sSet i (eLc bx it tg tst fe (own.map (·.2)))) := by
  refine PS.to (ps_setLc (te := rdE X.K T XW0 fe) hc hN hy hyl hsw hi ok hg ht he hs) fun D σ H ⟨W, ρ, S, sr, er, h⟩ => ?_
  refine rd_lc (Ew := Ew) (bx := bx) hsl ⟨W, ρ, S, sr, er, SPo.of er h fun W1 S1 H1 v l s1 h1 x vx => ?_⟩
  exact h1 W1 H1 _ (.refl _) s1 ((er.mono l).set vx)
end
end PM

/-! PM, part f: what is walked, built-in functions and methods -/
namespace PM
open PySem PySem.Spec L2

/-! ### iterators -/
def seqIt (v : Val) (S : Sto) : Res ItV := match v with
  | .tup xs => .ok ⟨xs, fun _ => True⟩ S
  | .lst xs => .ok ⟨xs, fun _ => True⟩ S
  | .fz xs => .ok ⟨xs, fun _ => True⟩ S
  | .loc k => match S.objs k with
    | some (.lst xs) => .ok ⟨xs, fun S' => S'.objs k = some (.lst xs)⟩ S
    | _ => .st
  | _ => .st
def iSeq (f : EM) : IM := fun ρ S => (f ρ S).bind seqIt
def rangeL (lo : Int) (n : Nat) : List Val := (List.range n).map fun (i : Nat) => Val.int (lo + (i : Int))
def iRange1 (a : EM) : IM := fun ρ S => (a ρ S).bind fun v S1 => match v with
  | .int j => if -(2 ^ 62) ≤ j ∧ j < 2 ^ 62 then .ok ⟨rangeL 0 j.toNat, fun _ => True⟩ S1 else .st
  | _ => .st
def iRange2 (a b : EM) : IM := fun ρ S => (a ρ S).bind fun v S1 => (b ρ S1).bind fun w S2 => match v, w with
  | .int i, .int j => if -(2 ^ 62) ≤ i ∧ i < 2 ^ 62 ∧ -(2 ^ 62) ≤ j ∧ j < 2 ^ 62 then .ok ⟨rangeL i (j - i).toNat, fun _ => True⟩ S2 else .st
  | _, _ => .st
def iRev (f : EM) : IM := fun ρ S => (f ρ S).bind fun v S1 => match v with
  | .lst xs => .ok ⟨xs.reverse, fun _ => True⟩ S1
  | .fz xs => .ok ⟨xs.reverse, fun _ => True⟩ S1
  | .loc k => (match S1.objs k with
    | some (.lst xs) => .ok ⟨xs.reverse, fun S' => S'.objs k = some (.lst xs)⟩ S1
    | _ => .st)
  | _ => .st
def zipE (vs : List Val) : List Val := vs.zipIdx.map fun p => Val.tup [.int (p.2 : Nat), p.1]
def iEnumM (f : EM) : IM := fun ρ S => (f ρ S).bind fun v S1 => match v with
  | .lst xs => .ok ⟨zipE xs, fun _ => True⟩ S1
  | .fz xs => .ok ⟨zipE xs, fun _ => True⟩ S1
  | .loc k => (match S1.objs k with
    | some (.lst xs) => .ok ⟨zipE xs, fun S' => S'.objs k = some (.lst xs)⟩ S1
    | _ => .st)
  | _ => .st
section
variable {K : PySem.W.Frag} {T : Tbl} {W : Wd} {S : Sto} {H : Hp}
/-- a readable list: by a fixed one, or by the store -/
theorem list_src (s : SR K T W S H) {v : Val} {x : V} (r : VR K T W v x) {xs : List Val} {src : Sto → Prop}
    (h : (v = .lst xs ∧ src = fun _ => True) ∨ (v = .fz xs ∧ src = fun _ => True) ∨ ∃ k, v = .loc k ∧ S.objs k = some (.lst xs) ∧ src = fun S' => S'.objs k = some (.lst xs)) :
    ∃ a, x = .ref a ∧ (∃ ys, SqL K H a ys ∧ ys.length = xs.length) ∧ ∀ W' S' H', WLe W W' → SR K T W' S' H' → src S' → ∃ ys, SqL K H' a ys ∧ VRs K T W' xs ys := by
  rcases h with ⟨rfl, rfl⟩ | ⟨rfl, rfl⟩ | ⟨k, rfl, e, rfl⟩
  · cases r with
    | lst h r => exact ⟨_, rfl, ⟨_, .inl (.inl (s.sub _ _ h)), r.length.symm⟩, fun W' S' H' l s' _ => ⟨_, .inl (.inl (s'.sub _ _ (l.sub _ _ h))), r.mono l⟩⟩
  · cases r with
    | fz h r => exact ⟨_, rfl, ⟨_, SqL_mono s.sub h, r.length.symm⟩, fun W' S' H' l s' _ => ⟨_, SqL_mono (fun a o q => s'.sub a o (l.sub a o q)) h, r.mono l⟩⟩
  · cases r with
    | loc hk =>
      obtain ⟨ys, hy, r⟩ := locLst s e
      refine ⟨_, rfl, ⟨ys, .inl (.inl hy), r.length.symm⟩, fun W' S' H' l s' e' => ?_⟩
      obtain ⟨zs, hz, r'⟩ := locLst s' e'
      rw [l.eq k hk] at hz
      exact ⟨zs, .inl (.inl hz), r'⟩
theorem itl_ok {a : Addr} {xs : List Val} {src : Sto → Prop} (h : ∀ W' S' H', WLe W W' → SR K T W' S' H' → src S' → ∃ ys, SqL K H' a ys ∧ VRs K T W' xs ys) : ItOk K T W ⟨xs, src⟩ (Itl K a) := by
  intro W' S' H' l s' hs i
  obtain ⟨ys, hy, r⟩ := h W' S' H' l s' hs
  refine ⟨fun v hv => ?_, fun hn => ⟨ys, hy, ?_⟩⟩
  · obtain ⟨y, e, vy⟩ := r.get hv
    refine ⟨⟨ys, y, hy, e⟩, fun x H'' q => ?_⟩
    obtain ⟨rfl, q⟩ := q
    have := q ys hy
    rw [e] at this
    cases this
    exact ⟨W', .refl _, s', vy⟩
  · rw [← r.length]
    exact List.getElem?_eq_none_iff.mp hn
theorem itt_ok {a : Addr} {xs : List Val} {ys : List V} (hy : SqT K W.I a ys) (r : VRs K T W xs ys) : ItOk K T W ⟨xs, fun _ => True⟩ (Itt K a) := by
  intro W' S' H' l s' hs i
  have hy' : SqT K H' a ys := SqT_mono (fun a o q => s'.sub a o (l.sub a o q)) hy
  refine ⟨fun v hv => ?_, fun hn => ⟨ys, hy', ?_⟩⟩
  · obtain ⟨y, e, vy⟩ := r.get hv
    refine ⟨⟨ys, y, hy', e⟩, fun x H'' q => ?_⟩
    obtain ⟨rfl, q⟩ := q
    have := q ys hy'
    rw [e] at this
    cases this
    exact ⟨W', .refl _, s', vy.mono l⟩
  · rw [← r.length]
    exact List.getElem?_eq_none_iff.mp hn
theorem rangeL_get (lo : Int) (n i : Nat) : (rangeL lo n)[i]? = if i < n then some (.int (lo + (i : Int))) else none := by
  unfold rangeL
  rw [List.getElem?_map]
  by_cases h : i < n
  · rw [List.getElem?_range h, if_pos h]; rfl
  · rw [List.getElem?_eq_none (by rw [List.length_range]; omega), if_neg h]; rfl
theorem itr_ok (lo : Int) (n : Nat) : ItOk K T W ⟨rangeL lo n, fun _ => True⟩ (Itr lo n) := by
  intro W' S' H' l s' hs i
  show (∀ v, (rangeL lo n)[i]? = some v → _) ∧ ((rangeL lo n)[i]? = none → _)
  rw [rangeL_get]
  by_cases h : i < n
  · rw [if_pos h]
    refine ⟨fun v hv => ?_, fun hn => (by cases hn)⟩
    cases hv
    refine ⟨h, fun x H'' q => ?_⟩
    obtain ⟨e1, e2⟩ := (show H'' = H' ∧ x = .int (lo + i) from q)
    subst e1 e2
    exact ⟨W', .refl _, s', .int _⟩
  · rw [if_neg h]
    exact ⟨fun v hv => (by cases hv), fun _ => Nat.le_of_not_lt h⟩
theorem itv_ok {a : Addr} {xs : List Val} {n : Nat} (hn : n = xs.length) {src : Sto → Prop} (h : ∀ W' S' H', WLe W W' → SR K T W' S' H' → src S' → ∃ ys, SqL K H' a ys ∧ VRs K T W' xs ys) : ItOk K T W ⟨xs.reverse, src⟩ (Itv K a n) := by
  intro W' S' H' l s' hs i
  obtain ⟨ys, hy, r⟩ := h W' S' H' l s' hs
  subst hn
  refine ⟨fun v hv => ?_, fun hq => ?_⟩
  · have hi : i < xs.length := by
      have := (List.getElem?_eq_some_iff.mp hv).1
      simpa using this
    have hv' : xs.reverse[i]? = some v := hv
    rw [List.getElem?_reverse hi] at hv'
    obtain ⟨y, e, vy⟩ := r.get hv'
    refine ⟨⟨hi, ys, y, hy, e⟩, fun x H'' q => ?_⟩
    obtain ⟨rfl, q⟩ := q
    have := q ys hy
    rw [e] at this
    cases this
    exact ⟨W', .refl _, s', vy⟩
  · have := List.getElem?_eq_none_iff.mp (show xs.reverse[i]? = none from hq)
    show xs.length ≤ i
    simpa using this
theorem ite_ok {a : Addr} {xs : List Val} {src : Sto → Prop} (h : ∀ W' S' H', WLe W W' → SR K T W' S' H' → src S' → ∃ ys, SqL K H' a ys ∧ VRs K T W' xs ys) : ItOk K T W ⟨zipE xs, src⟩ (Ite K a) := by
  intro W' S' H' l s' hs i
  obtain ⟨ys, hy, r⟩ := h W' S' H' l s' hs
  have hg : (zipE xs)[i]? = (xs[i]?).map fun v => Val.tup [.int (i : Nat), v] := by
    unfold zipE
    rw [List.getElem?_map, List.getElem?_zipIdx]
    cases xs[i]? <;> simp
  refine ⟨fun v hv => ?_, fun hq => ⟨ys, hy, ?_⟩⟩
  · have hv' : (zipE xs)[i]? = some v := hv
    rw [hg] at hv'
    cases e0 : xs[i]? with
    | none => rw [e0] at hv'; cases hv'
    | some u =>
      rw [e0] at hv'
      cases hv'
      obtain ⟨y, e, vy⟩ := r.get e0
      refine ⟨⟨ys, y, hy, e⟩, fun x H'' q => ?_⟩
      obtain ⟨p, z, rfl, hp, rfl, q⟩ := q
      have := q ys hy
      rw [e] at this
      cases this
      have l2 : WLe W' (W'.add p (.tup [.int (i : Nat), y])) := .add (s'.free hp)
      exact ⟨_, l2, s'.add hp, .tup (.inl (.inl upd_same)) (.cons (.int _) (.cons (vy.mono l2) .nil))⟩
  · have hq' : (zipE xs)[i]? = none := hq
    rw [hg] at hq'
    rw [← r.length]
    cases e0 : xs[i]? with
    | none => exact List.getElem?_eq_none_iff.mp e0
    | some u => rw [e0] at hq'; cases hq'
end
section
variable {T : Tbl} {X : Cx} {Ew : XW} {tg e a b : Expr} {f fa fb : EM} {p pos : Pos}
/-- list or tuple -/
theorem pi_seq {te : TE} (hl : PE X e te) : PI X tg e (fun σ H R => te σ H fun x H1 => ∃ a, x = .ref a ∧ (((∃ xs, SqL X.K H1 a xs) ∧ R (Itl X.K a) H1) ∨ ((∃ xs, SqT X.K H1 a xs) ∧ R (Itt X.K a) H1))) := by
  refine ⟨fun pins s σ H R I h => ?_⟩
  refine thn (hl.run pins s σ H _ I h) fun v s1 ⟨x, H1, I1, r1, q1⟩ => ?_
  obtain ⟨a, e, q⟩ := q1
  subst e
  cases r1
  rcases q with ⟨⟨xs, hq⟩, q⟩ | ⟨⟨xs, hq⟩, q⟩
  · obtain ⟨its, rv, p, hz⟩ := I1.list hq
    refine wpAny_pyIter_list p.isList ?_
    refine ⟨s1.heap.objs.size, [s1.heap.objs.size], _, _, H1, rfl, I1.kept (t' := s1.toks) fun b o e => Heap.get?_push_of_some _ e, turn_list a _, ⟨_, Heap.get?_push_size _ rfl, rfl, rfl⟩, fun b hb => ?_, q⟩
    have e : b = s1.heap.objs.size := by simpa using hb
    subst e
    exact I1.fpOk (Nat.le_refl _) (I1.hok.fresh (Nat.le_refl _))
  · obtain ⟨its, rv, p, hz⟩ := I1.tuple hq
    refine wpAny_pyIter_tuple (show s1.heap.IsTuple a its.toArray from p) ?_
    refine ⟨s1.heap.objs.size, [s1.heap.objs.size], _, _, H1, rfl, I1.kept (t' := s1.toks) fun b o e => Heap.get?_push_of_some _ e, turn_tuple a _, ⟨_, Heap.get?_push_size _ rfl, rfl, rfl⟩, fun b hb => ?_, q⟩
    have e : b = s1.heap.objs.size := by simpa using hb
    subst e
    exact I1.fpOk (Nat.le_refl _) (I1.hok.fresh (Nat.le_refl _))
theorem i_seq (h : PEm T X Ew e f) : PIm T X Ew tg e (iSeq f) := by
  refine PI.to (pi_seq h) fun σ H R h => ?_
  obtain ⟨W, ρ, S, s, er, h⟩ := h
  refine ⟨W, ρ, S, s, er, RP.bind h fun W1 S1 H1 v l1 s1 h1 x vx => ?_⟩
  cases v with
  | tup xs =>
    cases vx with
    | tup hy r => exact ⟨_, rfl, .inr ⟨⟨_, SqT_mono s1.sub hy⟩, h1.now s1 _ (itt_ok hy r)⟩⟩
  | lst xs =>
    obtain ⟨a, rfl, ⟨ys, hy, _⟩, q⟩ := list_src s1 vx (.inl ⟨rfl, rfl⟩)
    exact ⟨a, rfl, .inl ⟨⟨ys, hy⟩, h1.now s1 _ (itl_ok q)⟩⟩
  | fz xs =>
    obtain ⟨a, rfl, ⟨ys, hy, _⟩, q⟩ := list_src s1 vx (.inr (.inl ⟨rfl, rfl⟩))
    exact ⟨a, rfl, .inl ⟨⟨ys, hy⟩, h1.now s1 _ (itl_ok q)⟩⟩
  | loc k =>
    unfold seqIt at h1
    cases q0 : S1.objs k with
    | none => simp only [q0] at h1; exact False.elim h1
    | some o =>
      cases o with
      | lst xs =>
        simp only [q0] at h1
        obtain ⟨a, rfl, ⟨ys, hy, _⟩, q⟩ := list_src s1 vx (.inr (.inr ⟨k, rfl, q0, rfl⟩))
        exact ⟨a, rfl, .inl ⟨⟨ys, hy⟩, h1.now s1 _ (itl_ok q)⟩⟩
      | _ => simp only [q0] at h1; exact False.elim h1
  | _ => exact False.elim h1
theorem i_range1 (hg : Gl X "range") (hm : X.mg "range" = none) (ha : PEm T X Ew a fa) (hs : starEach [a] X.env = [(false, eval a X.env)] := by rfl) : PIm T X Ew tg (.Call (.Name "range" p) [a] [] pos) (iRange1 fa) := by
  refine PI.to (pi_range1 (ta := rdA X.K T Ew (aCons fa aNil)) hg hm (ma_cons ha ma_nil hs) hs) fun σ H R h => ?_
  obtain ⟨W, ρ, S, s, er, h⟩ := h
  refine ⟨W, ρ, S, s, er, ?_⟩
  unfold iRange1 at h
  unfold aCons
  cases q : fa ρ S with
  | st => rw [q] at h; exact h
  | ex c vs S' => rw [q] at h; exact h
  | ok v S' =>
    rw [q] at h
    intro W1 H1 l1 s1 xs vxs
    have h1 := RP.wle l1 h
    cases vxs with
    | cons vx rr =>
      cases rr
      cases vx with
      | int j =>
        have h2 : RP X.K T W1 (if -(2 ^ 62) ≤ j ∧ j < 2 ^ 62 then Res.ok (⟨rangeL 0 j.toNat, fun _ => True⟩ : ItV) S' else .st) _ _ := h1
        by_cases c : -(2 ^ 62) ≤ j ∧ j < 2 ^ 62
        · rw [if_pos c] at h2
          exact ⟨j, rfl, c.1, c.2, h2.now s1 _ (itr_ok 0 j.toNat)⟩
        · rw [if_neg c] at h2; exact False.elim h2
      | _ => exact False.elim h1
theorem i_range2 (hg : Gl X "range") (hm : X.mg "range" = none) (ha : PEm T X Ew a fa) (hb : PEm T X Ew b fb) (hs : starEach [a, b] X.env = [(false, eval a X.env), (false, eval b X.env)] := by rfl) (hs1 : starEach [b] X.env = (false, eval b X.env) :: starEach [] X.env := by rfl) : PIm T X Ew tg (.Call (.Name "range" p) [a, b] [] pos) (iRange2 fa fb) := by
  refine PI.to (pi_range2 (ta := rdA X.K T Ew (aCons fa (aCons fb aNil))) hg hm (ma_cons ha (ma_cons hb ma_nil hs1) (by rw [hs, hs1]; rfl)) hs hs1) fun σ H R h => ?_
  obtain ⟨W, ρ, S, s, er, h⟩ := h
  refine ⟨W, ρ, S, s, er, ?_⟩
  unfold iRange2 at h
  unfold aCons
  cases q : fa ρ S with
  | st => rw [q] at h; exact h
  | ex c vs S' => rw [q] at h; exact h
  | ok v S' =>
    rw [q] at h
    show RP X.K T W (((fb ρ S').bind fun w S2 => (aNil ρ S2).bind fun vs S3 => .ok (w :: vs) S3).bind fun vs S2 => .ok (v :: vs) S2) _ _
    have h' : RP X.K T W ((fb ρ S').bind fun w S2 => match v, w with
      | .int i, .int j => if -(2 ^ 62) ≤ i ∧ i < 2 ^ 62 ∧ -(2 ^ 62) ≤ j ∧ j < 2 ^ 62 then Res.ok (⟨rangeL i (j - i).toNat, fun _ => True⟩ : ItV) S2 else .st
      | _, _ => .st) (fun W' x H' iv => ∀ (J : It), ItOk X.K T W' iv J → R J H') (fun H' c o => Ew c o σ H') := h
    cases q2 : fb ρ S' with
    | st => rw [q2] at h'; exact h'
    | ex c vs S' => rw [q2] at h'; exact h'
    | ok w S2 =>
      rw [q2] at h'
      intro W1 H1 l1 s1 xs vxs
      have h1 := RP.wle l1 h'
      cases vxs with
      | cons vx rr =>
        cases rr with
        | cons vy rr =>
          cases rr
          cases vx with
          | int i =>
            cases vy with
            | int j =>
              have h2 : RP X.K T W1 (if -(2 ^ 62) ≤ i ∧ i < 2 ^ 62 ∧ -(2 ^ 62) ≤ j ∧ j < 2 ^ 62 then Res.ok (⟨rangeL i (j - i).toNat, fun _ => True⟩ : ItV) S2 else .st) _ _ := h1
              by_cases c : -(2 ^ 62) ≤ i ∧ i < 2 ^ 62 ∧ -(2 ^ 62) ≤ j ∧ j < 2 ^ 62
              · rw [if_pos c] at h2
                exact ⟨i, j, rfl, c, h2.now s1 _ (itr_ok i _)⟩
              · rw [if_neg c] at h2; exact False.elim h2
            | _ => exact False.elim h1
          | _ => exact False.elim h1
theorem one_of {W : Wd} {ρ : Ev} {S : Sto} {P : Wd → Sto → Hp → ItV → Prop} {g : Val → Sto → Res ItV} {R : List V → Hp → Prop} {σ : L2.St} (h : RP X.K T W ((f ρ S).bind g) P (fun H' c o => Ew c o σ H'))
    (i : ∀ W' S' H' v x, WLe W W' → SR X.K T W' S' H' → RP X.K T W' (g v S') P (fun H' c o => Ew c o σ H') → VR X.K T W' v x → R [x] H') : RP X.K T W (aCons f aNil ρ S) (fun W' _ H' vs => ∀ xs, VRs X.K T W' vs xs → R xs H') (fun H' c o => Ew c o σ H') := by
  unfold aCons
  cases q : f ρ S with
  | st => rw [q] at h; exact h
  | ex c vs S' => rw [q] at h; exact h
  | ok v S' =>
    rw [q] at h
    intro W1 H1 l1 s1 xs vxs
    cases vxs with
    | cons vx rr =>
      cases rr
      exact i W1 S' H1 v _ l1 s1 (RP.wle l1 h) vx
theorem i_rev (hg : Gl X "reversed") (hm : X.mg "reversed" = none) (ha : PEm T X Ew e f) (hs : starEach [e] X.env = [(false, eval e X.env)] := by rfl) : PIm T X Ew tg (.Call (.Name "reversed" p) [e] [] pos) (iRev f) := by
  refine PI.to (pi_reversed (ta := rdA X.K T Ew (aCons f aNil)) hg hm (ma_cons ha ma_nil hs) hs) fun σ H R h => ?_
  obtain ⟨W, ρ, S, s, er, h⟩ := h
  refine ⟨W, ρ, S, s, er, one_of (R := fun vs H1 => ∃ (a : Addr) (xs : List V), vs = [.ref a] ∧ SqL X.K H1 a xs ∧ R (Itv X.K a xs.length) H1) h fun W1 S1 H1 v x l1 s1 h1 vx => ?_⟩
  cases v with
  | lst xs =>
    obtain ⟨a, rfl, ⟨ys, hy, hl⟩, q⟩ := list_src s1 vx (.inl ⟨rfl, rfl⟩)
    exact ⟨a, ys, rfl, hy, h1.now s1 _ (itv_ok hl q)⟩
  | fz xs =>
    obtain ⟨a, rfl, ⟨ys, hy, hl⟩, q⟩ := list_src s1 vx (.inr (.inl ⟨rfl, rfl⟩))
    exact ⟨a, ys, rfl, hy, h1.now s1 _ (itv_ok hl q)⟩
  | loc k =>
    simp only at h1
    cases q0 : S1.objs k with
    | none => simp only [q0] at h1; exact False.elim h1
    | some o =>
      cases o with
      | lst xs =>
        simp only [q0] at h1
        obtain ⟨a, rfl, ⟨ys, hy, hl⟩, q⟩ := list_src s1 vx (.inr (.inr ⟨k, rfl, q0, rfl⟩))
        exact ⟨a, ys, rfl, hy, h1.now s1 _ (itv_ok hl q)⟩
      | _ => simp only [q0] at h1; exact False.elim h1
  | _ => exact False.elim h1
theorem i_enum {tpos : Pos} {elts : List Expr} {kk : Nat} (hg : Gl X "enumerate") (hm : X.mg "enumerate" = none) (ha : PEm T X Ew e f) (hs : starEach [e] X.env = [(false, eval e X.env)] := by rfl) : PIm T X Ew (.Tuple elts kk tpos) (.Call (.Name "enumerate" p) [e] [] pos) (iEnumM f) := by
  refine PI.to (pi_enum (ta := rdA X.K T Ew (aCons f aNil)) hg hm (ma_cons ha ma_nil hs) hs) fun σ H R h => ?_
  obtain ⟨W, ρ, S, s, er, h⟩ := h
  refine ⟨W, ρ, S, s, er, one_of (R := fun vs H1 => ∃ (a : Addr) (xs : List V), vs = [.ref a] ∧ SqL X.K H1 a xs ∧ R (Ite X.K a) H1) h fun W1 S1 H1 v x l1 s1 h1 vx => ?_⟩
  cases v with
  | lst xs =>
    obtain ⟨a, rfl, ⟨ys, hy, hl⟩, q⟩ := list_src s1 vx (.inl ⟨rfl, rfl⟩)
    exact ⟨a, ys, rfl, hy, h1.now s1 _ (ite_ok q)⟩
  | fz xs =>
    obtain ⟨a, rfl, ⟨ys, hy, hl⟩, q⟩ := list_src s1 vx (.inr (.inl ⟨rfl, rfl⟩))
    exact ⟨a, ys, rfl, hy, h1.now s1 _ (ite_ok q)⟩
  | loc k =>
    simp only at h1
    cases q0 : S1.objs k with
    | none => simp only [q0] at h1; exact False.elim h1
    | some o =>
      cases o with
      | lst xs =>
        simp only [q0] at h1
        obtain ⟨a, rfl, ⟨ys, hy, hl⟩, q⟩ := list_src s1 vx (.inr (.inr ⟨k, rfl, q0, rfl⟩))
        exact ⟨a, ys, rfl, hy, h1.now s1 _ (ite_ok q)⟩
      | _ => simp only [q0] at h1; exact False.elim h1
  | _ => exact False.elim h1
end

/-! ### tests by truth -/
def truOf (S : Sto) : Val → Option Bool
  | .non => some false
  | .bl b => some b
  | .int i => some (i != 0)
  | .str y => if y.length ≤ sizeLine then some ((y.length : Int) != 0) else none
  | .tup xs => some (!xs.isEmpty)
  | v => (lstOf S v).map fun xs => !xs.isEmpty
def tTru (f : EM) : BM := fun ρ S => (f ρ S).bind fun v S1 => match truOf S1 v with
  | some c => .ok c S1
  | none => .st
section
variable {T : Tbl} {X : Cx} {Ew : XW} {e : Expr} {f : EM}
theorem isEmpty_vr {K : PySem.W.Frag} {W : Wd} {vs : List Val} {xs : List V} (r : VRs K T W vs xs) : vs.isEmpty = xs.isEmpty := by cases r <;> rfl
theorem tru_vr {W : Wd} {S : Sto} {H : Hp} {v : Val} {x : V} {c : Bool} (s : SR X.K T W S H) (r : VR X.K T W v x) (h : truOf S v = some c) : TruV X.K x H c := by
  have lists : ∀ {v : Val} {x : V}, VR X.K T W v x → (lstOf S v).map (fun xs => !xs.isEmpty) = some c → TruV X.K x H c := fun {v x} r h => by
    cases q : lstOf S v with
    | none => rw [q] at h; cases h
    | some xs =>
      rw [q] at h
      cases h
      obtain ⟨a, ys, rfl, hy, ry⟩ := lstOf_ok s r q
      exact .inl ⟨ys, hy, by show (!xs.isEmpty) = _; rw [isEmpty_vr ry]⟩
  cases v with
  | non => cases r; cases h; exact rfl
  | bl b => cases r; cases h; exact rfl
  | int b => cases r; cases h; exact rfl
  | str y =>
    cases r
    unfold truOf at h
    simp only at h
    by_cases hz : y.length ≤ sizeLine
    · rw [if_pos hz] at h; cases h; exact ⟨hz, rfl⟩
    · rw [if_neg hz] at h; cases h
  | tup xs =>
    cases h
    obtain ⟨a, ys, rfl, hy, ry⟩ := tup_ok s r
    exact .inr (.inl ⟨ys, hy, by rw [isEmpty_vr ry]⟩)
  | _ => exact lists r h
theorem mt_tru (h : PEm T X Ew e f) (he : ∀ whole, isTrue e X.env whole = (do let v ← whole; standAt e.pos; holding [v] (truthy v)) := by intro _; rfl) : PTm T X Ew e (tTru f) := by
  refine PT.to (pt_truth h he) fun σ H Q h => ?_
  obtain ⟨W, ρ, S, s, er, h⟩ := h
  refine ⟨W, ρ, S, s, er, RP.bind h fun W1 S1 H1 v l1 s1 h1 x vx => ?_⟩
  cases q : truOf S1 v with
  | none => rw [q] at h1; exact False.elim h1
  | some c => rw [q] at h1; exact ⟨c, tru_vr s1 vx q, h1.now s1⟩
end

/-! ### built-in functions -/
def vLen (vs : List Val) (S : Sto) : Res Val := match vs with
  | [.str y] => if y.length ≤ sizeLine then .ok (.int (y.length : Nat)) S else .st
  | [.tup xs] => .ok (.int (xs.length : Nat)) S
  | [v] => match lstOf S v with
    | some xs => .ok (.int (xs.length : Nat)) S
    | none => .st
  | _ => .st
def vAbs (vs : List Val) (S : Sto) : Res Val := match vs with
  | [.int i] => .ok (.int (if i < 0 then -i else i)) S
  | _ => .st
def vMin2 (vs : List Val) (S : Sto) : Res Val := match vs with
  | [.int i, .int j] => .ok (.int (if j < i then j else i)) S
  | _ => .st
def vMax2 (vs : List Val) (S : Sto) : Res Val := match vs with
  | [.int i, .int j] => .ok (.int (if j > i then j else i)) S
  | _ => .st
def vInt (vs : List Val) (S : Sto) : Res Val := match vs with
  | [.int i] => .ok (.int i) S
  | [.bl k] => .ok (.int (if k then 1 else 0)) S
  | _ => .st
def vList (bx : Bool) (vs : List Val) (S : Sto) : Res Val := match vs with
  | [.tup xs] => mkL bx xs S
  | [v] => match lstOf S v with
    | some xs => mkL bx xs S
    | none => .st
  | _ => .st
def vTuple (vs : List Val) (S : Sto) : Res Val := match vs with
  | [.tup xs] => .ok (.tup xs) S
  | [v] => match lstOf S v with
    | some xs => .ok (.tup xs) S
    | none => .st
  | _ => .st
/-- the class of a value -/
def tagOf (S : Sto) : Val → Option Tg
  | .non => some .non
  | .bl _ => some .bl
  | .int _ => some .int
  | .str _ => some .str
  | .tup _ => some .tup
  | .lst _ => some .lst
  | .loc k => match S.objs k with
    | some (.lst _) => some .lst
    | some (.dk false _ _) => some .dct
    | some (.dt false _ _) => some .dct
    | _ => none
  | .dk _ _ => some .dct
  | .dt _ _ => some .dct
  | _ => none
def isA (t n : Tg) : Bool := t = n || (t = .bl && n = .int)
def vIsi (vs : List Val) (S : Sto) : Res Val := match vs with
  | [v, .ty n] => match tagOf S v with
    | some t => .ok (.bl (isA t n)) S
    | none => .st
  | _ => .st
theorem kit_tag : ∀ t n : Tg, kitB t.nm n.nm = some (isA t n) := by
  intro t n
  cases t <;> cases n <;> decide +kernel
section
variable {K : PySem.W.Frag} {T : Tbl}
theorem tagOf_ok {W : Wd} {S : Sto} {H : Hp} {v : Val} {x : V} {t : Tg} (s : SR K T W S H) (r : VR K T W v x) (h : tagOf S v = some t) : TyX K H x (.type t.nm) := by
  cases r with
  | non => cases h; exact .base .non
  | bl b => cases h; exact .base (.bl b)
  | int b => cases h; exact .base (.int b)
  | str b => cases h; exact .base (.str b)
  | tup hy r =>
    cases h
    rcases hy with (hy | ⟨o, hy⟩) | ⟨o, its, n, hk, hc, _⟩
    · exact .base (.tup (s.sub _ _ hy))
    · exact .fTuple (s.sub _ _ hy)
    · exact .kTuple hk hc
  | lst hy r => cases h; exact .base (.lst (s.sub _ _ hy))
  | dk hl hy r => cases h; exact .base (.dK (s.sub _ _ hy))
  | dt hl hy r => cases h; exact .base (.dT (s.sub _ _ hy))
  | @loc k hk =>
    unfold tagOf at h
    cases q : S.objs k with
    | none => simp only [q] at h; cases h
    | some b =>
      have A := s.at_ k b q
      cases b with
      | lst xs =>
        simp only [q] at h; cases h
        obtain ⟨ys, hy, _⟩ := A
        exact .base (.lst hy)
      | dk lk ks vs =>
        cases lk with
        | true => simp only [q] at h; cases h
        | false =>
          simp only [q] at h; cases h
          obtain ⟨ys, _, hy, _⟩ := A
          rw [if_neg Bool.false_ne_true] at hy
          exact .base (.dK hy)
      | dt lk ks vs =>
        cases lk with
        | true => simp only [q] at h; cases h
        | false =>
          simp only [q] at h; cases h
          obtain ⟨ys, _, hy, _⟩ := A
          rw [if_neg Bool.false_ne_true] at hy
          exact .base (.dT hy)
      | ins c vs => simp only [q] at h; cases h
  | _ => cases h
theorem l_isi : OpL K T (rIsi K) vIsi := by
  intro W S H vs xs Q PX s r q
  unfold vIsi at q
  split at q
  · rename_i v n
    cases r with
    | cons r1 r2 =>
      cases r2 with
      | cons r3 r4 =>
        cases r4
        cases r3
        cases e : tagOf S v with
        | none => rw [e] at q; exact False.elim q
        | some t =>
          rw [e] at q
          exact ⟨_, _, _, _, _, rfl, .ty _, tagOf_ok s r1 e, kit_ty (kit_tag t n), q.now s _ (.bl _)⟩
  · exact False.elim q
theorem l_len : OpL K T (fun xs H Q => ∃ x n, xs = [x] ∧ LenV K x H n ∧ Q (.int n) H) vLen := by
  intro W S H vs xs Q PX s r q
  have lists : ∀ {v : Val} {xs : List V}, VRs K T W [v] xs → RP K T W (match lstOf S v with
    | some xs => .ok (.int (xs.length : Nat)) S
    | none => .st) (VP K T Q) PX → ∃ x n, xs = [x] ∧ LenV K x H n ∧ Q (.int n) H := fun {v xs} r q => by
    cases r with
    | cons r1 r2 =>
      cases r2
      cases e : lstOf S v with
      | none => rw [e] at q; exact False.elim q
      | some ys =>
        rw [e] at q
        obtain ⟨a, zs, rfl, hz, rz⟩ := lstOf_ok s r1 e
        exact ⟨_, ys.length, rfl, .inl ⟨zs, hz, rz.length⟩, q.now s _ (.int _)⟩
  cases vs with
  | nil => exact False.elim q
  | cons v vs =>
    cases vs with
    | cons _ _ => cases v <;> exact False.elim q
    | nil =>
      cases v with
      | str y =>
        cases r with
        | cons r1 r2 =>
          cases r2
          cases r1
          unfold vLen at q
          simp only at q
          by_cases hz : y.length ≤ sizeLine
          · rw [if_pos hz] at q; exact ⟨_, y.length, rfl, ⟨hz, rfl⟩, q.now s _ (.int _)⟩
          · rw [if_neg hz] at q; exact False.elim q
      | tup ys =>
        cases r with
        | cons r1 r2 =>
          cases r2
          obtain ⟨a, zs, rfl, hz, rz⟩ := tup_ok s r1
          exact ⟨_, ys.length, rfl, .inr ⟨zs, hz, rz.length⟩, q.now s _ (.int _)⟩
      | _ => exact lists r q
theorem l_abs : OpL K T (fun xs H Q => ∃ i, xs = [.int i] ∧ Q (.int (if i < 0 then -i else i)) H) vAbs := by
  intro W S H vs xs Q PX s r q
  unfold vAbs at q
  split at q
  · cases r with
    | cons r1 r2 => cases r2; cases r1; exact ⟨_, rfl, q.now s _ (.int _)⟩
  · exact False.elim q
theorem l_min2 : OpL K T (fun xs H Q => ∃ i j, xs = [.int i, .int j] ∧ Q (.int (if j < i then j else i)) H) vMin2 := by
  intro W S H vs xs Q PX s r q
  unfold vMin2 at q
  split at q
  · cases r with
    | cons r1 r2 => cases r2 with
      | cons r3 r4 => cases r4; cases r1; cases r3; exact ⟨_, _, rfl, q.now s _ (.int _)⟩
  · exact False.elim q
theorem l_max2 : OpL K T (fun xs H Q => ∃ i j, xs = [.int i, .int j] ∧ Q (.int (if j > i then j else i)) H) vMax2 := by
  intro W S H vs xs Q PX s r q
  unfold vMax2 at q
  split at q
  · cases r with
    | cons r1 r2 => cases r2 with
      | cons r3 r4 => cases r4; cases r1; cases r3; exact ⟨_, _, rfl, q.now s _ (.int _)⟩
  · exact False.elim q
theorem l_int : OpL K T (fun xs H Q => (∃ i, xs = [.int i] ∧ Q (.int i) H) ∨ ∃ k, xs = [.bl k] ∧ Q (.int (if k then 1 else 0)) H) vInt := by
  intro W S H vs xs Q PX s r q
  unfold vInt at q
  split at q
  · cases r with
    | cons r1 r2 => cases r2; cases r1; exact .inl ⟨_, rfl, q.now s _ (.int _)⟩
  · cases r with
    | cons r1 r2 => cases r2; cases r1; exact .inr ⟨_, rfl, q.now s _ (.int _)⟩
  · exact False.elim q
theorem l_list (bx : Bool) : OpL K T (fun xs H Q => ∃ p ys, xs = [.ref p] ∧ (SqL K H p ys ∨ SqT K H p ys) ∧ ∀ l, H l = none → Q (.ref l) (upd H l (.lst ys))) (vList bx) := by
  intro W S H vs xs Q PX s r q
  have lists : ∀ {v : Val} {xs : List V}, VRs K T W [v] xs → RP K T W (match lstOf S v with
    | some xs => mkL bx xs S
    | none => .st) (VP K T Q) PX → ∃ p ys, xs = [.ref p] ∧ (SqL K H p ys ∨ SqT K H p ys) ∧ ∀ l, H l = none → Q (.ref l) (upd H l (.lst ys)) := fun {v xs} r q => by
    cases r with
    | cons r1 r2 =>
      cases r2
      cases e : lstOf S v with
      | none => rw [e] at q; exact False.elim q
      | some ys =>
        rw [e] at q
        obtain ⟨a, zs, rfl, hz, rz⟩ := lstOf_ok s r1 e
        exact ⟨a, zs, rfl, .inl hz, fun l hl => mkL_ok s rz hl q⟩
  cases vs with
  | nil => exact False.elim q
  | cons v vs =>
    cases vs with
    | cons _ _ => cases v <;> exact False.elim q
    | nil =>
      cases v with
      | tup ys =>
        cases r with
        | cons r1 r2 =>
          cases r2
          obtain ⟨a, zs, rfl, hz, rz⟩ := tup_ok s r1
          exact ⟨a, zs, rfl, .inr hz, fun l hl => mkL_ok s rz hl q⟩
      | _ => exact lists r q
theorem l_tuple : OpL K T (fun xs H Q => ∃ p ys, xs = [.ref p] ∧ ((SqL K H p ys ∧ ∀ l, H l = none → Q (.ref l) (upd H l (.tup ys))) ∨ (SqT K H p ys ∧ Q (.ref p) H))) vTuple := by
  intro W S H vs xs Q PX s r q
  have lists : ∀ {v : Val} {xs : List V}, VRs K T W [v] xs → RP K T W (match lstOf S v with
    | some xs => .ok (.tup xs) S
    | none => .st) (VP K T Q) PX → ∃ p ys, xs = [.ref p] ∧ ((SqL K H p ys ∧ ∀ l, H l = none → Q (.ref l) (upd H l (.tup ys))) ∨ (SqT K H p ys ∧ Q (.ref p) H)) := fun {v xs} r q => by
    cases r with
    | cons r1 r2 =>
      cases r2
      cases e : lstOf S v with
      | none => rw [e] at q; exact False.elim q
      | some ys =>
        rw [e] at q
        obtain ⟨a, zs, rfl, hz, rz⟩ := lstOf_ok s r1 e
        refine ⟨a, zs, rfl, .inl ⟨hz, fun l hl => ?_⟩⟩
        have l2 : WLe W (W.add l (.tup zs)) := .add (s.free hl)
        exact q _ _ l2 (s.add hl) _ (.tup (.inl (.inl upd_same)) (rz.mono l2))
  cases vs with
  | nil => exact False.elim q
  | cons v vs =>
    cases vs with
    | cons _ _ => cases v <;> exact False.elim q
    | nil =>
      cases v with
      | tup ys =>
        cases r with
        | cons r1 r2 =>
          cases r2
          have r1' := r1
          obtain ⟨a, zs, rfl, hz, rz⟩ := tup_ok s r1
          exact ⟨a, zs, rfl, .inr ⟨hz, q.now s _ r1'⟩⟩
      | _ => exact lists r q
end

/-! ### all, any of a list of truth values -/
def blsOf : List Val → Option (List Bool)
  | [] => some []
  | .bl b :: vs => (blsOf vs).map (b :: ·)
  | _ :: _ => none
def vAll (vs : List Val) (S : Sto) : Res Val := match vs with
  | [v] => match (lstOf S v).bind blsOf with
    | some bs => .ok (.bl (bs.all id)) S
    | none => .st
  | _ => .st
def vAny (vs : List Val) (S : Sto) : Res Val := match vs with
  | [v] => match (lstOf S v).bind blsOf with
    | some bs => .ok (.bl (bs.any id)) S
    | none => .st
  | _ => .st
section
variable {K : PySem.W.Frag} {T : Tbl}
theorem blsOf_ok {W : Wd} : ∀ {vs : List Val} {xs : List V} {bs : List Bool}, VRs K T W vs xs → blsOf vs = some bs → xs = bs.map V.bl
  | _, _, _, .nil, h => by cases h; rfl
  | v :: vs, _, bs, .cons r rr, h => by
    cases v with
    | bl b =>
      cases r
      unfold blsOf at h
      cases e : blsOf vs with
      | none => rw [e] at h; cases h
      | some cs => rw [e] at h; cases h; rw [blsOf_ok rr e]; rfl
    | _ => cases h
theorem l_all : OpL K T (rAll K) vAll := by
  intro W S H vs xs Q PX s r q
  unfold vAll at q
  split at q
  · rename_i v
    cases r with
    | cons r1 r2 =>
      cases r2
      cases e : lstOf S v with
      | none => rw [e] at q; exact False.elim q
      | some ys =>
        rw [e] at q
        cases e2 : blsOf ys with
        | none => simp only [Option.bind, e2] at q; exact False.elim q
        | some bs =>
          simp only [Option.bind, e2] at q
          obtain ⟨a, zs, rfl, hz, rz⟩ := lstOf_ok s r1 e
          have ez := blsOf_ok rz e2
          subst ez
          exact ⟨a, bs, rfl, hz, q.now s _ (.bl _)⟩
  · exact False.elim q
theorem l_any : OpL K T (rAny K) vAny := by
  intro W S H vs xs Q PX s r q
  unfold vAny at q
  split at q
  · rename_i v
    cases r with
    | cons r1 r2 =>
      cases r2
      cases e : lstOf S v with
      | none => rw [e] at q; exact False.elim q
      | some ys =>
        rw [e] at q
        cases e2 : blsOf ys with
        | none => simp only [Option.bind, e2] at q; exact False.elim q
        | some bs =>
          simp only [Option.bind, e2] at q
          obtain ⟨a, zs, rfl, hz, rz⟩ := lstOf_ok s r1 e
          have ez := blsOf_ok rz e2
          subst ez
          exact ⟨a, bs, rfl, hz, q.now s _ (.bl _)⟩
  · exact False.elim q
end
end PM

/-! PM, part g: slices, stores to items, list methods, in, dicts, exceptions -/
namespace PM
open PySem PySem.Spec L2

/-! ### slices -/
def cutG {α : Type} (xs : List α) (lo hi : Option Int) : List α := (xs.drop (HT.sIx xs.length 0 lo)).take (HT.sIx xs.length xs.length hi - HT.sIx xs.length 0 lo)
abbrev OM := Ev → Sto → Res (Option Int)
def oNone : OM := fun _ S => .ok none S
def oSome (f : EM) : OM := fun ρ S => (f ρ S).bind fun v S1 => match v with
  | .int i => .ok (some i) S1
  | _ => .st
def vCut (bx : Bool) (v : Val) (lo hi : Option Int) (S : Sto) : Res Val := match v with
  | .tup xs => .ok (.tup (cutG xs lo hi)) S
  | v => match lstOf S v with
    | some xs => mkL bx (cutG xs lo hi) S
    | none => .st
def eCut (bx : Bool) (f : EM) (lo hi : OM) : EM := fun ρ S => (f ρ S).bind fun v S1 => (lo ρ S1).bind fun l S2 => (hi ρ S2).bind fun u S3 => vCut bx v l u S3
def rdO (K : PySem.W.Frag) (T : Tbl) (Ew : XW) (f : OM) : TO := fun σ H Q => ∃ W ρ S, SR K T W S H ∧ ER K T W ρ σ ∧ RP K T W (f ρ S) (fun _ _ H' o => Q o H') (fun H' c o => Ew c o σ H')
abbrev POm (T : Tbl) (X : Cx) (Ew : XW) (e : Option Expr) (f : OM) : Prop := PO X e (rdO X.K T Ew f)
theorem cutG_vr {K : PySem.W.Frag} {T : Tbl} {W : Wd} {vs : List Val} {xs : List V} (r : VRs K T W vs xs) (lo hi : Option Int) : VRs K T W (cutG vs lo hi) (cutV xs lo hi) := by
  unfold cutG cutV
  rw [r.length]
  exact (r.drop _).take _
section
variable {T : Tbl} {X : Cx} {Ew : XW} {e o i value : Expr} {es : List Expr} {f fo fi fe : EM} {fs : AM} {lo hi : Option Expr} {lm hm : OM} {pos p2 tpos : Pos}
theorem mo_none : POm T X Ew none oNone := ⟨fun pins s σ H Q I ⟨W, ρ, S, sr, er, h⟩ => po_none.run pins s σ H Q I (h.now sr)⟩
theorem mo_some (h : PEm T X Ew e f) : POm T X Ew (some e) (oSome f) := ⟨fun pins s σ H Q I ⟨W, ρ, S, sr, er, q⟩ => (po_some h).run pins s σ H Q I ⟨W, ρ, S, sr, er, RP.bind q fun W1 S1 H1 v l1 s1 h1 x vx => by
  cases vx with
  | int j => exact ⟨j, rfl, h1.now s1⟩
  | _ => exact False.elim h1⟩⟩
theorem m_cut {bx : Bool} (he : PEm T X Ew e f) (hl : POm T X Ew lo lm) (hu : POm T X Ew hi hm) : PEm T X Ew (.Subscript e (.Slice lo hi none p2) pos) (eCut bx f lm hm) := by
  refine PE.to (pe_slice (SlR.or sl_list sl_tupA) he hl hu) fun σ H Q h => ?_
  obtain ⟨W, ρ, S, s, er, h⟩ := h
  refine ⟨W, ρ, S, s, er, RP.bind h fun W1 S1 H1 v l1 s1 h1 x vx => ⟨W1, ρ, S1, s1, er.mono l1, RP.bind h1 fun W2 S2 H2 lw l2 s2 h2 => ⟨W2, ρ, S2, s2, (er.mono l1).mono l2, RP.bind h2 fun W3 S3 H3 uw l3 s3 h3 => ?_⟩⟩⟩
  have vx3 := vx.mono (l2.trans l3)
  have lists : ∀ {v : Val}, VR X.K T W3 v x → RP X.K T W3 (match lstOf S3 v with
    | some xs => mkL bx (cutG xs lw uw) S3
    | none => .st) (VP X.K T Q) (fun H' c o => Ew c o σ H') → rSlL X.K x lw uw H3 Q := fun {v} vx q => by
    cases e : lstOf S3 v with
    | none => rw [e] at q; exact False.elim q
    | some xs =>
      rw [e] at q
      obtain ⟨a, ys, rfl, hy, r⟩ := lstOf_ok s3 vx e
      exact ⟨a, ys, rfl, hy, fun p hp => mkL_ok s3 (cutG_vr r lw uw) hp q⟩
  cases v with
  | tup xs =>
    refine .inr ?_
    have vt := vx3
    obtain ⟨a, ys, rfl, hy, r⟩ := tup_ok s3 vx3
    refine ⟨a, ys, rfl, hy, fun hw => ?_, fun hw p hp => ?_⟩
    · have e0 : cutG xs lw uw = xs := by
        unfold cutG
        rw [r.length, hw.1, hw.2, List.drop_zero, Nat.sub_zero, ← r.length, List.take_length]
      have h4 : RP X.K T W3 (.ok (.tup (cutG xs lw uw)) S3) (VP X.K T Q) (fun H' c o => Ew c o σ H') := h3
      rw [e0] at h4
      exact h4.now s3 _ vt
    · have l : WLe W3 (W3.add p (.tup (cutV ys lw uw))) := .add (s3.free hp)
      exact h3 _ _ l (s3.add hp) _ (.tup (.inl (.inl upd_same)) ((cutG_vr r lw uw).mono l))
  | _ => exact .inl (lists vx3 h3)
/-- xs[::-1] of a list -/
def vRevL (bx : Bool) (v : Val) (S : Sto) : Res Val := match lstOf S v with
  | some xs => mkL bx xs.reverse S
  | none => .st
theorem m_revL {bx : Bool} {k : Nat} {p1 p2 p3 : Pos} (he : PEm T X Ew e f) : PEm T X Ew (.Subscript e (.Slice none none (some (.UnaryOp .USub (.Constant (.int 1) k p1) p2)) p3) pos) (eUn (vRevL bx) f) := by
  refine PE.to (pe_revL he) fun σ H Q h => ?_
  obtain ⟨W, ρ, S, s, er, h⟩ := h
  refine ⟨W, ρ, S, s, er, RP.bind h fun W1 S1 H1 v l1 s1 h1 x vx => ?_⟩
  unfold vRevL at h1
  cases e : lstOf S1 v with
  | none => rw [e] at h1; exact False.elim h1
  | some xs =>
    rw [e] at h1
    obtain ⟨a, ys, rfl, hy, r⟩ := lstOf_ok s1 vx e
    exact ⟨a, ys, rfl, hy, fun p hp => mkL_ok s1 r.reverse hp h1⟩

/-! ### stores to items -/
def setIx (o i u : Val) (S : Sto) : Option Sto := match o, i with
  | .loc k, .int j => match S.objs k with
    | some (.lst xs) => (ixN xs.length j).map fun n => S.put k (.lst (xs.set n u))
    | _ => none
  | _, _ => none
theorem setIx_ok {K : PySem.W.Frag} {W : Wd} {S S' : Sto} {H : Hp} {o i u : Val} {x y z : V} {Q : Hp → Prop} (s : SR K T W S H) (ro : VR K T W o x) (ri : VR K T W i y) (ru : VR K T W u z) (h : setIx o i u S = some S') (q : ∀ H', SR K T W S' H' → Q H') : rSetL x y z H Q := by
  cases ro with
  | @loc k hk =>
    cases ri with
    | int j =>
      unfold setIx at h
      simp only at h
      cases e : S.objs k with
      | none => rw [e] at h; cases h
      | some b =>
        cases b with
        | lst xs =>
          rw [e] at h
          simp only at h
          obtain ⟨ys, hy, r⟩ := locLst s e
          cases e2 : ixN xs.length j with
          | none => rw [e2] at h; cases h
          | some n =>
            rw [e2] at h
            cases h
            exact ⟨_, ys, j, n, rfl, rfl, hy, by rw [← r.length]; exact e2, q _ (s.put e ⟨_, upd_same, r.set ru n⟩)⟩
        | _ => rw [e] at h; cases h
    | _ => cases h
  | _ => cases h
def sSetIx (o i e : EM) : SM := fun ρ S => (e ρ S).toS ρ fun u S1 => (o ρ S1).toS ρ fun v S2 => (i ρ S2).toS ρ fun j S3 => match setIx v j u S3 with
  | some S4 => .nx ρ S4
  | none => .st
theorem ms_setIx (hv : PEm T X Ew value fe) (ho : PEm T X Ew o fo) (hi : PEm T X Ew i fi) (hs : swapsWithSole [.Subscript o i tpos] value pos.line X.env = pure false := by rfl) (hw : swappedStores [.Subscript o i tpos] value X.env = pure none := by rfl)
    (h1 : (assignEach [.Subscript o i tpos] X.env).map (·.2) = [assign (.Subscript o i tpos) X.env] := by rfl)
    (ha : ∀ v, assign (.Subscript o i tpos) X.env v = (do
      let ov ← holding [v] (eval o X.env)
      let iv ← holding [v, ov] (eval i X.env)
      standAt tpos
      holding [v, ov, iv] (setItem ov iv v)
      release [v, ov, iv] []) := by intro _; rfl) : PSm T X Ew (.Assign [.Subscript o i tpos] value pos) (sSetIx fo fi fe) := by
  refine PS.to (ps_asg hv (pg_sub ho hi set_list ha) hs hw h1) fun D σ H ⟨W, ρ, S, sr, er, h⟩ => ⟨W, ρ, S, sr, er, SPo.of er h fun W1 S1 H1 u l1 s1 h1 z vz => ?_⟩
  refine ⟨W1, ρ, S1, s1, er.mono l1, SPo.of (er.mono l1) h1 fun W2 S2 H2 v l2 s2 h2 x vx => ⟨W2, ρ, S2, s2, (er.mono l1).mono l2, SPo.of ((er.mono l1).mono l2) h2 fun W3 S3 H3 j l3 s3 h3 y vy => ?_⟩⟩
  cases e : setIx v j u S3 with
  | none => rw [e] at h3; exact False.elim h3
  | some S4 =>
    rw [e] at h3
    exact setIx_ok s3 (vx.mono l3) vy (vz.mono (l2.trans l3)) e fun H' s' => h3 W3 H' σ (.refl _) s' (((er.mono l1).mono l2).mono l3)
/-- a[i], b[j] = e, e a pair -/
def sSetIx2 (o i o2 i2 e : EM) : SM := fun ρ S => (e ρ S).toS ρ fun t S1 => match t with
  | .tup [u, w] => (o ρ S1).toS ρ fun v S2 => (i ρ S2).toS ρ fun j S3 => (match setIx v j u S3 with
    | some S4 => (o2 ρ S4).toS ρ fun v2 S5 => (i2 ρ S5).toS ρ fun j2 S6 => (match setIx v2 j2 w S6 with
      | some S7 => .nx ρ S7
      | none => .st)
    | none => .st)
  | _ => .st
theorem ms_setIx2 {o2 i2 : Expr} {fo2 fi2 : EM} {p3 p4 : Pos} {kk : Nat} (hc : X.calm = true) (hv : PEm T X Ew value fe) (ho : PEm T X Ew o fo) (hi : PEm T X Ew i fi) (ho2 : PEm T X Ew o2 fo2) (hi2 : PEm T X Ew i2 fi2)
    (hs : swapsWithSole [.Tuple [.Subscript o i tpos, .Subscript o2 i2 p3] kk p4] value pos.line X.env = pure false := by rfl) (hw : swappedStores [.Tuple [.Subscript o i tpos, .Subscript o2 i2 p3] kk p4] value X.env = pure none := by rfl)
    (h1 : (assignEach [.Tuple [.Subscript o i tpos, .Subscript o2 i2 p3] kk p4] X.env).map (·.2) = [assign (.Tuple [.Subscript o i tpos, .Subscript o2 i2 p3] kk p4) X.env] := by rfl)
    (ha : ∀ v, assign (.Subscript o i tpos) X.env v = (do
      let ov ← holding [v] (eval o X.env)
      let iv ← holding [v, ov] (eval i X.env)
      standAt tpos
      holding [v, ov, iv] (setItem ov iv v)
      release [v, ov, iv] []) := by intro _; rfl)
    (ha2 : ∀ v, assign (.Subscript o2 i2 p3) X.env v = (do
      let ov ← holding [v] (eval o2 X.env)
      let iv ← holding [v, ov] (eval i2 X.env)
      standAt p3
      holding [v, ov, iv] (setItem ov iv v)
      release [v, ov, iv] []) := by intro _; rfl)
    (hn : (assignEach [.Subscript o i tpos, .Subscript o2 i2 p3] X.env).length = 2 := by rfl) (hst : (assignEach [.Subscript o i tpos, .Subscript o2 i2 p3] X.env).findIdx? (·.1) = none := by rfl)
    (hs1 : (assignEach [.Subscript o i tpos, .Subscript o2 i2 p3] X.env).map (·.2) = assign (.Subscript o i tpos) X.env :: (assignEach [.Subscript o2 i2 p3] X.env).map (·.2) := by rfl)
    (hs2 : (assignEach [.Subscript o2 i2 p3] X.env).map (·.2) = assign (.Subscript o2 i2 p3) X.env :: (assignEach [] X.env).map (·.2) := by rfl) :
    PSm T X Ew (.Assign [.Tuple [.Subscript o i tpos, .Subscript o2 i2 p3] kk p4] value pos) (sSetIx2 fo fi fo2 fi2 fe) := by
  refine PS.to (ps_asg hv (pg_tup hc (pgs_cons (pg_sub ho hi set_list ha) (pgs_cons (pg_sub ho2 hi2 set_list ha2) pgs_nil hs2) hs1) hn hst) hs hw h1) fun D σ H ⟨W, ρ, S, sr, er, h⟩ => ⟨W, ρ, S, sr, er, SPo.of er h fun W1 S1 H1 t l1 s1 h1 z vz => ?_⟩
  cases vz with
  | @tup a vs xs hy r =>
    cases r with
    | nil => exact False.elim h1
    | cons r1 rr =>
      cases rr with
      | nil => exact False.elim h1
      | cons r2 rr =>
        cases rr with
        | cons _ _ => exact False.elim h1
        | nil =>
          refine ⟨_, _, rfl, SqT_mono s1.sub hy, rfl, _, _, rfl, ?_⟩
          refine ⟨W1, ρ, S1, s1, er.mono l1, SPo.of (er.mono l1) h1 fun W2 S2 H2 v l2 s2 h2 x vx => ⟨W2, ρ, S2, s2, (er.mono l1).mono l2, SPo.of ((er.mono l1).mono l2) h2 fun W3 S3 H3 j l3 s3 h3 y vy => ?_⟩⟩
          have er3 := ((er.mono l1).mono l2).mono l3
          rename_i u xu w xw
          cases e : setIx v j u S3 with
          | none => rw [e] at h3; exact False.elim h3
          | some S4 =>
            rw [e] at h3
            refine setIx_ok s3 (vx.mono l3) vy (r1.mono (l2.trans l3)) e fun H4 s4 => ?_
            refine ⟨_, _, rfl, W3, ρ, S4, s4, er3, SPo.of er3 h3 fun W5 S5 H5 v2 l5 s5 h5 x2 vx2 => ⟨W5, ρ, S5, s5, er3.mono l5, SPo.of (er3.mono l5) h5 fun W6 S6 H6 j2 l6 s6 h6 y2 vy2 => ?_⟩⟩
            cases e2 : setIx v2 j2 w S6 with
            | none => rw [e2] at h6; exact False.elim h6
            | some S7 =>
              rw [e2] at h6
              exact setIx_ok s6 (vx2.mono l6) vy2 (r2.mono (((l2.trans l3).trans l5).trans l6)) e2 fun H' s' => ⟨rfl, h6 W6 H' σ (.refl _) s' ((er3.mono l5).mono l6)⟩
  | _ => exact False.elim h1
end

/-! ### methods of lists -/
def isLst (v : Val) (S : Sto) : Bool := (lstOf S v).isSome
theorem isLst_ok {K : PySem.W.Frag} {T : Tbl} (W : Wd) (S : Sto) (H : Hp) (v : Val) (y : V) (s : SR K T W S H) (r : VR K T W v y) (h : isLst v S = true) : tyV K "list" y H := by
  unfold isLst at h
  cases e : lstOf S v with
  | none => rw [e] at h; cases h
  | some xs =>
    obtain ⟨a, ys, rfl, hy, _⟩ := lstOf_ok s r e
    exact .inl ⟨rfl, ys, hy⟩
def vAppend (v : Val) (vs : List Val) (S : Sto) : Res Val := match v, vs with
  | .loc k, [u] => match S.objs k with
    | some (.lst xs) => if xs.length < sizeLine then .ok .non (S.put k (.lst (xs ++ [u]))) else .st
    | _ => .st
  | _, _ => .st
def vExtend (v : Val) (vs : List Val) (S : Sto) : Res Val := match v, vs with
  | .loc k, [u] => match S.objs k, mlstOf S u with
    | some (.lst xs), some ys => if xs.length + ys.length ≤ sizeLine then .ok .non (S.put k (.lst (xs ++ ys))) else .st
    | _, _ => .st
  | _, _ => .st
def vPopAt (v : Val) (vs : List Val) (S : Sto) : Res Val := match v, vs with
  | .loc k, [.int i] => match S.objs k with
    | some (.lst xs) => if -(2 ^ 63) ≤ i ∧ i < 2 ^ 63 then (match seqIndex? i xs.length with
      | some j => (match xs[j]? with
        | some u => .ok u (S.put k (.lst (xs.eraseIdx j)))
        | none => .st)
      | none => .st) else .st
    | _ => .st
  | _, _ => .st
section
variable {K : PySem.W.Frag} {T : Tbl}
theorem w_append : OpM K T rAppend vAppend := by
  intro W S H v y vs xs Q PX s rv rs q
  unfold vAppend at q
  split at q
  · rename_i k u
    cases rs with
    | cons r1 r2 =>
      cases r2
      cases rv with
      | loc hk =>
        cases e : S.objs k with
        | none => simp only [e] at q; exact False.elim q
        | some b =>
          cases b with
          | lst ys =>
            simp only [e] at q
            obtain ⟨zs, hz, r⟩ := locLst s e
            by_cases hl : ys.length < sizeLine
            · rw [if_pos hl] at q
              exact ⟨_, zs, _, rfl, rfl, hz, by rw [← r.length]; exact hl, q W _ (.refl _) (s.put e ⟨_, upd_same, r.append (.cons r1 .nil)⟩) _ .non⟩
            · rw [if_neg hl] at q; exact False.elim q
          | _ => simp only [e] at q; exact False.elim q
  · exact False.elim q
theorem w_extend : OpM K T rExtend vExtend := by
  intro W S H v y vs xs Q PX s rv rs q
  unfold vExtend at q
  split at q
  · rename_i k u
    cases rs with
    | cons r1 r2 =>
      cases r2
      cases rv with
      | loc hk =>
        cases e : S.objs k with
        | none => simp only [e] at q; exact False.elim q
        | some b =>
          cases b with
          | lst ys =>
            simp only [e] at q
            cases e2 : mlstOf S u with
            | none => rw [e2] at q; exact False.elim q
            | some us =>
              rw [e2] at q
              simp only at q
              obtain ⟨zs, hz, r⟩ := locLst s e
              obtain ⟨b, ws, rfl, hw, r2⟩ := mlstOf_ok s r1 e2
              by_cases hl : ys.length + us.length ≤ sizeLine
              · rw [if_pos hl] at q
                exact ⟨_, b, zs, ws, rfl, rfl, hz, hw, by rw [← r.length, ← r2.length]; exact hl, q W _ (.refl _) (s.put e ⟨_, upd_same, r.append r2⟩) _ .non⟩
              · rw [if_neg hl] at q; exact False.elim q
          | _ => simp only [e] at q; exact False.elim q
  · exact False.elim q
theorem w_popAt : OpM K T rPopAt vPopAt := by
  intro W S H v y vs xs Q PX s rv rs q
  unfold vPopAt at q
  split at q
  · rename_i k i
    cases rs with
    | cons r1 r2 =>
      cases r2
      cases r1
      cases rv with
      | loc hk =>
        cases e : S.objs k with
        | none => simp only [e] at q; exact False.elim q
        | some b =>
          cases b with
          | lst ys =>
            simp only [e] at q
            obtain ⟨zs, hz, r⟩ := locLst s e
            by_cases hl : -(2 ^ 63) ≤ i ∧ i < 2 ^ 63
            · rw [if_pos hl] at q
              cases e2 : seqIndex? i ys.length with
              | none => rw [e2] at q; exact False.elim q
              | some j =>
                rw [e2] at q
                simp only at q
                cases e3 : ys[j]? with
                | none => rw [e3] at q; exact False.elim q
                | some u =>
                  rw [e3] at q
                  obtain ⟨z, h1, h2⟩ := r.get e3
                  exact ⟨_, zs, i, j, z, rfl, rfl, hz, hl.1, hl.2, by rw [← r.length]; exact e2, h1, q W _ (.refl _) (s.put e ⟨_, upd_same, r.eraseIdx j⟩) _ h2⟩
            · rw [if_neg hl] at q; exact False.elim q
          | _ => simp only [e] at q; exact False.elim q
  · exact False.elim q
end

/-! ### list(range(..)) -/
def eListR (bx : Bool) (a b : EM) : EM := fun ρ S => (a ρ S).bind fun v S1 => (b ρ S1).bind fun w S2 => match v, w with
  | .int i, .int j => if -(2 ^ 62) ≤ i ∧ i < 2 ^ 62 ∧ -(2 ^ 62) ≤ j ∧ j < 2 ^ 62 ∧ (j - i).toNat ≤ 2 ^ 24 then mkL bx (rangeL i (j - i).toNat) S2 else .st
  | _, _ => .st
theorem rangeL_vr {K : PySem.W.Frag} {T : Tbl} {W : Wd} (a b : Int) : VRs K T W (rangeL a (b - a).toNat) (rgV a b) := by
  unfold rangeL rgV
  induction (List.range (b - a).toNat) with
  | nil => exact .nil
  | cons i r ih => exact .cons (.int _) ih
section
variable {T : Tbl} {X : Cx} {Ew : XW} {a b e : Expr} {fa fb : EM} {p p2 pos pos2 : Pos} {bx : Bool}
theorem m_listR1 (hc : X.calm = true) (hg : Gl X "list") (hm : X.mg "list" = none) (hg2 : Gl X "range") (hm2 : X.mg "range" = none) (ha : PEm T X Ew a fa) (na : starEach [a] X.env = (false, eval a X.env) :: starEach [] X.env := by rfl)
    (n2 : starEach [.Call (.Name "range" p2) [a] [] pos2] X.env = (false, eval (.Call (.Name "range" p2) [a] [] pos2) X.env) :: starEach [] X.env := by rfl) :
    PEm T X Ew (.Call (.Name "list" p) [.Call (.Name "range" p2) [a] [] pos2] [] pos) (eListR bx (eC (.int 0)) fa) := by
  refine PE.to (pe_listRg hc hg hm (prg_1 hg2 hm2 ha na) n2) fun σ H Q h => ?_
  obtain ⟨W, ρ, S, s, er, h⟩ := h
  have h' : RP X.K T W ((fa ρ S).bind fun w S2 => match (Val.int 0), w with
    | .int i, .int j => if -(2 ^ 62) ≤ i ∧ i < 2 ^ 62 ∧ -(2 ^ 62) ≤ j ∧ j < 2 ^ 62 ∧ (j - i).toNat ≤ 2 ^ 24 then mkL bx (rangeL i (j - i).toNat) S2 else .st
    | _, _ => .st) (VP X.K T Q) (fun H' c o => Ew c o σ H') := h
  refine ⟨W, ρ, S, s, er, RP.bind h' fun W1 S1 H1 v l1 s1 h1 x vx => ?_⟩
  cases vx with
  | int j =>
    simp only at h1
    split at h1
    · rename_i c
      obtain ⟨c1, c2, c3, c4, c5⟩ := c
      exact ⟨j, rfl, ⟨c1, c2, c3, c4, c5⟩, fun q hq => mkL_ok s1 (rangeL_vr 0 j) hq h1⟩
    · exact False.elim h1
  | _ => exact False.elim h1
theorem m_listR2 (hc : X.calm = true) (hg : Gl X "list") (hm : X.mg "list" = none) (hg2 : Gl X "range") (hm2 : X.mg "range" = none) (ha : PEm T X Ew a fa) (hb : PEm T X Ew b fb) (na : starEach [a, b] X.env = (false, eval a X.env) :: starEach [b] X.env := by rfl)
    (nb : starEach [b] X.env = (false, eval b X.env) :: starEach [] X.env := by rfl) (hp : (backTo pos2 (starEach [b] X.env)).any (·.1) = false := by rfl)
    (n2 : starEach [.Call (.Name "range" p2) [a, b] [] pos2] X.env = (false, eval (.Call (.Name "range" p2) [a, b] [] pos2) X.env) :: starEach [] X.env := by rfl) :
    PEm T X Ew (.Call (.Name "list" p) [.Call (.Name "range" p2) [a, b] [] pos2] [] pos) (eListR bx fa fb) := by
  refine PE.to (pe_listRg hc hg hm (prg_2 hg2 hm2 ha hb na nb hp) n2) fun σ H Q h => ?_
  obtain ⟨W, ρ, S, s, er, h⟩ := h
  refine ⟨W, ρ, S, s, er, RP.bind h fun W1 S1 H1 v l1 s1 h1 x vx => ⟨W1, ρ, S1, s1, er.mono l1, RP.bind h1 fun W2 S2 H2 w l2 s2 h2 y vy => ?_⟩⟩
  cases vx with
  | int i =>
    cases vy with
    | int j =>
      simp only at h2
      split at h2
      · rename_i c
        obtain ⟨c1, c2, c3, c4, c5⟩ := c
        exact ⟨i, j, rfl, rfl, ⟨c1, c2, c3, c4, c5⟩, fun q hq => mkL_ok s2 (rangeL_vr i j) hq h2⟩
      · exact False.elim h2
    | _ => exact False.elim h2
  | _ => cases vy <;> exact False.elim h2
end

/-! ### sorted of ints -/
def intsOf : List Val → Option (List Int)
  | [] => some []
  | .int i :: vs => (intsOf vs).map (i :: ·)
  | _ :: _ => none
theorem intsOf_eq : ∀ {vs : List Val} {ns : List Int}, intsOf vs = some ns → vs = ns.map Val.int
  | [], _, h => by cases h; rfl
  | v :: vs, ns, h => by
    cases v with
    | int i =>
      unfold intsOf at h
      cases e : intsOf vs with
      | none => rw [e] at h; cases h
      | some ms => rw [e] at h; cases h; rw [intsOf_eq e]; rfl
    | _ => cases h
def insI (x : Int) : List Int → List Int
  | [] => [x]
  | y :: ys => if x ≤ y then x :: y :: ys else y :: insI x ys
def sortI : List Int → List Int
  | [] => []
  | x :: xs => insI x (sortI xs)
theorem insI_perm (x : Int) : ∀ ys, (insI x ys).Perm (x :: ys)
  | [] => .refl _
  | y :: ys => by
    unfold insI
    by_cases h : x ≤ y
    · rw [if_pos h]
    · rw [if_neg h]
      exact ((insI_perm x ys).cons y).trans (.swap x y ys)
theorem sortI_perm : ∀ xs, (sortI xs).Perm xs
  | [] => .refl _
  | x :: xs => (insI_perm x _).trans ((sortI_perm xs).cons x)
theorem insI_sorted (x : Int) : ∀ {ys : List Int}, ys.Pairwise (· ≤ ·) → (insI x ys).Pairwise (· ≤ ·)
  | [], _ => List.pairwise_singleton _ _
  | y :: ys, h => by
    unfold insI
    obtain ⟨h1, h2⟩ := List.pairwise_cons.mp h
    by_cases c : x ≤ y
    · rw [if_pos c]
      refine List.pairwise_cons.mpr ⟨fun z hz => ?_, h⟩
      rcases List.mem_cons.mp hz with rfl | hz
      · exact c
      · exact Int.le_trans c (h1 z hz)
    · rw [if_neg c]
      refine List.pairwise_cons.mpr ⟨fun z hz => ?_, insI_sorted x h2⟩
      rcases List.mem_cons.mp ((insI_perm x ys).mem_iff.mp hz) with rfl | hz
      · omega
      · exact h1 z hz
theorem sortI_sorted : ∀ xs, (sortI xs).Pairwise (· ≤ ·)
  | [] => .nil
  | x :: xs => insI_sorted x (sortI_sorted xs)
theorem sorted_unique : ∀ {xs ys : List Int}, xs.Perm ys → xs.Pairwise (· ≤ ·) → ys.Pairwise (· ≤ ·) → xs = ys
  | [], ys, p, _, _ => (List.nil_perm.mp p).symm ▸ rfl
  | x :: xs, [], p, _, _ => by simpa using p.length_eq
  | x :: xs, y :: ys, p, h1, h2 => by
    obtain ⟨a1, a2⟩ := List.pairwise_cons.mp h1
    obtain ⟨b1, b2⟩ := List.pairwise_cons.mp h2
    have e : x = y := by
      have hx : x ∈ y :: ys := p.mem_iff.mp List.mem_cons_self
      have hy : y ∈ x :: xs := p.mem_iff.mpr List.mem_cons_self
      have l1 : y ≤ x := by rcases List.mem_cons.mp hx with q | q; · omega
                            · exact b1 x q
      have l2 : x ≤ y := by rcases List.mem_cons.mp hy with q | q; · omega
                            · exact a1 y q
      omega
    subst e
    rw [sorted_unique ((List.perm_cons x).mp p) a2 b2]
def vSortI (bx : Bool) (vs : List Val) (S : Sto) : Res Val := match vs with
  | [v] => match (lstOf S v).bind intsOf with
    | some ns => mkL bx ((sortI ns).map Val.int) S
    | none => .st
  | _ => .st
theorem l_sortI {K : PySem.W.Frag} {T : Tbl} (bx : Bool) : OpL K T (rSortedI K) (vSortI bx) := by
  intro W S H vs xs Q PX s r q
  unfold vSortI at q
  split at q
  · rename_i v
    cases r with
    | cons r1 r2 =>
      cases r2
      cases e : lstOf S v with
      | none => rw [e] at q; exact False.elim q
      | some ys =>
        rw [e] at q
        cases e2 : intsOf ys with
        | none => simp only [Option.bind, e2] at q; exact False.elim q
        | some ns =>
          simp only [Option.bind, e2] at q
          obtain ⟨a, zs, rfl, hz, rz⟩ := lstOf_ok s r1 e
          rw [intsOf_eq e2] at rz
          have ez := rz.ints
          subst ez
          refine ⟨a, ns, rfl, hz, fun ns' p hp hs hf => ?_⟩
          have en : ns' = sortI ns := sorted_unique (hp.trans (sortI_perm ns).symm) hs (sortI_sorted ns)
          subst en
          exact mkL_ok s (VRs.ofInts _) hf q
  · exact False.elim q

/-! ### in, not in -/
def flatD : PyData → Bool
  | .none => true | .bool _ => true | .int _ => true | .str _ => true
  | _ => false
theorem flat_eqv {K : PySem.W.Frag} {H : Hp} {x y : V} {d e : PyData} (h1 : Dp K H x d) (h2 : Dp K H y e) (f1 : flatD d = true) (f2 : flatD e = true) : flatV x = true ∧ flatV y = true ∧ eqV x y = PyData.eqv d e := by
  cases h1 <;> first | (cases f1; done) | skip
  all_goals (cases h2 <;> first | (cases f2; done) | exact ⟨rfl, rfl, rfl⟩)
theorem flat_in {K : PySem.W.Frag} {H : Hp} {x : V} {d : PyData} (h1 : Dp K H x d) (f1 : flatD d = true) : ∀ {ys : List V} {ds : List PyData}, DpAll K H ys ds → ds.all flatD = true → ys.all flatV = true ∧ inV x ys = ds.any fun z => PyData.eqv z d
  | _, _, .nil, _ => ⟨rfl, rfl⟩
  | _, _, .cons a r, h => by
    rw [List.all_cons, Bool.and_eq_true] at h
    obtain ⟨q1, q2⟩ := flat_in h1 f1 r h.2
    obtain ⟨p1, p2, p3⟩ := flat_eqv a h1 h.1 f1
    refine ⟨by rw [List.all_cons, p1, q1]; rfl, ?_⟩
    unfold inV at q2 ⊢
    rw [List.any_cons, List.any_cons, p3, q2]
def vInW (neg : Bool) (v w : Val) (S : Sto) : Res Val := match w with
  | .tup ys => match datS S v, Val.dats ys with
    | some d, some ds => if flatD d = true ∧ ds.all flatD = true then .ok (.bl (if neg then !(ds.any fun z => PyData.eqv z d) else ds.any fun z => PyData.eqv z d)) S else .st
    | _, _ => .st
  | w => match datS S v, datS S w with
    | some d, some (.list ds) => if SeqAt.shaped d = true ∧ SeqAt.shaped (.list ds) = true then .ok (.bl (if neg then !(ds.any fun z => PyData.eqv z d) else ds.any fun z => PyData.eqv z d)) S else .st
    | _, _ => .st
def rInW (K : PySem.W.Frag) (neg : Bool) : R2 := fun x y H Q => (if neg then rNotInD K x y H Q else rInD K x y H Q) ∨ rIn K neg x y H Q
theorem o_in {K : PySem.W.Frag} {T : Tbl} (neg : Bool) : Op2 K T (rInW K neg) (vInW neg) := by
  intro W S H v w x y Q PX s vx vy q
  have lists : ∀ {w : Val}, VR K T W w y → RP K T W (match datS S v, datS S w with
    | some d, some (.list ds) => if SeqAt.shaped d = true ∧ SeqAt.shaped (.list ds) = true then .ok (.bl (if neg then !(ds.any fun z => PyData.eqv z d) else ds.any fun z => PyData.eqv z d)) S else .st
    | _, _ => .st) (VP K T Q) PX → rInW K neg x y H Q := fun {w} vy q => by
    cases e1 : datS S v with
    | none => simp only [e1] at q; exact False.elim q
    | some d =>
      cases e2 : datS S w with
      | none => simp only [e1, e2] at q; exact False.elim q
      | some dd =>
        cases dd with
        | list ds =>
          simp only [e1, e2] at q
          by_cases c : SeqAt.shaped d = true ∧ SeqAt.shaped (.list ds) = true
          · rw [if_pos c] at q
            refine .inl ?_
            cases neg with
            | true => exact ⟨d, ds, datS_ok s vx e1, datS_ok s vy e2, c.1, c.2, q.now s _ (.bl _)⟩
            | false => exact ⟨d, ds, datS_ok s vx e1, datS_ok s vy e2, c.1, c.2, q.now s _ (.bl _)⟩
          · rw [if_neg c] at q; exact False.elim q
        | _ => simp only [e1, e2] at q; exact False.elim q
  cases w with
  | tup ys =>
    obtain ⟨a, zs, rfl, hz, r⟩ := tup_ok s vy
    unfold vInW at q
    simp only at q
    cases e1 : datS S v with
    | none => simp only [e1] at q; exact False.elim q
    | some d =>
      cases e2 : Val.dats ys with
      | none => simp only [e1, e2] at q; exact False.elim q
      | some ds =>
        simp only [e1, e2] at q
        by_cases c : flatD d = true ∧ ds.all flatD = true
        · rw [if_pos c] at q
          have dx := datS_ok s vx e1
          obtain ⟨p1, p2⟩ := flat_in dx c.1 (Val.dats_ok s.sub r e2) c.2
          have fx : flatV x = true := by
            obtain ⟨z, _, _⟩ := flat_eqv dx dx c.1 c.1
            exact z
          refine .inr ⟨a, zs, rfl, .inr hz, fx, p1, ?_⟩
          rw [p2]
          exact q.now s _ (.bl _)
        · rw [if_neg c] at q; exact False.elim q
  | _ => exact lists vy q
theorem or_in {X : Cx} (hu : X.A.units + 65 < cLine) : OpR X (compareOp .In) (rInW X.K false) := OpR.or (op_inD hu) op_in_seq
theorem or_notIn {X : Cx} (hu : X.A.units + 65 < cLine) : OpR X (compareOp .NotIn) (rInW X.K true) := OpR.or (op_notInD hu) op_notIn_seq
end PM

/-! PM, part h: raise; calls whose errors go on; dicts by int or text -/
namespace PM
open PySem PySem.Spec L2

def sRaise (c : Nat) : SM := fun ρ S => .ex c [] ρ S
/-- what is known of an error class without own __init__ -/
structure EO (K : PySem.W.Frag) (mg : Str → Option Value) (T : Tbl) (c : Nat) (C : Addr) (x : Str) : Prop where
  at_ : T.cl c = some C
  fl : T.fl c = []
  gC : mg x = some (.ref C)
  q : PySem.W.excIn K C [.type "ValueError", .type "Exception", .type "BaseException", .type "object"] "ValueError.__new__" = true
  kC : PySem.W.keepIn K (.ref C) = true
  b : PySem.W.subIn K (.ref C) (.type "BaseException") = some true
  t : PySem.W.typeIn K (.ref C) = some (.type "type")
section
variable {T : Tbl} {X : Cx} {Ew : XW} {k : Nat} {f C : Addr} {fd : FuncData} {ps : List Str} {n : Nat} {F : FM} {x m fl : Str} {p p2 pos apos : Pos} {e o value : Expr} {es : List Expr} {fo fe : EM} {fs : AM} {c i : Nat}
theorem ms_raise {j : Nat} (hc : X.calm = true) (tk : Takes X Ew) (E : EO X.K X.mg T c C x) (hg : Gl X x) (hdb : (x == ("__debug__" : Str)) = false := by decide) :
    PSm T X Ew (.Raise (some (.Call (.Name x p) [.Constant (.str m) j p2] [] apos)) none pos) (sRaise c) :=
  PS.to (ps_raise hc tk (pmk_own PySem.F.excBase_ValueError E.q E.gC E.kC (raises_own E.b E.t) hg hdb)) fun D σ H ⟨W, ρ, S, sr, er, h⟩ => h W H σ (.ref C) none (.refl _) sr er ⟨C, E.at_, rfl, .inl ⟨E.fl, rfl, rfl⟩⟩

/-- o.m(..) whose error goes on -/
theorem pe_methQ {sp : Sp} {E : L2.St → XK} {ta : TE} {t : TA} {pl : Sem Bool} (he : PE X o ta) (c : Cls X.K C) (hm : Meth X.K C m f) (G : FnOk X.prog X.w X.K X.mg X.base (L2.CX X.prog X.w) k f fd ps sp) (hr : Room k X.A) (hb : Binds X.K fd ps []) (hx : ∀ σ, PassesAt (L2.CX X.prog X.w) X σ (E σ)) (ha : PA X (e :: es) t)
    (hst : starEach (e :: es) X.env = (false, eval e X.env) :: starEach es X.env := by rfl) (hpl : (backTo pos (starEach es X.env)).any (·.1) = false := by rfl)
    (ht : eval (.Call (.Attribute o m apos) (e :: es) [] pos) X.env = (do
      let ov ← eval o X.env
      standAt apos.atName
      let (f, first) ← holding [ov] (getMethod ov m pl)
      callWith pos f first (backTo pos (starEach (e :: es) X.env)) (backToKw pos (keywordEach [] X.env))) := by rfl) :
    PE X (.Call (.Attribute o m apos) (e :: es) [] pos) (fun σ H Q => ta σ H fun x H1 => ∃ a dx fs, x = .ref a ∧ H1 a = some (.ins C dx fs) ∧ fs.lookup m = none ∧ t σ H1 fun vs H2 => sp (x :: vs) H2 Q (E σ)) := by
  refine ⟨fun pins s σ H Q I h => ?_⟩
  refine PySem.W.methodCall_KW (pl := pl) (thn (he.run pins s σ H _ I h) fun u s1 ⟨x, H1, I1, rx, a, dx, fs, ex, ea, l, q⟩ => ?_) ht
  subst ex
  obtain rfl : u = Value.ref a := rx
  refine getmeth_ok I1 ea c hm l ?_
  refine PySem.W.callWith_K (first := [.ref a]) (h₀ := X.base) I.ok.mod.kin hm.kp (thn (ha.run pos pins s1 σ H1 _ I1 q) fun us s2 ⟨vs, H2, I2, r, q2⟩ => ⟨I2.kIn, ?_⟩) hst hpl
  exact run_fnS (us := .ref a :: us) (vs := .ref a :: vs) G hr hb (hx σ) I2 (.cons rfl r) q2
def eMethXN (n c : Nat) (F : FM) (o : EM) (a : AM) : EM := fun ρ S => (o ρ S).bind fun v S1 => if isInst c S1 v then (a ρ S1).bind fun vs S2 => if (v :: vs).length = n then F (v :: vs) S2 else .st else .st
theorem m_methX {pl : Sem Bool} (tk : Takes X Ew) (O : CO X.K T c C) (hmn : m ∉ T.fl c) (ho : PEm T X Ew o fo) (hm : Meth X.K C m f) (G : FnOk X.prog X.w X.K X.mg X.base (L2.CX X.prog X.w) k f fd ps (spD X.K T n F)) (hr : Room k X.A) (hb : Binds X.K fd ps [])
    (ha : PAm T X Ew (e :: es) fs)
    (hst : starEach (e :: es) X.env = (false, eval e X.env) :: starEach es X.env := by rfl) (hpl : (backTo pos (starEach es X.env)).any (·.1) = false := by rfl)
    (ht : eval (.Call (.Attribute o m apos) (e :: es) [] pos) X.env = (do
      let ov ← eval o X.env
      standAt apos.atName
      let (f, first) ← holding [ov] (getMethod ov m pl)
      callWith pos f first (backTo pos (starEach (e :: es) X.env)) (backToKw pos (keywordEach [] X.env))) := by rfl) :
    PEm T X Ew (.Call (.Attribute o m apos) (e :: es) [] pos) (eMethXN n c F fo fs) := by
  refine PE.to (pe_methQ (E := WE Ew) ho O.cls hm G hr hb (fun σ => passAt tk σ) ha hst hpl ht) fun σ H Q h => ?_
  obtain ⟨W, ρ, S, s, er, h⟩ := h
  refine ⟨W, ρ, S, s, er, RP.bind h fun W1 S1 H1 v l1 s1 h1 y vy => ?_⟩
  cases hi : isInst c S1 v with
  | false => rw [hi] at h1; exact False.elim h1
  | true =>
    rw [hi, if_pos rfl] at h1
    obtain ⟨a, dx, xs, rfl, hH⟩ := isInst_ok O s1 vy hi
    refine ⟨a, dx, _, rfl, hH, lookup_none hmn, W1, ρ, S1, s1, er.mono l1, RP.bind h1 fun W2 S2 H2 vs l2 s2 h2 zs vz => ?_⟩
    by_cases hl : (v :: vs).length = n
    · rw [if_pos hl] at h2; exact spD_of s2 (.cons (vy.mono l2) vz) hl h2 fun _ _ _ q => q
    · rw [if_neg hl] at h2; exact False.elim h2
end

/-! ### a dict's pairs -/
def putS {κ α : Type} [DecidableEq κ] (k : κ) (v : α) : List κ → List α → List κ × List α
  | k' :: ks, x :: xs => if k' = k then (k' :: ks, v :: (ks.zip xs).map fun p => if p.1 = k then v else p.2) else (k' :: (putS k v ks xs).1, x :: (putS k v ks xs).2)
  | _, _ => ([k], [v])
def lookS {κ α : Type} [DecidableEq κ] (k : κ) : List κ → List α → Option α
  | k' :: ks, x :: xs => if k' = k then some x else lookS k ks xs
  | _, _ => none
theorem lookS_val {κ : Type} [DecidableEq κ] {k : κ} : ∀ {ks : List κ} {xs : List V}, valV (ks.zip xs) k = lookS k ks xs
  | [], _ => by simp [valV, lookS]
  | _ :: _, [] => by simp [valV, lookS]
  | k' :: ks, x :: xs => by
    by_cases e : k' = k
    · rw [List.zip_cons_cons, valV_pos (p := (k', x)) e]; simp [lookS, e]
    · rw [List.zip_cons_cons, valV_neg (p := (k', x)) e, lookS_val]; simp [lookS, e]
theorem lookS_vr {K : PySem.W.Frag} {T : Tbl} {W : Wd} {κ : Type} [DecidableEq κ] {k : κ} : ∀ {ks : List κ} {vs : List Val} {xs : List V}, VRs K T W vs xs → (∀ v, lookS k ks vs = some v → ∃ x, lookS k ks xs = some x ∧ VR K T W v x) ∧ (lookS k ks vs = none → lookS k ks xs = none)
  | [], _, _, _ => ⟨fun v h => by simp [lookS] at h, fun _ => by simp [lookS]⟩
  | _ :: _, _, _, .nil => ⟨fun v h => by simp [lookS] at h, fun _ => by simp [lookS]⟩
  | k' :: ks, _, _, .cons a r => by
    have ih := lookS_vr (k := k) (ks := ks) r
    by_cases e : k' = k
    · simp only [lookS, if_pos e]
      exact ⟨fun v h => by cases h; exact ⟨_, rfl, a⟩, fun h => by cases h⟩
    · simp only [lookS, if_neg e]
      exact ih
theorem putK_S {κ : Type} [DecidableEq κ] {k : κ} {y : V} : ∀ {ks : List κ} {xs : List V}, ks.length = xs.length → putK (ks.zip xs) k y = (putS k y ks xs).1.zip (putS k y ks xs).2 ∧ (putS k y ks xs).1.length = (putS k y ks xs).2.length
  | [], [], _ => by simp [putK, putS]
  | [], _ :: _, h => by simp at h
  | _ :: _, [], h => by simp at h
  | k' :: ks, x :: xs, h => by
    have hl : ks.length = xs.length := by simpa using h
    obtain ⟨ih, ihl⟩ := putK_S (k := k) (y := y) hl
    by_cases e : k' = k
    · subst e
      simp only [putS, if_pos]
      constructor
      · unfold putK
        have : (((k', x) :: ks.zip xs).any fun kv => decide (kv.1 = k')) = true := by simp
        rw [List.zip_cons_cons, if_pos this, List.map_cons, List.zip_cons_cons]
        simp only [if_pos]
        congr 1
        clear ih ihl this h
        induction ks generalizing xs with
        | nil => simp
        | cons z zs ih2 =>
          cases xs with
          | nil => simp
          | cons w ws =>
            simp only [List.zip_cons_cons, List.map_cons]
            rw [ih2 ws (by simpa using hl)]
            by_cases q : z = k'
            · simp [q]
            · simp [q]
      · simp [hl]
    · simp only [putS, if_neg e]
      constructor
      · unfold putK at ih ⊢
        rw [List.zip_cons_cons, List.zip_cons_cons, ← ih]
        have : (((k', x) :: ks.zip xs).any fun kv => decide (kv.1 = k)) = ((ks.zip xs).any fun kv => decide (kv.1 = k)) := by simp [e]
        rw [this]
        by_cases q : ((ks.zip xs).any fun kv => decide (kv.1 = k)) = true
        · rw [if_pos q, if_pos q, List.map_cons, if_neg e]
        · rw [if_neg q, if_neg q]; rfl
      · simp [ihl]
theorem putT_vr {K : PySem.W.Frag} {T : Tbl} {W : Wd} {κ : Type} [DecidableEq κ] {k : κ} {u : Val} {y : V} (ru : VR K T W u y) : ∀ {ks : List κ} {vs : List Val} {xs : List V}, VRs K T W vs xs →
    VRs K T W ((ks.zip vs).map fun p => if p.1 = k then u else p.2) ((ks.zip xs).map fun p => if p.1 = k then y else p.2)
  | [], _, _, _ => by simp; exact .nil
  | _ :: _, _, _, .nil => by simp; exact .nil
  | z :: zs, _, _, .cons a r => by
    simp only [List.zip_cons_cons, List.map_cons]
    refine .cons ?_ (putT_vr ru r)
    by_cases q : z = k
    · simp only [if_pos q]; exact ru
    · simp only [if_neg q]; exact a
theorem putS_vr {K : PySem.W.Frag} {T : Tbl} {W : Wd} {κ : Type} [DecidableEq κ] {k : κ} {u : Val} {y : V} (ru : VR K T W u y) : ∀ {ks : List κ} {vs : List Val} {xs : List V}, VRs K T W vs xs → (putS k u ks vs).1 = (putS k y ks xs).1 ∧ VRs K T W (putS k u ks vs).2 (putS k y ks xs).2
  | [], _, _, .nil => ⟨rfl, .cons ru .nil⟩
  | [], _, _, .cons _ _ => ⟨rfl, .cons ru .nil⟩
  | _ :: _, _, _, .nil => ⟨rfl, .cons ru .nil⟩
  | k' :: ks, _, _, .cons a r => by
    obtain ⟨i1, i2⟩ := putS_vr (k := k) ru (ks := ks) r
    by_cases e : k' = k
    · simp only [putS, if_pos e]
      exact ⟨trivial, .cons ru (putT_vr ru r)⟩
    · simp only [putS, if_neg e]
      exact ⟨by rw [i1], .cons a i2⟩
def keyOf : Val → Option Key
  | .int i => some (.inl i)
  | .str s => some (.inr s)
  | _ => none
theorem keyOf_ok {K : PySem.W.Frag} {T : Tbl} {W : Wd} {v : Val} {x : V} {k : Key} (r : VR K T W v x) (h : keyOf v = some k) : x = kV k := by
  cases r <;> cases h <;> rfl

/-! ### dict comprehensions, keys ints and texts -/
open Classical in
noncomputable def dcGo (src : Sto → Prop) (tg : Tgt) (tst : BM) (ek ev : EM) (n0 : Nat) (ρ0 : Ev) : List Val → Sto → Res Unit
  | [], S => if src S then .ok () S else .st
  | v :: vs, S => if src S then (match tg.set v ρ0 with
      | some ρ1 => (noEx (tst ρ1 S)).bind fun k S1 => if k then (noEx (ek ρ1 S1)).bind fun a S2 => (noEx (ev ρ1 S2)).bind fun u S3 => (match S3.objs n0, keyOf a with
          | some (.dk false ks us), some q => if ks.length < sizeLine then dcGo src tg tst ek ev n0 ρ0 vs (S3.put n0 (.dk false (putS q u ks us).1 (putS q u ks us).2)) else .st
          | _, _ => .st) else dcGo src tg tst ek ev n0 ρ0 vs S1
      | none => .st) else .st
noncomputable def eDc (it : IM) (tg : Tgt) (tst : BM) (ek ev : EM) (ws : List Nat) : EM := fun ρ S => (it ρ S).bind fun iv S1 =>
  (dcGo iv.src tg tst ek ev S1.next (wipeE ρ ws) iv.items (S1.alloc (.dk false [] []))).bind fun _ S2 => .ok (.loc S1.next) S2
section
variable {T : Tbl} {X : Cx} {Ew : XW} {kx vx tgE iter c : Expr} {ifs : List Expr} {scope : Scope} {own : List (Str × Nat)} {pos : Pos} {it : IM} {tg : Tgt} {tst : BM} {fk fe : EM}
theorem rd_dc (hsl : ∀ i ∈ tg.slots, i ∈ own.map (·.2)) {σ : L2.St} {H : Hp} {Q : VK} (h : rdE X.K T Ew (eDc it tg tst fk fe (own.map (·.2))) σ H Q) :
    tDc (rdI X.K T Ew it) (tg.g X.K) (rdT X.K T XW0 tst) (rdE X.K T XW0 fk) (rdE X.K T XW0 fe) (own.map (·.2)) σ H Q := by
  obtain ⟨W, ρ, S, sr, er, h⟩ := h
  refine ⟨W, ρ, S, sr, er, RP.bind h fun W1 S1 H1 iv l1 s1 h1 J hJ D hD => ?_⟩
  have sB : SR X.K T (W1.box D) (S1.alloc (.dk false [] [])) (upd H1 D (.dK [])) := s1.box (b := .dk false [] []) hD ⟨[], rfl, by rw [if_neg Bool.false_ne_true, upd_same]; rfl, .nil⟩
  have eD : (W1.box D).m S1.next = D := by rw [← s1.nx]; exact Wd.box_at
  have lD : S1.next < (W1.box D).n := by rw [← s1.nx]; exact Nat.lt_succ_self _
  refine ⟨fun i m H => ∃ W S rest, iv.items.drop i = rest ∧ m = rest.length ∧ WLe (W1.box D) W ∧ SR X.K T W S H ∧
      RP X.K T W ((dcGo iv.src tg tst fk fe S1.next (wipeE ρ (own.map (·.2))) rest S).bind fun _ S2 => .ok (.loc S1.next) S2) (VP X.K T Q) (fun H' c o => Ew c o σ H'),
    ⟨_, W1.box D, _, iv.items, rfl, rfl, .refl _, sB, h1.wle .box⟩, fun i m H hW => ?_⟩
  obtain ⟨W, S, rest, hd, rfl, lw, sr, h⟩ := hW
  have wD : W.m S1.next = D := (lw.eq _ lD).trans eD
  cases rest with
  | nil =>
    unfold dcGo at h
    by_cases hsrc : iv.src S
    · rw [if_pos hsrc] at h
      have hn : iv.items[i]? = none := List.getElem?_eq_none (by simpa using hd)
      refine .inl ⟨(hJ W S H (.trans .box lw) sr hsrc i).2 hn, ?_⟩
      have h' : RP X.K T W (.ok (.loc S1.next) S) (VP X.K T Q) (fun H' c o => Ew c o σ H') := h
      have z : VR X.K T W (.loc S1.next) (.ref (W.m S1.next)) := .loc (Nat.lt_of_lt_of_le lD lw.le)
      rw [wD] at z
      exact h'.now sr _ z
    · rw [if_neg hsrc] at h; exact False.elim h
  | cons v vs =>
    unfold dcGo at h
    by_cases hsrc : iv.src S
    · rw [if_pos hsrc] at h
      have hv : iv.items[i]? = some v := by
        have := congrArg (·[0]?) hd
        simpa using this
      have hd' : iv.items.drop (i + 1) = vs := by
        have := congrArg List.tail hd
        simpa using this
      obtain ⟨go, yl⟩ := (hJ W S H (.trans .box lw) sr hsrc i).1 v hv
      refine .inr ⟨go, _, fun H' z => ⟨vs.length, Nat.lt_succ_self _, z⟩, fun x H' y => ?_⟩
      obtain ⟨W2, l2, s2, vx⟩ := yl x H' y
      cases q : tg.set v (wipeE ρ (own.map (·.2))) with
      | none => rw [q] at h; exact False.elim h
      | some ρ1 =>
        rw [q] at h
        have er2 : ER X.K T W2 (wipeE ρ (own.map (·.2))) (L2.wipe σ (own.map (·.2))) := ((er.mono l1).mono (.trans .box (lw.trans l2))).wipe _
        refine Tgt.ok (ws := own.map (·.2)) s2.sub tg vx er2 q fun σ' e' w' => ⟨?_, ?_⟩
        · rw [w' hsl]
          apply List.ext_getElem?
          intro j
          rw [wipe_get, wipe_get]
          rw [wipe_length]
          by_cases hj : j ∈ own.map (·.2) ∧ j < σ.length
          · rw [if_pos hj, if_pos hj]
          · rw [if_neg hj, if_neg hj]
        have hh := h.wle l2
        have bindE : ∀ {α β γ : Type} (r : Res α) (g : α → Sto → Res β) (g2 : β → Sto → Res γ), (r.bind g).bind g2 = r.bind fun a S => (g a S).bind g2 := fun r g g2 => by cases r <;> rfl
        dsimp only at hh
        rw [bindE] at hh
        refine ⟨W2, ρ1, S, s2, e', (RP.bind hh fun W3 S3 H3 k l3 s3 h3 => ?_ : RP X.K T W2 (noEx (tst ρ1 S)) _ (fun H' c o => Ew c o σ H')).noEx⟩
        have lw3 : WLe (W1.box D) W3 := lw.trans (l2.trans l3)
        cases k with
        | false =>
          dsimp only at h3 ⊢
          rw [if_neg Bool.false_ne_true] at h3 ⊢
          exact ⟨W3, S3, vs, hd', rfl, lw3, s3, h3⟩
        | true =>
          dsimp only at h3 ⊢
          rw [if_pos rfl] at h3 ⊢
          rw [bindE] at h3
          refine ⟨W3, ρ1, S3, s3, e'.mono l3, (RP.bind h3 fun W4 S4 H4 a l4 s4 h4 ya va => ?_ : RP X.K T W3 (noEx (fk ρ1 S3)) _ (fun H' c o => Ew c o σ H')).noEx⟩
          dsimp only at h4 ⊢
          rw [bindE] at h4
          refine ⟨W4, ρ1, S4, s4, (e'.mono l3).mono l4, (RP.bind h4 fun W5 S5 H5 u l5 s5 h5 yv vu => ?_ : RP X.K T W4 (noEx (fe ρ1 S4)) _ (fun H' c o => Ew c o σ H')).noEx⟩
          have lw5 : WLe (W1.box D) W5 := lw3.trans (l4.trans l5)
          have wD5 : W5.m S1.next = D := (lw5.eq _ lD).trans eD
          cases q5 : S5.objs S1.next with
          | none => simp only [q5] at h5; exact False.elim h5
          | some b =>
            cases b with
            | dk lk ks us =>
              cases lk with
              | true => simp only [q5] at h5; exact False.elim h5
              | false =>
                cases q6 : keyOf a with
                | none => simp only [q5, q6] at h5; exact False.elim h5
                | some ky =>
                  simp only [q5, q6] at h5
                  by_cases hz : ks.length < sizeLine
                  · rw [if_pos hz] at h5
                    obtain ⟨xs, hl, hx, r⟩ := s5.at_ _ _ q5
                    rw [if_neg Bool.false_ne_true, wD5] at hx
                    obtain ⟨pk, pl⟩ := putK_S (k := ky) (y := yv) hl
                    obtain ⟨e1, r2⟩ := putS_vr (k := ky) (ks := ks) vu r
                    refine ⟨ks.zip xs, ky, keyOf_ok va q6, hx, by rw [List.length_zip]; omega, W5, _, vs, hd', rfl, lw5, ?_, h5⟩
                    have sp := s5.put (o := .dK (putK (ks.zip xs) ky yv)) (b' := .dk false (putS ky u ks us).1 (putS ky u ks us).2) q5 ⟨(putS ky yv ks xs).2, by rw [e1]; exact pl, by rw [if_neg Bool.false_ne_true, upd_same, pk, e1], r2⟩
                    rw [wD5] at sp
                    exact sp
                  · rw [if_neg hz] at h5; exact False.elim h5
            | _ => simp only [q5] at h5; exact False.elim h5
    · rw [if_neg hsrc] at h; exact False.elim h
theorem m_dc (hc : X.calm = true) (hN : X.N.Nodup) (hi : PIm T X Ew tgE iter it) (ok : BlkOk X.N X.env.scope scope own) (hsl : ∀ i ∈ tg.slots, i ∈ own.map (·.2))
    (hg : ∀ (s : Shared) (H : Hp) (C : Addr) (cl : List (Str × Addr)) (fp : List Addr), PG (X.blk s H scope (compEnvC scope cl C X.env) fp) tgE (tg.g X.K)) (ht : ∀ (s : Shared) (H : Hp) (C : Addr) (cl : List (Str × Addr)) (fp : List Addr), PTs (X.blk s H scope (compEnvC scope cl C X.env) fp) ifs (rdT X.K T XW0 tst))
    (hk : ∀ (s : Shared) (H : Hp) (C : Addr) (cl : List (Str × Addr)) (fp : List Addr), PEm T (X.blk s H scope (compEnvC scope cl C X.env) fp) XW0 kx fk)
    (he : ∀ (s : Shared) (H : Hp) (C : Addr) (cl : List (Str × Addr)) (fp : List Addr), PEm T (X.blk s H scope (compEnvC scope cl C X.env) fp) XW0 vx fe) (hs : ∀ x, foldedSetIterable iter X.env x = pure x := by intro _; rfl) :
    PEm T X Ew (.DictComp kx vx [⟨tgE, iter, ifs, 0⟩] scope pos) (eDc it tg tst fk fe (own.map (·.2))) :=
  PE.to (pe_dc hc hN hi ok hg ht hk he hs) fun _ _ _ h => rd_dc hsl h
end
/-- len of a dict -/
def vLenD (vs : List Val) (S : Sto) : Res Val := match vs with
  | [.loc k] => match S.objs k with
    | some (.dk false ks _) => .ok (.int (ks.length : Nat)) S
    | _ => .st
  | [.dk ks _] => .ok (.int (ks.length : Nat)) S
  | _ => .st
theorem l_lenD {K : PySem.W.Frag} {T : Tbl} : OpL K T (fun xs H Q => ∃ a kvs, xs = [V.ref a] ∧ H a = some (.dK kvs) ∧ Q (.int kvs.length) H) vLenD := by
  intro W S H vs xs Q PX s r q
  unfold vLenD at q
  split at q
  · rename_i k
    cases r with
    | cons r1 r2 =>
      cases r2
      cases r1 with
      | loc hk =>
        cases e : S.objs k with
        | none => simp only [e] at q; exact False.elim q
        | some b =>
          cases b with
          | dk lk ks us =>
            cases lk with
            | true => simp only [e] at q; exact False.elim q
            | false =>
              simp only [e] at q
              obtain ⟨ys, hl, hy, _⟩ := s.at_ _ _ e
              rw [if_neg Bool.false_ne_true] at hy
              have el : ((ks.zip ys).length : Int) = (ks.length : Nat) := by rw [List.length_zip, ← hl, Nat.min_self]
              exact ⟨_, _, rfl, hy, by rw [el]; exact q.now s _ (.int _)⟩
          | _ => simp only [e] at q; exact False.elim q
  · cases r with
    | cons r1 r2 =>
      cases r2
      cases r1 with
      | @dk a ks us ys hl hy r =>
        refine ⟨_, _, rfl, s.sub _ _ hy, ?_⟩
        rw [List.length_zip, ← hl, Nat.min_self]
        exact q.now s _ (.int _)
  · exact False.elim q
end PM

/-! PM, part i: small rest -/
namespace PM
open PySem PySem.Spec L2
theorem b_len : bootBuiltins "len" = some (.builtin "len") := by decide +kernel
theorem b_isinstance : bootBuiltins "isinstance" = some (.builtin "isinstance") := by decide +kernel
theorem b_abs : bootBuiltins "abs" = some (.builtin "abs") := by decide +kernel
theorem b_all : bootBuiltins "all" = some (.builtin "all") := by decide +kernel
theorem b_any : bootBuiltins "any" = some (.builtin "any") := by decide +kernel
theorem b_min : bootBuiltins "min" = some (.builtin "min") := by decide +kernel
theorem b_max : bootBuiltins "max" = some (.builtin "max") := by decide +kernel
theorem b_sum : bootBuiltins "sum" = some (.builtin "sum") := by decide +kernel
theorem b_sorted : bootBuiltins "sorted" = some (.builtin "sorted") := by decide +kernel
theorem b_divmod : bootBuiltins "divmod" = some (.builtin "divmod") := by decide +kernel
theorem b_int : bootBuiltins "int" = some (.type "int") := by decide +kernel
theorem b_bool : bootBuiltins "bool" = some (.type "bool") := by decide +kernel
theorem b_str : bootBuiltins "str" = some (.type "str") := by decide +kernel
theorem b_list : bootBuiltins "list" = some (.type "list") := by decide +kernel
theorem b_tuple : bootBuiltins "tuple" = some (.type "tuple") := by decide +kernel
theorem b_dict : bootBuiltins "dict" = some (.type "dict") := by decide +kernel
theorem b_range : bootBuiltins "range" = some (.type "range") := by decide +kernel
theorem b_ValueError : bootBuiltins "ValueError" = some (.type "ValueError") := by decide +kernel

theorem m_ix {T : Tbl} {X : Cx} {Ew : XW} {a b : Expr} {fa fb : EM} {pos : Pos} (ha : PEm T X Ew a fa) (hb : PEm T X Ew b fb) (hs : PlainIx b := by exact fun _ _ => rfl) : PEm T X Ew (.Subscript a b pos) (eBin vIx fa fb) :=
  PE.to (pe_ix (IxR.or ix_list ix_tup) ha hb hs) fun _ _ _ h => rd_bin o_ix h
def vAddI (v w : Val) (S : Sto) : Res Val := match v, w with
  | .int i, .int j => .ok (.int (i + j)) S
  | _, _ => .st
theorem o_ipadd {K : PySem.W.Frag} {T : Tbl} : Op2 K T (ipI fun i j => i + j) vAddI := by
  intro W S H v w x y Q PX s vx vy q
  cases vx <;> first | (cases vy <;> exact False.elim q) | skip
  cases vy with
  | int j => exact ⟨_, j, rfl, rfl, q.now s _ (.int _)⟩
  | _ => exact False.elim q
theorem o_ipsub {K : PySem.W.Frag} {T : Tbl} : Op2 K T (ipI fun i j => i - j) vSub := by
  intro W S H v w x y Q PX s vx vy q
  cases vx <;> first | (cases vy <;> exact False.elim q) | skip
  cases vy with
  | int j => exact ⟨_, j, rfl, rfl, q.now s _ (.int _)⟩
  | _ => exact False.elim q
end PM

/-! PM, part j: try .. except -/
namespace PM
open PySem PySem.Spec L2

def Tbl.wx (T : Tbl) (e : Addr × Option Addr × Addr) : Tbl := { T with ex := some e }
mutual
def noErr : Val → Bool
  | .tup xs => noErrs xs
  | .lst xs => noErrs xs
  | .fz xs => noErrs xs
  | .dk _ vs => noErrs vs
  | .dt _ vs => noErrs vs
  | .ins _ vs => noErrs vs
  | .err _ _ => false
  | _ => true
def noErrs : List Val → Bool
  | [] => true
  | v :: vs => noErr v && noErrs vs
end
section
variable {K : PySem.W.Frag} {T : Tbl} {e : Addr × Option Addr × Addr} {W : Wd}
mutual
theorem VR.wx (h0 : T.ex = none) : ∀ {v : Val} {x : V}, VR K T W v x → VR K (T.wx e) W v x
  | _, _, .non => .non
  | _, _, .bl b => .bl b
  | _, _, .int b => .int b
  | _, _, .str b => .str b
  | _, _, .ty b => .ty b
  | _, _, .tup h r => .tup h (VRs.wx h0 r)
  | _, _, .lst h r => .lst h (VRs.wx h0 r)
  | _, _, .fz h r => .fz h (VRs.wx h0 r)
  | _, _, .dk z h r => .dk z h (VRs.wx h0 r)
  | _, _, .dt z h r => .dt z h (VRs.wx h0 r)
  | _, _, .ins c z h r => .ins (T := T.wx e) c z h (VRs.wx h0 r)
  | _, _, .loc h => .loc h
  | _, _, .cls h => .cls (T := T.wx e) h
  | _, _, .err0 a b c => by rw [h0] at a; cases a
  | _, _, .errd a b c d r => by rw [h0] at a; cases a
theorem VRs.wx (h0 : T.ex = none) : ∀ {vs : List Val} {xs : List V}, VRs K T W vs xs → VRs K (T.wx e) W vs xs
  | _, _, .nil => .nil
  | _, _, .cons a r => .cons (VR.wx h0 a) (VRs.wx h0 r)
end
mutual
theorem VR.unwx : ∀ {v : Val} {x : V}, VR K (T.wx e) W v x → noErr v = true → VR K T W v x
  | _, _, .non, _ => .non
  | _, _, .bl b, _ => .bl b
  | _, _, .int b, _ => .int b
  | _, _, .str b, _ => .str b
  | _, _, .ty b, _ => .ty b
  | _, _, .tup h r, q => .tup h (VRs.unwx r (by unfold noErr at q; exact q))
  | _, _, .lst h r, q => .lst h (VRs.unwx r (by unfold noErr at q; exact q))
  | _, _, .fz h r, q => .fz h (VRs.unwx r (by unfold noErr at q; exact q))
  | _, _, .dk z h r, q => .dk z h (VRs.unwx r (by unfold noErr at q; exact q))
  | _, _, .dt z h r, q => .dt z h (VRs.unwx r (by unfold noErr at q; exact q))
  | _, _, .ins c z h r, q => .ins (T := T) c z h (VRs.unwx r (by unfold noErr at q; exact q))
  | _, _, .loc h, _ => .loc h
  | _, _, .cls h, _ => .cls (T := T) h
  | _, _, .err0 a b c, q => by unfold noErr at q; cases q
  | _, _, .errd a b c d r, q => by unfold noErr at q; cases q
theorem VRs.unwx : ∀ {vs : List Val} {xs : List V}, VRs K (T.wx e) W vs xs → noErrs vs = true → VRs K T W vs xs
  | _, _, .nil, _ => .nil
  | _, _, .cons a r, q => by
    unfold noErrs at q
    rw [Bool.and_eq_true] at q
    exact .cons (VR.unwx a q.1) (VRs.unwx r q.2)
end
mutual
theorem VR.noErr (h0 : T.ex = none) : ∀ {v : Val} {x : V}, VR K T W v x → PM.noErr v = true
  | _, _, .non => rfl
  | _, _, .bl b => rfl
  | _, _, .int b => rfl
  | _, _, .str b => rfl
  | _, _, .ty b => rfl
  | _, _, .tup h r => by unfold PM.noErr; exact VRs.noErr h0 r
  | _, _, .lst h r => by unfold PM.noErr; exact VRs.noErr h0 r
  | _, _, .fz h r => by unfold PM.noErr; exact VRs.noErr h0 r
  | _, _, .dk z h r => by unfold PM.noErr; exact VRs.noErr h0 r
  | _, _, .dt z h r => by unfold PM.noErr; exact VRs.noErr h0 r
  | _, _, .ins c z h r => by unfold PM.noErr; exact VRs.noErr h0 r
  | _, _, .loc h => rfl
  | _, _, .cls h => rfl
  | _, _, .err0 a b c => by rw [h0] at a; cases a
  | _, _, .errd a b c d r => by rw [h0] at a; cases a
theorem VRs.noErr (h0 : T.ex = none) : ∀ {vs : List Val} {xs : List V}, VRs K T W vs xs → noErrs vs = true
  | _, _, .nil => rfl
  | _, _, .cons a r => by unfold noErrs; rw [VR.noErr h0 a, VRs.noErr h0 r]; rfl
end
def obErr : Ob → Bool
  | .lst xs => noErrs xs
  | .dk _ _ vs => noErrs vs
  | .dt _ _ vs => noErrs vs
  | .ins _ vs => noErrs vs
theorem OR.wx (h0 : T.ex = none) {H : Hp} {a : Addr} : ∀ {o : Ob}, OR K T W H a o → OR K (T.wx e) W H a o
  | .lst _, ⟨xs, h, r⟩ => ⟨xs, h, r.wx h0⟩
  | .dk _ _ _, ⟨xs, z, h, r⟩ => ⟨xs, z, h, r.wx h0⟩
  | .dt _ _ _, ⟨xs, z, h, r⟩ => ⟨xs, z, h, r.wx h0⟩
  | .ins _ _, ⟨C, dx, xs, c, z, h, r⟩ => ⟨C, dx, xs, c, z, h, r.wx h0⟩
theorem OR.unwx {H : Hp} {a : Addr} : ∀ {o : Ob}, OR K (T.wx e) W H a o → obErr o = true → OR K T W H a o
  | .lst _, ⟨xs, h, r⟩, q => ⟨xs, h, r.unwx q⟩
  | .dk _ _ _, ⟨xs, z, h, r⟩, q => ⟨xs, z, h, r.unwx q⟩
  | .dt _ _ _, ⟨xs, z, h, r⟩, q => ⟨xs, z, h, r.unwx q⟩
  | .ins _ _, ⟨C, dx, xs, c, z, h, r⟩, q => ⟨C, dx, xs, c, z, h, r.unwx q⟩
theorem OR.noErr (h0 : T.ex = none) {H : Hp} {a : Addr} : ∀ {o : Ob}, OR K T W H a o → obErr o = true
  | .lst _, ⟨xs, h, r⟩ => r.noErr h0
  | .dk _ _ _, ⟨xs, z, h, r⟩ => r.noErr h0
  | .dt _ _ _, ⟨xs, z, h, r⟩ => r.noErr h0
  | .ins _ _, ⟨C, dx, xs, c, z, h, r⟩ => r.noErr h0
theorem SR.wx (h0 : T.ex = none) {S : Sto} {H : Hp} (s : SR K T W S H) : SR K (T.wx e) W S H := ⟨s.nx, s.sub, s.lt, s.out, fun k o q => (s.at_ k o q).wx h0, s.inj⟩
theorem SR.unwx (h0 : T.ex = none) {W0 : Wd} {S0 S : Sto} {H0 H : Hp} (s0 : SR K T W0 S0 H0) (eq : S.objs = S0.objs) (s : SR K (T.wx e) W S H) : SR K T W S H :=
  ⟨s.nx, s.sub, s.lt, s.out, fun k o q => (s.at_ k o q).unwx ((s0.at_ k o (by rw [← eq]; exact q)).noErr h0), s.inj⟩
theorem ER.wx (h0 : T.ex = none) {ρ : Ev} {σ : L2.St} (r : ER K T W ρ σ) : ER K (T.wx e) W ρ σ := ⟨r.len, fun i v h => let ⟨x, a, b⟩ := r.get i v h; ⟨x, a, b.wx h0⟩⟩
theorem ER.unwx {ρ : Ev} {σ : L2.St} (r : ER K (T.wx e) W ρ σ) (q : ∀ (i : Nat) (v : Val), ρ[i]? = some (some v) → noErr v = true) : ER K T W ρ σ := ⟨r.len, fun i v h => let ⟨x, a, b⟩ := r.get i v h; ⟨x, a, b.unwx (q i v h)⟩⟩
end

open Classical in
/-- behind a suite: the error's name is gone, the store's objects as they were, no error handed out -/
noncomputable def suiteEnd (i : Nat) (S0 : Sto) : SRes → SRes
  | .rt v S => if noErr v = true ∧ S.objs = S0.objs then .rt v S else .st
  | .nx ρ S => if (∀ (j : Nat) (v : Val), (ρ.set i none)[j]? = some (some v) → noErr v = true) ∧ S.objs = S0.objs then .nx (ρ.set i none) S else .st
  | _ => .st
noncomputable def sTry (bd : SM) (i : Nat) (off : List Nat) (hs : List (Nat × SM)) : SM := fun ρ S => match bd ρ S with
  | .ex c vs ρ' S' => match hs.lookup c with
    | some s => suiteEnd i S' (s (ρ'.set i (some (.err c vs))) S')
    | none => if off.contains c then .ex c vs ρ' S' else .st
  | r => r
theorem lookup_mem {α : Type} {c : Nat} {s : α} : ∀ {l : List (Nat × α)}, l.lookup c = some s → (c, s) ∈ l
  | [], h => by simp at h
  | (k, x) :: l, h => by
    simp only [List.lookup] at h
    split at h
    · rename_i hb
      have e : c = k := by simpa using hb
      cases h
      rw [e]; exact List.mem_cons_self
    · exact List.mem_cons_of_mem _ (lookup_mem h)
section
variable {T : Tbl} {X : Cx} {Ew : XW} {x n : Str} {cv : Value} {i : Nat} {body suite : List Stmt} {b₀ : Stmt} {np pos pos' : Pos} {bd : SM} {off : List Nat} {hs : List (Nat × SM)}
theorem ms_try (h0 : T.ex = none) (hst : X.stack = X.env :: X.outer) (hf : X.env.frame = some X.env.locals) (hN : X.N.Nodup) (hi : X.N[i]? = some n) (hln : X.env.kindOf n = some .local) (hc : Names X x cv) (tk : Takes X Ew)
    (hon : ∀ p ∈ hs, ∀ C, T.cl p.1 = some C → PySem.W.exmOne X.K (.ref C) cv = some true) (hoff : ∀ c ∈ off, ∀ C, T.cl c = some C → PySem.W.exmOne X.K (.ref C) cv = some false)
    (hb : ∀ (W : XW) (pn : List (Addr × Obj)) (xe : Value → Shared → Prop), Takes (X.tr pn xe) W → PassesOwn (model X.prog X.w) X.A X.env xe → PBm T (X.tr pn xe) W body bd)
    (hsu : ∀ p ∈ hs, ∀ (C a : Addr) (oe : Obj) (d : Option Addr) (pn : List (Addr × Obj)), T.cl p.1 = some C → Zc (.ref C) d oe → (∃ vs, oe.data = .fields vs) → (T.fl p.1 = [] → d = none) → PBm (T.wx (a, d, C)) (X.suite a ((a, oe) :: pn)) XW0 (b₀ :: suite) p.2) :
    PSm T X Ew (.Try body [.ExceptHandler (some (.Name x np)) (some n) (b₀ :: suite) pos'] [] [] pos) (sTry bd i off hs) := by
  refine PS.to (ps_try_as (i := i) (tb := fun W => rdS X.K T W bd) (Wout := Ew) (ts := fun a cls d D σ H => ∃ p ∈ hs, ∃ C, T.cl p.1 = some C ∧ cls = .ref C ∧ (T.fl p.1 = [] → d = none) ∧ rdS X.K (T.wx (a, d, C)) XW0 p.2 D σ H)
    hst hf hN hi hln hc tk hb (fun a oe cls d pn hz hfd => ?_)) fun D σ H ⟨W, ρ, S, sr, er, h⟩ => ⟨W, ρ, S, sr, er, ?_⟩
  · refine ⟨fun pins s σ H D I ⟨p, hp, C, hC, ec, hd, h⟩ => ?_⟩
    subst ec
    exact (hsu p hp C a oe d pn hC hz hfd hd).run pins s σ H D I h
  · unfold sTry at h
    cases q : bd ρ S with
    | nx ρ' S' => simp only [q] at h; exact h
    | rt v S' => simp only [q] at h; exact h
    | bk ρ' S' => simp only [q] at h; exact h
    | ct ρ' S' => simp only [q] at h; exact h
    | st => simp only [q] at h; exact h
    | ex c vs ρ' S' =>
      simp only [q] at h
      intro W1 H1 σ1 cls od l1 s1 e1 xr
      obtain ⟨C, hC, rfl, hx⟩ := xr
      cases q2 : hs.lookup c with
      | none =>
        simp only [q2] at h
        by_cases ho : off.contains c = true
        · rw [if_pos ho] at h
          refine ⟨false, hoff c (by simpa using ho) C hC, (fun z => nomatch z), fun _ => ?_⟩
          exact h W1 H1 σ1 (.ref C) od l1 s1 e1 ⟨C, hC, rfl, hx⟩
        · rw [if_neg ho] at h; exact False.elim h
      | some s =>
        simp only [q2] at h
        have hm := lookup_mem q2
        refine ⟨true, hon _ hm C hC, fun _ a ha => ?_, fun z => nomatch z⟩
        refine ⟨(c, s), hm, C, hC, rfl, fun z => ?_, W1, ρ'.set i (some (.err c vs)), S', s1.wx h0, (e1.wx h0).set ?_, ?_⟩
        · rcases hx with ⟨_, _, z'⟩ | ⟨z', _⟩
          · exact z'
          · exact absurd z z'
        · rcases hx with ⟨z1, z2, z3⟩ | ⟨z1, d, xs, z2, z3, z4, z5⟩
          · subst z2 z3
            exact .err0 (T := T.wx (a, none, C)) rfl hC z1
          · subst z2
            exact .errd (T := T.wx (a, some d, C)) rfl hC z3 z4 (z5.wx h0)
        · have h' := SPo.wle l1 h
          dsimp only
          cases q3 : s (ρ'.set i (some (.err c vs))) S' with
          | rt v S2 =>
            rw [q3] at h'
            unfold suiteEnd at h'
            by_cases hcnd : noErr v = true ∧ S2.objs = S'.objs
            · simp only [if_pos hcnd] at h'
              exact fun W2 H2 y l2 s2 vy => h' W2 H2 y l2 (s1.unwx h0 hcnd.2 s2) (vy.unwx hcnd.1)
            · simp only [if_neg hcnd] at h'; exact False.elim h'
          | nx ρ2 S2 =>
            rw [q3] at h'
            unfold suiteEnd at h'
            by_cases hcnd : (∀ (j : Nat) (v : Val), (ρ2.set i none)[j]? = some (some v) → noErr v = true) ∧ S2.objs = S'.objs
            · simp only [if_pos hcnd] at h'
              exact fun W2 H2 σ2 l2 s2 e2 => h' W2 H2 (σ2.set i none) l2 (s1.unwx h0 hcnd.2 s2) (ER.unwx e2.forget hcnd.1)
            · simp only [if_neg hcnd] at h'; exact False.elim h'
          | bk ρ2 S2 => rw [q3] at h'; exact False.elim h'
          | ct ρ2 S2 => rw [q3] at h'; exact False.elim h'
          | ex c2 vs2 ρ2 S2 => rw [q3] at h'; exact False.elim h'
          | st => rw [q3] at h'; exact False.elim h'
end

/-! ### isinstance of the error, its class known -/
def eIsErr (i : Nat) (ft : EM) (b : Bool) : EM := fun ρ S => match ρ[i]? with
  | some (some (.err _ [])) => (ft ρ S).bind fun _ S1 => .ok (.bl b) S1
  | _ => .st
section
variable {T : Tbl} {X : Cx} {Ew : XW} {C a : Addr} {oe : Obj} {pn : List (Addr × Obj)} {n : Str} {p p2 p3 pos : Pos} {t : Expr} {ft : EM} {i : Nat} {b : Bool} {cv : Value} {z : V} {zv : Val}
theorem m_cls {x : Str} {c : Nat} {pos : Pos} (hg : Gl X x) (hm : X.mg x = some (.ref C)) (hc : T.cl c = some C) (hd : (x == ("__debug__" : Str)) = false := by decide) : PEm T X Ew (.Name x pos) (eC (.cls c)) :=
  m_glob (z := .ref C) hg hm rfl (fun _ => .cls hc) hd
theorem m_isErr (E : ExcC X.K C) (hz : Zc (.ref C) none oe) (hf : ∃ vs, oe.data = .fields vs) (hmi : X.mg "isinstance" = none) (hgi : Gl (X.suite a ((a, oe) :: pn)) "isinstance")
    (he : PE (X.suite a ((a, oe) :: pn)) (.Name n p) (tVar i)) (ht : PE (X.suite a ((a, oe) :: pn)) t (tC z)) (hz2 : ∀ u, RelV z u → u = cv) (hk : PySem.W.kitOne X.K (.ref C) cv = some b)
    (hs1 : starEach [.Name n p, t] (X.suite a ((a, oe) :: pn)).env = (false, eval (.Name n p) (X.suite a ((a, oe) :: pn)).env) :: starEach [t] (X.suite a ((a, oe) :: pn)).env := by rfl)
    (hs2 : starEach [t] (X.suite a ((a, oe) :: pn)).env = (false, eval t (X.suite a ((a, oe) :: pn)).env) :: starEach [] (X.suite a ((a, oe) :: pn)).env := by rfl)
    (hpl : (backTo pos (starEach [t] (X.suite a ((a, oe) :: pn)).env)).any (·.1) = false := by rfl) :
    PEm (T.wx (a, none, C)) (X.suite a ((a, oe) :: pn)) Ew (.Call (.Name "isinstance" p2) [.Name n p, t] [] pos) (eIsErr i (eC zv) b) := by
  refine PE.to (pe_callB (call_isE E hz hf) hgi hmi b_isinstance (pa_cons he (pa_cons ht pa_nil hs2) hs1) (by decide) (by decide) hs1 hpl) fun σ H Q h => ?_
  obtain ⟨W, ρ, S, s, er, h⟩ := h
  unfold eIsErr at h
  split at h
  · rename_i c hρ
    obtain ⟨y, hy, vy⟩ := er.get i _ hρ
    cases vy with
    | err0 h1 h2 h3 =>
      cases h1
      have h' : RP X.K (T.wx (a, none, C)) W (.ok (Val.bl b) S) (VP X.K (T.wx (a, none, C)) Q) (fun H' c o => Ew c o σ H') := h
      exact ⟨_, hy, z, cv, b, rfl, hz2, hk, h'.now s _ (.bl b)⟩
    | errd h1 _ _ _ _ => cases h1
  · exact False.elim h
end
theorem all_n {α : Type} {p : α → Prop} : ∀ x ∈ ([] : List α), p x := fun _ h => nomatch h
theorem all_c {α : Type} {p : α → Prop} {a : α} {l : List α} (h : p a) (t : ∀ x ∈ l, p x) : ∀ x ∈ a :: l, p x := fun x hx => by
  rcases List.mem_cons.mp hx with e | q
  · rw [e]; exact h
  · exact t x q
theorem Bd.tr {X : Cx} {Ew : XW} {k : Nat} (h : Bd X Ew k) {W : XW} (pn : List (Addr × Obj)) (xe : Value → Shared → Prop) (tk : Takes (X.tr pn xe) W) (hp : PassesOwn (model X.prog X.w) X.A X.env xe) : Bd (X.tr pn xe) W k := ⟨hp, h.calm, h.room, tk, h.nd⟩
end PM

/-! PM, part k: the end -/
namespace PM
open PySem PySem.Spec L2
def S0 : Sto := ⟨0, fun _ => none⟩
def spLaw (K : PySem.W.Frag) : Sp := fun vs H Q _ => ∃ (a : Addr) (ns : List Int), vs = [.ref a] ∧ SqL K H a (ns.map V.int) ∧ ns.length ≤ 63 ∧ ∀ H', Q (.bl true) H'
theorem law_end {P : Program} {w : World} {K : PySem.W.Frag} {mg : Str → Option Value} {base : Heap} {CX : CXT} {k : Nat} {f : Addr} {fd : FuncData} {ps : List Str} {T : Tbl} {F : FM} (L : FnOk P w K mg base CX k f fd ps (spD K T 1 F))
    (hF : ∀ ns : List Int, ns.length ≤ 63 → ∃ S', F [.fz (ns.map Val.int)] S0 = .ok (.bl true) S') : FnOk P w K mg base CX k f fd ps (spLaw K) := by
  refine L.imp fun vs H Q E h => ?_
  obtain ⟨a, ns, rfl, hS, hl, q⟩ := h
  obtain ⟨S', e⟩ := hF ns hl
  refine ⟨⟨H, fun _ => 0, 0⟩, [.fz (ns.map Val.int)], S0, rfl, ⟨rfl, fun _ _ h => h, fun _ _ h => (by cases h), fun _ _ h => (by cases h), fun _ _ h => (by cases h), fun _ _ _ _ h => (by cases h)⟩, .cons (.fz hS (VRs.ofInts ns)) .nil, ?_⟩
  rw [e]
  intro W' H' l s x vx
  cases vx
  exact q H'
theorem cx_false {P : Program} {w : World} {H : Hp} {s : Shared} {e : Value} {s' : Shared} (h : L2.CX P w [] H s (fun _ _ _ => False) e s') : False := by
  obtain ⟨_, _, _, _, _, _, _, _, _, _, _, _, z⟩ := h
  exact z
end PM

/-! PM, part p: plain reasoning about the combinators -/
namespace PM
open PySem PySem.Spec L2

theorem nr {α : Sort u} {a : α} : a = a := Eq.trans rfl rfl
abbrev XP := Nat → List Val → Sto → Prop
def X0 : XP := fun _ _ _ => False
/-- keeps a rewriter out of what comes later -/
structure Kp {α : Type} (a : α) : Type where
def Rn {α : Type} (r : Res α) (P : α → Sto → Prop) (X : XP) (t : Kp (P, X) := ⟨⟩) : Prop := match r with
  | .ok a S => P a S
  | .ex c vs S => X c vs S
  | .st => False
structure En where
  nx : Ev → Sto → Prop
  rt : Val → Sto → Prop
  bk : Ev → Sto → Prop
  ct : Ev → Sto → Prop
  ex : Nat → List Val → Ev → Sto → Prop
def Sn (r : SRes) (D : En) (t : Kp D := ⟨⟩) : Prop := match r with
  | .nx ρ S => D.nx ρ S
  | .rt v S => D.rt v S
  | .bk ρ S => D.bk ρ S
  | .ct ρ S => D.ct ρ S
  | .ex c vs ρ S => D.ex c vs ρ S
  | .st => False
theorem Rn_ext {α : Type} {r : Res α} {P P' : α → Sto → Prop} {X : XP} (h : ∀ a S, P a S = P' a S) : Rn r P X = Rn r P' X := by
  cases r <;> first | exact h _ _ | rfl
section
variable {α β : Type} {P : α → Sto → Prop} {X : XP} {ρ : Ev} {S : Sto} {D : En}
@[simp ↓] theorem rn_ok (a : α) {kk : Kp (P, X)} : Rn (.ok a S) P X kk = P a S := nr
@[simp ↓] theorem rn_ex (c : Nat) (vs : List Val) {kk : Kp (P, X)} : Rn (.ex c vs S : Res α) P X kk = X c vs S := nr
@[simp ↓] theorem rn_st {kk : Kp (P, X)} : Rn (.st : Res α) P X kk = False := nr
@[simp ↓] theorem rn_bind {r : Res α} {g : α → Sto → Res β} {P : β → Sto → Prop} {kk : Kp (P, X)} : Rn (r.bind g) P X kk = Rn r (fun a S => Rn (g a S) P X) X := by cases r <;> rfl
@[simp ↓] theorem rn_noEx {r : Res α} {kk : Kp (P, X)} : Rn (noEx r) P X kk = Rn r P X0 := by cases r <;> rfl
@[simp ↓ high] theorem rn_guard {c : Prop} [Decidable c] {r : Res α} {kk : Kp (P, X)} : Rn (if c then r else .st) P X kk = (c ∧ Rn r P X) := by
  by_cases h : c <;> simp [h, Rn]
@[simp ↓] theorem rn_ite {c : Prop} [Decidable c] {r q : Res α} {kk : Kp (P, X)} : Rn (if c then r else q) P X kk = ((c → Rn r P X) ∧ (¬c → Rn q P X)) := by
  by_cases h : c <;> simp [h]
@[simp ↓] theorem sn_ite {c : Prop} [Decidable c] {r q : SRes} {kk : Kp D} : Sn (if c then r else q) D kk = ((c → Sn r D) ∧ (¬c → Sn q D)) := by
  by_cases h : c <;> simp [h]
@[simp ↓] theorem sn_nx {kk : Kp D} : Sn (.nx ρ S) D kk = D.nx ρ S := nr
@[simp ↓] theorem sn_rt {v : Val} {kk : Kp D} : Sn (.rt v S) D kk = D.rt v S := nr
@[simp ↓] theorem sn_bk {kk : Kp D} : Sn (.bk ρ S) D kk = D.bk ρ S := nr
@[simp ↓] theorem sn_ct {kk : Kp D} : Sn (.ct ρ S) D kk = D.ct ρ S := nr
@[simp ↓] theorem sn_ex {c : Nat} {vs : List Val} {kk : Kp D} : Sn (.ex c vs ρ S) D kk = D.ex c vs ρ S := nr
@[simp ↓] theorem sn_st {kk : Kp D} : Sn .st D kk = False := nr
@[simp ↓] theorem sn_toS {r : Res α} {g : α → Sto → SRes} {kk : Kp D} : Sn (r.toS ρ g) D kk = Rn r (fun a S => Sn (g a S) D) (fun c vs S => D.ex c vs ρ S) := by cases r <;> rfl
@[simp ↓] theorem sn_seq {s t : SM} {N : Ev → Sto → Prop} {R : Val → Sto → Prop} {B C : Ev → Sto → Prop} {E : Nat → List Val → Ev → Sto → Prop} {kk : Kp (⟨N, R, B, C, E⟩ : En)} : Sn (sSeq s t ρ S) ⟨N, R, B, C, E⟩ kk = Sn (s ρ S) ⟨fun ρ S => Sn (t ρ S) ⟨N, R, B, C, E⟩, R, B, C, E⟩ := by
  unfold sSeq; cases s ρ S <;> rfl
theorem rn_runB {n : Nat} {b : SM} {vs : List Val} {P : Val → Sto → Prop} {kk : Kp (P, X)} : Rn (runB n b vs S) P X kk = Sn (b (vs.map Option.some ++ List.replicate (n - vs.length) none) S) ⟨fun _ S => P .non S, P, fun _ _ => False, fun _ _ => False, fun c vs _ S => X c vs S⟩ := by
  unfold runB; cases b (vs.map Option.some ++ List.replicate (n - vs.length) none) S <;> rfl
theorem Rn.imp {r : Res α} {P' : α → Sto → Prop} {X' : XP} (h : Rn r P X) (i : ∀ a S, P a S → P' a S) (j : ∀ c vs S, X c vs S → X' c vs S) : Rn r P' X' := by
  cases r with
  | ok a S => exact i a S h
  | ex c vs S => exact j c vs S h
  | st => exact h
theorem Rn.of {r : Res α} {P' : α → Sto → Prop} {X' : XP} (h : Rn r P X0) (i : ∀ a S, P a S → P' a S) : Rn r P' X' := h.imp i fun _ _ _ z => False.elim z
theorem Sn.imp {r : SRes} {D D' : En} (h : Sn r D) (a : ∀ ρ S, D.nx ρ S → D'.nx ρ S) (b : ∀ v S, D.rt v S → D'.rt v S) (c : ∀ ρ S, D.bk ρ S → D'.bk ρ S) (d : ∀ ρ S, D.ct ρ S → D'.ct ρ S) (e : ∀ c vs ρ S, D.ex c vs ρ S → D'.ex c vs ρ S) : Sn r D' := by
  cases r with
  | nx ρ S => exact a _ _ h
  | rt v S => exact b _ _ h
  | bk ρ S => exact c _ _ h
  | ct ρ S => exact d _ _ h
  | ex _ _ _ _ => exact e _ _ _ _ h
  | st => exact h
/-- exact answers -/
theorem Rn.get {r : Res α} (h : Rn r P X0) : ∃ a S', r = .ok a S' ∧ P a S' := by
  cases r with
  | ok a S => exact ⟨a, S, rfl, h⟩
  | ex c vs S => exact False.elim h
  | st => exact False.elim h

theorem p64 : (2 : Int) ^ 64 = 18446744073709551616 := by decide +kernel
theorem p62 : (2 : Int) ^ 62 = 4611686018427387904 := by decide +kernel
/-! ### expressions -/
def lk : Ev → Nat → Option Val
  | [], _ => none
  | a :: _, 0 => a
  | _ :: l, i + 1 => lk l i
@[simp ↓] theorem lk_0 {a : Option Val} {l : Ev} : lk (a :: l) 0 = a := nr
@[simp ↓] theorem lk_s {a : Option Val} {l : Ev} {i : Nat} : lk (a :: l) (i + 1) = lk l i := nr
def vr (o : Option Val) (S : Sto) : Res Val := match o with
  | some v => .ok v S
  | none => .st
@[simp ↓] theorem vr_some {v : Val} : vr (some v) S = .ok v S := nr
theorem lk_get : ∀ {ρ : Ev} {i : Nat}, lk ρ i = (ρ[i]?).join
  | [], _ => rfl
  | a :: _, 0 => by cases a <;> rfl
  | _ :: l, i + 1 => by unfold lk; rw [lk_get, List.getElem?_cons_succ]
@[simp ↓] theorem e_var (i : Nat) {P : Val → Sto → Prop} {kk : Kp (P, X)} : Rn (eVar i ρ S) P X kk = Rn (vr (lk ρ i) S) P X := by
  unfold eVar
  rw [lk_get]
  cases ρ[i]? with
  | none => rfl
  | some o => cases o <;> rfl
@[simp ↓] theorem e_c {v : Val} {P : Val → Sto → Prop} {kk : Kp (P, X)} : Rn (eC v ρ S) P X kk = Rn (.ok v S) P X := nr
@[simp ↓] theorem e_bin {op : Val → Val → Sto → Res Val} {a b : EM} {P : Val → Sto → Prop} {kk : Kp (P, X)} : Rn (eBin op a b ρ S) P X kk = Rn ((a ρ S).bind fun v S1 => (b ρ S1).bind fun w S2 => op v w S2) P X := nr
@[simp ↓] theorem e_un {op : Val → Sto → Res Val} {a : EM} {P : Val → Sto → Prop} {kk : Kp (P, X)} : Rn (eUn op a ρ S) P X kk = Rn ((a ρ S).bind fun v S1 => op v S1) P X := nr
@[simp ↓] theorem e_anil {P : List Val → Sto → Prop} {kk : Kp (P, X)} : Rn (aNil ρ S) P X kk = Rn (.ok [] S) P X := nr
@[simp ↓] theorem e_acons {a : EM} {r : AM} {P : List Val → Sto → Prop} {kk : Kp (P, X)} : Rn (aCons a r ρ S) P X kk = Rn ((a ρ S).bind fun v S1 => (r ρ S1).bind fun vs S2 => .ok (v :: vs) S2) P X := nr
@[simp ↓] theorem e_bi {op : List Val → Sto → Res Val} {a : AM} {P : Val → Sto → Prop} {kk : Kp (P, X)} : Rn (eBI op a ρ S) P X kk = Rn ((a ρ S).bind fun vs S1 => op vs S1) P X := nr
@[simp ↓] theorem e_tup {a : AM} {P : Val → Sto → Prop} {kk : Kp (P, X)} : Rn (eTup a ρ S) P X kk = Rn ((a ρ S).bind fun vs S1 => if vs.length ≤ sizeLine then .ok (.tup vs) S1 else .st) P X := nr
@[simp ↓] theorem e_lst {bx : Bool} {a : AM} {P : Val → Sto → Prop} {kk : Kp (P, X)} : Rn (eLst bx a ρ S) P X kk = Rn ((a ρ S).bind fun vs S1 => if vs.length ≤ sizeLine then mkL bx vs S1 else .st) P X := nr
@[simp ↓] theorem e_mkt {vs : List Val} {P : Val → Sto → Prop} {kk : Kp (P, X)} : Rn (mkL true vs S) P X kk = Rn (.ok (.loc S.next) (S.alloc (.lst vs))) P X := nr
@[simp ↓] theorem e_mkf {vs : List Val} {P : Val → Sto → Prop} {kk : Kp (P, X)} : Rn (mkL false vs S) P X kk = Rn (.ok (.lst vs) S) P X := nr
@[simp ↓] theorem e_if {t : BM} {a b : EM} {P : Val → Sto → Prop} {kk : Kp (P, X)} : Rn (eIf t a b ρ S) P X kk = Rn ((t ρ S).bind fun c S1 => if c then a ρ S1 else b ρ S1) P X := nr
@[simp ↓] theorem e_and {a b : EM} {P : Val → Sto → Prop} {kk : Kp (P, X)} : Rn (eAnd a b ρ S) P X kk = Rn (a ρ S) (fun v S1 => match v with | .bl true => Rn (b ρ S1) P X | .bl false => P (.bl false) S1 | _ => False) X := by
  unfold eAnd; rw [rn_bind]; refine Rn_ext fun v S1 => ?_; cases v <;> first | rfl | (rename_i b; cases b <;> rfl)
@[simp ↓] theorem e_or {a b : EM} {P : Val → Sto → Prop} {kk : Kp (P, X)} : Rn (eOr a b ρ S) P X kk = Rn (a ρ S) (fun v S1 => match v with | .bl true => P (.bl true) S1 | .bl false => Rn (b ρ S1) P X | _ => False) X := by
  unfold eOr; rw [rn_bind]; refine Rn_ext fun v S1 => ?_; cases v <;> first | rfl | (rename_i b; cases b <;> rfl)
@[simp ↓] theorem e_not {a : EM} {P : Val → Sto → Prop} {kk : Kp (P, X)} : Rn (eNot a ρ S) P X kk = Rn (a ρ S) (fun v S1 => match v with | .bl b => P (.bl !b) S1 | _ => False) X := by
  unfold eNot; rw [rn_bind]; refine Rn_ext fun v S1 => ?_; cases v <;> rfl
@[simp ↓] theorem e_tB {a : EM} {P : Bool → Sto → Prop} {kk : Kp (P, X)} : Rn (tB a ρ S) P X kk = Rn (a ρ S) (fun v S1 => match v with | .bl b => P b S1 | _ => False) X := by
  unfold tB; rw [rn_bind]; refine Rn_ext fun v S1 => ?_; cases v <;> rfl
@[simp ↓] theorem e_tand {a b : BM} {P : Bool → Sto → Prop} {kk : Kp (P, X)} : Rn (tAndM a b ρ S) P X kk = Rn ((a ρ S).bind fun c S1 => if c then b ρ S1 else .ok false S1) P X := nr
@[simp ↓] theorem e_tor {a b : BM} {P : Bool → Sto → Prop} {kk : Kp (P, X)} : Rn (tOrM a b ρ S) P X kk = Rn ((a ρ S).bind fun c S1 => if c then .ok true S1 else b ρ S1) P X := nr
@[simp ↓] theorem e_tnot {a : BM} {P : Bool → Sto → Prop} {kk : Kp (P, X)} : Rn (tNotM a ρ S) P X kk = Rn ((a ρ S).bind fun c S1 => .ok (!c) S1) P X := nr
@[simp ↓] theorem e_ttru {f : EM} {P : Bool → Sto → Prop} {kk : Kp (P, X)} : Rn (tTru f ρ S) P X kk = Rn ((f ρ S).bind fun v S1 => match truOf S1 v with | some c => .ok c S1 | none => .st) P X := nr
@[simp ↓] theorem e_callN {n : Nat} {F : FM} {a : AM} {P : Val → Sto → Prop} {kk : Kp (P, X)} : Rn (eCallN n F a ρ S) P X kk = Rn ((a ρ S).bind fun vs S1 => if vs.length = n then noEx (F vs S1) else .st) P X := nr
@[simp ↓] theorem e_callXN {n : Nat} {F : FM} {a : AM} {P : Val → Sto → Prop} {kk : Kp (P, X)} : Rn (eCallXN n F a ρ S) P X kk = Rn ((a ρ S).bind fun vs S1 => if vs.length = n then F vs S1 else .st) P X := nr
@[simp ↓] theorem e_methN {n c : Nat} {F : FM} {o : EM} {a : AM} {P : Val → Sto → Prop} {kk : Kp (P, X)} : Rn (eMethN n c F o a ρ S) P X kk = Rn ((o ρ S).bind fun v S1 => if isInst c S1 v then (a ρ S1).bind fun vs S2 => if (v :: vs).length = n then noEx (F (v :: vs) S2) else .st else .st) P X := nr
@[simp ↓] theorem e_methXN {n c : Nat} {F : FM} {o : EM} {a : AM} {P : Val → Sto → Prop} {kk : Kp (P, X)} : Rn (eMethXN n c F o a ρ S) P X kk = Rn ((o ρ S).bind fun v S1 => if isInst c S1 v then (a ρ S1).bind fun vs S2 => if (v :: vs).length = n then F (v :: vs) S2 else .st else .st) P X := nr
@[simp ↓] theorem e_makeN {n c : Nat} {F : FM} {a : AM} {P : Val → Sto → Prop} {kk : Kp (P, X)} : Rn (eMakeN n c F a ρ S) P X kk = Rn (a ρ S) (fun vs S1 => (Val.loc S1.next :: vs).length = n ∧ Rn (F (.loc S1.next :: vs) (S1.alloc (.ins c []))) (fun r S2 => r = .non ∧ P (.loc S1.next) S2) X0) X := by
  unfold eMakeN; rw [rn_bind]; refine Rn_ext fun vs S1 => ?_; rw [rn_guard, rn_bind, rn_noEx]
  refine congrArg (And _) ?_
  cases F (.loc S1.next :: vs) (S1.alloc (.ins c [])) with
  | ok r S2 => cases r <;> simp [Rn]
  | ex c vs S => rfl
  | st => rfl
@[simp ↓] theorem e_frz {f : EM} {P : Val → Sto → Prop} {kk : Kp (P, X)} : Rn (eFrz f ρ S) P X kk = Rn ((f ρ S).bind giveUp) P X := nr
@[simp ↓] theorem e_attr {c i : Nat} {o : EM} {P : Val → Sto → Prop} {kk : Kp (P, X)} : Rn (eAttr c i o ρ S) P X kk = Rn ((o ρ S).bind fun v S1 => match insOf S1 v with
  | some (c', vs) => if c' = c then (match vs[i]? with
    | some u => .ok u S1
    | none => .st) else .st
  | none => .st) P X := nr
@[simp ↓] theorem e_bm {chk : Val → Sto → Bool} {op : Val → List Val → Sto → Res Val} {o : EM} {a : AM} {P : Val → Sto → Prop} {kk : Kp (P, X)} : Rn (eBM chk op o a ρ S) P X kk = Rn ((o ρ S).bind fun v S1 => if chk v S1 then (a ρ S1).bind fun vs S2 => op v vs S2 else .st) P X := nr
@[simp ↓] theorem e_chain {o o' : Val → Val → Sto → Res Val} {a b c : EM} {P : Val → Sto → Prop} {kk : Kp (P, X)} : Rn (eChain o o' a b c ρ S) P X kk = Rn (a ρ S) (fun v S1 => Rn (b ρ S1) (fun w S2 => Rn (o v w S2) (fun k S3 => match k with
  | .bl true => Rn (c ρ S3) (fun z S4 => Rn (o' w z S4) P X) X | .bl false => P (.bl false) S3 | _ => False) X) X) X := by
  unfold eChain
  rw [rn_bind]; refine Rn_ext fun v S1 => ?_; rw [rn_bind]; refine Rn_ext fun w S2 => ?_; rw [rn_bind]; refine Rn_ext fun k S3 => ?_
  cases k <;> first | rfl | skip
  rename_i b
  cases b
  · rfl
  · show Rn (Res.bind _ _) P X = _
    rw [rn_bind]
@[simp ↓] theorem e_onone {P : Option Int → Sto → Prop} {kk : Kp (P, X)} : Rn (oNone ρ S) P X kk = Rn (.ok none S) P X := nr
@[simp ↓] theorem e_osome {f : EM} {P : Option Int → Sto → Prop} {kk : Kp (P, X)} : Rn (oSome f ρ S) P X kk = Rn ((f ρ S).bind fun v S1 => match v with | .int i => .ok (some i) S1 | _ => .st) P X := nr
@[simp ↓] theorem e_cut {bx : Bool} {f : EM} {lo hi : OM} {P : Val → Sto → Prop} {kk : Kp (P, X)} : Rn (eCut bx f lo hi ρ S) P X kk = Rn ((f ρ S).bind fun v S1 => (lo ρ S1).bind fun l S2 => (hi ρ S2).bind fun u S3 => vCut bx v l u S3) P X := nr
@[simp ↓] theorem e_listR {bx : Bool} {a b : EM} {P : Val → Sto → Prop} {kk : Kp (P, X)} : Rn (eListR bx a b ρ S) P X kk = Rn ((a ρ S).bind fun v S1 => (b ρ S1).bind fun w S2 => match v, w with
  | .int i, .int j => if -4611686018427387904 ≤ i ∧ i < 4611686018427387904 ∧ -4611686018427387904 ≤ j ∧ j < 4611686018427387904 ∧ (j - i).toNat ≤ 2 ^ 24 then mkL bx (rangeL i (j - i).toNat) S2 else .st
  | _, _ => .st) P X := by unfold eListR; simp only [p62] <;> rfl
@[simp ↓] theorem e_iseq {f : EM} {P : ItV → Sto → Prop} {kk : Kp (P, X)} : Rn (iSeq f ρ S) P X kk = Rn ((f ρ S).bind seqIt) P X := nr
@[simp ↓] theorem e_irange1 {a : EM} {P : ItV → Sto → Prop} {kk : Kp (P, X)} : Rn (iRange1 a ρ S) P X kk = Rn ((a ρ S).bind fun v S1 => match v with
  | .int j => if -4611686018427387904 ≤ j ∧ j < 4611686018427387904 then .ok ⟨rangeL 0 j.toNat, fun _ => True⟩ S1 else .st
  | _ => .st) P X := by unfold iRange1; simp only [p62] <;> rfl
@[simp ↓] theorem e_irange2 {a b : EM} {P : ItV → Sto → Prop} {kk : Kp (P, X)} : Rn (iRange2 a b ρ S) P X kk = Rn ((a ρ S).bind fun v S1 => (b ρ S1).bind fun w S2 => match v, w with
  | .int i, .int j => if -4611686018427387904 ≤ i ∧ i < 4611686018427387904 ∧ -4611686018427387904 ≤ j ∧ j < 4611686018427387904 then .ok ⟨rangeL i (j - i).toNat, fun _ => True⟩ S2 else .st
  | _, _ => .st) P X := by unfold iRange2; simp only [p62] <;> rfl
@[simp ↓] theorem e_irev {f : EM} {P : ItV → Sto → Prop} {kk : Kp (P, X)} : Rn (iRev f ρ S) P X kk = Rn ((f ρ S).bind fun v S1 => match v with
  | .lst xs => .ok ⟨xs.reverse, fun _ => True⟩ S1
  | .fz xs => .ok ⟨xs.reverse, fun _ => True⟩ S1
  | .loc k => (match S1.objs k with
    | some (.lst xs) => .ok ⟨xs.reverse, fun S' => S'.objs k = some (.lst xs)⟩ S1
    | _ => .st)
  | _ => .st) P X := nr

/-! ### statements -/
@[simp ↓] theorem s_next {D : En} {kk : Kp D} : Sn (sNext ρ S) D kk = Sn (.nx ρ S) D := nr
@[simp ↓] theorem s_never {D : En} {kk : Kp D} : Sn (sNever ρ S) D kk = Sn (.st) D := nr
@[simp ↓] theorem s_set {i : Nat} {e : EM} {D : En} {kk : Kp D} : Sn (sSet i e ρ S) D kk = Sn ((e ρ S).toS ρ fun v S1 => .nx (ρ.set i (some v)) S1) D := nr
@[simp ↓] theorem s_par {i j : Nat} {a : AM} {D : En} {kk : Kp D} : Sn (sPar i j a ρ S) D kk = Sn ((a ρ S).toS ρ fun vs S1 => match vs with
  | [v, w] => .nx ((ρ.set i (some v)).set j (some w)) S1
  | _ => .st) D := nr
@[simp ↓] theorem s_drop {e : EM} {D : En} {kk : Kp D} : Sn (sDrop e ρ S) D kk = Sn ((e ρ S).toS ρ fun _ S1 => .nx ρ S1) D := nr
@[simp ↓] theorem s_ret {e : EM} {D : En} {kk : Kp D} : Sn (sRet e ρ S) D kk = Sn ((e ρ S).toS ρ fun v S1 => .rt v S1) D := nr
@[simp ↓] theorem s_retn {D : En} {kk : Kp D} : Sn (sRetN ρ S) D kk = Sn (.rt .non S) D := nr
@[simp ↓] theorem s_break {D : En} {kk : Kp D} : Sn (sBreak ρ S) D kk = Sn (.bk ρ S) D := nr
@[simp ↓] theorem s_cont {D : En} {kk : Kp D} : Sn (sCont ρ S) D kk = Sn (.ct ρ S) D := nr
@[simp ↓] theorem s_raise {c : Nat} {D : En} {kk : Kp D} : Sn (sRaise c ρ S) D kk = Sn (.ex c [] ρ S) D := nr
@[simp ↓] theorem s_if {t : BM} {a b : SM} {D : En} {kk : Kp D} : Sn (sIf t a b ρ S) D kk = Sn ((t ρ S).toS ρ fun c S1 => if c then a ρ S1 else b ρ S1) D := nr
@[simp ↓] theorem s_asg {t : Tgt} {e : EM} {D : En} {kk : Kp D} : Sn (sAsg t e ρ S) D kk = Sn ((e ρ S).toS ρ fun v S1 => match t.set v ρ with
  | some ρ' => .nx ρ' S1
  | none => .st) D := nr
@[simp ↓] theorem s_aug {i : Nat} {op : Val → Val → Sto → Res Val} {e : EM} {D : En} {kk : Kp D} : Sn (sAug i op e ρ S) D kk = Rn (vr (lk ρ i) S) (fun v _ => Sn ((e ρ S).toS ρ fun w S1 => (op v w S1).toS ρ fun z S2 => .nx (ρ.set i (some z)) S2) D) X0 := by
  unfold sAug; rw [lk_get]
  cases ρ[i]? with
  | none => rfl
  | some o => cases o <;> rfl
@[simp ↓] theorem s_setIx {o i e : EM} {D : En} {kk : Kp D} : Sn (sSetIx o i e ρ S) D kk = Sn ((e ρ S).toS ρ fun u S1 => (o ρ S1).toS ρ fun v S2 => (i ρ S2).toS ρ fun j S3 => match setIx v j u S3 with
  | some S4 => .nx ρ S4
  | none => .st) D := nr
@[simp ↓] theorem s_setIx2 {o i o2 i2 e : EM} {D : En} {kk : Kp D} : Sn (sSetIx2 o i o2 i2 e ρ S) D kk = Rn (e ρ S) (fun t S1 => match t with
  | .tup [u, u2] => Rn (o ρ S1) (fun v S2 => Rn (i ρ S2) (fun j S3 => match setIx v j u S3 with
    | some S4 => Rn (o2 ρ S4) (fun v S5 => Rn (i2 ρ S5) (fun j S6 => match setIx v j u2 S6 with
      | some S7 => D.nx ρ S7
      | none => False) (fun c vs S => D.ex c vs ρ S)) (fun c vs S => D.ex c vs ρ S)
    | none => False) (fun c vs S => D.ex c vs ρ S)) (fun c vs S => D.ex c vs ρ S)
  | _ => False) (fun c vs S => D.ex c vs ρ S) := by
  unfold sSetIx2
  rw [sn_toS]
  refine Rn_ext fun t S1 => ?_
  split
  · rw [sn_toS]; refine Rn_ext fun v S2 => ?_
    rw [sn_toS]; refine Rn_ext fun j S3 => ?_
    cases setIx v j _ S3 with
    | none => rfl
    | some S4 =>
      dsimp only
      rw [sn_toS]; refine Rn_ext fun v S5 => ?_
      rw [sn_toS]; refine Rn_ext fun j S6 => ?_
      cases setIx v j _ S6 <;> rfl
  · rename_i hn
    first
      | rfl
      | (split
         · exact absurd rfl (hn _ _)
         · rfl)
@[simp ↓] theorem s_attr {c i : Nat} {o e : EM} {D : En} {kk : Kp D} : Sn (sAttr c i o e ρ S) D kk = Sn ((e ρ S).toS ρ fun u S1 => (o ρ S1).toS ρ fun v S2 => match v with
  | .loc k => (match S2.objs k with
    | some (.ins c' vs) => if c' = c then (if i < vs.length then .nx ρ (S2.put k (.ins c (vs.set i u))) else if i = vs.length then .nx ρ (S2.put k (.ins c (vs ++ [u]))) else .st) else .st
    | _ => .st)
  | _ => .st) D := nr
@[simp ↓] theorem s_for {it : IM} {tg : Tgt} {b : SM} {D : En} {kk : Kp D} : Sn (sFor it tg b ρ S) D kk = Sn ((it ρ S).toS ρ fun iv S1 => forGo iv.src tg b iv.items ρ S1) D := nr
@[simp] theorem tgt_name {i : Nat} {v : Val} : Tgt.set (.name i) v ρ = some (ρ.set i (some v)) := by unfold Tgt.set; rfl
end

/-! ### the store -/
section
variable {S S' S2 : Sto} {j k : Nat} {o o' : Ob}
@[simp] theorem put_at : (S.put k o).objs k = some o := if_pos rfl
theorem put_ne (h : j ≠ k) : (S.put k o).objs j = S.objs j := if_neg h
@[simp] theorem put_next : (S.put k o).next = S.next := nr
@[simp] theorem drop_next : (S.drop k).next = S.next := nr
@[simp] theorem alloc_at : (S.alloc o).objs S.next = some o := if_pos rfl
theorem alloc_ne (h : j ≠ S.next) : (S.alloc o).objs j = S.objs j := if_neg h
@[simp] theorem alloc_next : (S.alloc o).next = S.next + 1 := nr
theorem drop_ne (h : j ≠ k) : (S.drop k).objs j = S.objs j := if_neg h
@[simp] theorem put_put : (S.put k o).put k o' = S.put k o' := by
  unfold Sto.put; congr 1; funext i; dsimp only; split <;> simp_all
@[simp] theorem alloc_put : (S.alloc o).put S.next o' = S.alloc o' := by
  unfold Sto.put Sto.alloc; congr 1; funext i; dsimp only; split <;> simp_all
/-- the old objects are as they were -/
structure Ext (S S' : Sto) : Prop where
  le : S.next ≤ S'.next
  eq : ∀ k, k < S.next → S'.objs k = S.objs k
theorem Ext.refl (S : Sto) : Ext S S := ⟨Nat.le_refl _, fun _ _ => rfl⟩
theorem Ext.trans (a : Ext S S') (b : Ext S' S2) : Ext S S2 := ⟨Nat.le_trans a.le b.le, fun k h => (b.eq k (Nat.lt_of_lt_of_le h a.le)).trans (a.eq k h)⟩
theorem Ext.alloc (a : Ext S S') : Ext S (S'.alloc o) := ⟨Nat.le_succ_of_le a.le, fun k h => by rw [alloc_ne (by have := a.le; omega)]; exact a.eq k h⟩
theorem Ext.put (a : Ext S S') (h : S.next ≤ k) : Ext S (S'.put k o) := ⟨a.le, fun j hj => by rw [put_ne (by omega)]; exact a.eq j hj⟩
theorem Ext.drop (a : Ext S S') (h : S.next ≤ k) : Ext S (S'.drop k) := ⟨a.le, fun j hj => by rw [drop_ne (by omega)]; exact a.eq j hj⟩
theorem Ext.at_ (a : Ext S S') (h : k < S.next) (q : S.objs k = some o) : S'.objs k = some o := (a.eq k h).trans q
/-- the objects but one are as they were -/
structure ExtB (k : Nat) (S S' : Sto) : Prop where
  le : S.next ≤ S'.next
  eq : ∀ j, j < S.next → j ≠ k → S'.objs j = S.objs j
theorem Ext.b (a : Ext S S') : ExtB k S S' := ⟨a.le, fun j h _ => a.eq j h⟩
theorem ExtB.refl : ExtB k S S := (Ext.refl S).b
theorem ExtB.trans (a : ExtB k S S') (b : ExtB k S' S2) : ExtB k S S2 := ⟨Nat.le_trans a.le b.le, fun j h n => (b.eq j (Nat.lt_of_lt_of_le h a.le) n).trans (a.eq j h n)⟩
theorem ExtB.put (a : ExtB k S S') : ExtB k S (S'.put k o) := ⟨a.le, fun j hj n => by rw [put_ne n]; exact a.eq j hj n⟩
/-- a box of this piece only -/
theorem ExtB.in {S0 : Sto} (x : Ext S0 S) (h : S0.next ≤ k) (a : ExtB k S S') : Ext S0 S' := ⟨Nat.le_trans x.le a.le, fun j hj => (a.eq j (Nat.lt_of_lt_of_le hj x.le) (by omega)).trans (x.eq j hj)⟩
end

/-! ### loops -/
section
variable {src : Sto → Prop} {tg : Tgt} {b : SM} {N : Ev → Sto → Prop} {R : Val → Sto → Prop} {B C : Ev → Sto → Prop} {E : Nat → List Val → Ev → Sto → Prop}
theorem sn_forGo (I : List Val → Ev → Sto → Prop) (hsrc : ∀ r ρ S, I r ρ S → src S)
    (step : ∀ v r ρ S, I (v :: r) ρ S → ∃ ρ1, tg.set v ρ = some ρ1 ∧ Sn (b ρ1 S) ⟨I r, R, N, I r, E⟩) (fin : ∀ ρ S, I [] ρ S → N ρ S) :
    ∀ {vs : List Val} {ρ : Ev} {S : Sto}, I vs ρ S → Sn (forGo src tg b vs ρ S) ⟨N, R, B, C, E⟩
  | [], ρ, S, h => by
    unfold forGo
    rw [if_pos (hsrc _ _ _ h)]
    exact fin ρ S h
  | v :: vs, ρ, S, h => by
    unfold forGo
    rw [if_pos (hsrc _ _ _ h)]
    obtain ⟨ρ1, e, q⟩ := step v vs ρ S h
    rw [e]
    dsimp only
    cases eb : b ρ1 S with
    | nx ρ' S' => rw [eb] at q; exact sn_forGo I hsrc step fin q
    | rt v S' => rw [eb] at q; exact q
    | bk ρ' S' => rw [eb] at q; exact q
    | ct ρ' S' => rw [eb] at q; exact sn_forGo I hsrc step fin q
    | ex c vs ρ' S' => rw [eb] at q; exact q
    | st => rw [eb] at q; exact q
/-- a loop over numbers from 0 -/
theorem rangeL_drop (lo : Int) (n i : Nat) (h : i < n) : (rangeL lo n).drop i = .int (lo + (i : Int)) :: (rangeL lo n).drop (i + 1) := by
  have hl : (rangeL lo n).length = n := by simp [rangeL]
  rw [List.drop_eq_getElem_cons (by omega)]
  congr 1
  have := rangeL_get lo n i
  rw [if_pos h] at this
  exact (List.getElem?_eq_some_iff.mp this).2
theorem sn_forR {lo : Int} {n : Nat} {ρ : Ev} {S : Sto} (I : Nat → Ev → Sto → Prop) (init : I 0 ρ S) (hsrc : ∀ i ρ S, I i ρ S → src S)
    (step : ∀ i ρ S, i < n → I i ρ S → ∃ ρ1, tg.set (.int (lo + (i : Int))) ρ = some ρ1 ∧ Sn (b ρ1 S) ⟨I (i + 1), R, N, I (i + 1), E⟩) (fin : ∀ ρ S, I n ρ S → N ρ S) :
    Sn (forGo src tg b (rangeL lo n) ρ S) ⟨N, R, B, C, E⟩ := by
  have hl : (rangeL lo n).length = n := by simp [rangeL]
  refine sn_forGo (N := N) (R := R) (B := B) (C := C) (E := E) (fun r ρ S => ∃ i, i ≤ n ∧ r = (rangeL lo n).drop i ∧ I i ρ S) (fun r ρ S ⟨i, _, _, h⟩ => hsrc i ρ S h) (fun v r ρ S ⟨i, hi, e, h⟩ => ?_) (fun ρ S ⟨i, hi, e, h⟩ => ?_) ⟨0, Nat.zero_le _, rfl, init⟩
  · have hi' : i < n := by
      rcases Nat.lt_or_ge i n with q | q
      · exact q
      · rw [List.drop_eq_nil_of_le (by omega)] at e; cases e
    rw [rangeL_drop lo n i hi'] at e
    obtain ⟨rfl, rfl⟩ := List.cons.inj e
    obtain ⟨ρ1, q1, q2⟩ := step i ρ S hi' h
    refine ⟨ρ1, q1, q2.imp ?_ ?_ ?_ ?_ ?_⟩
    · exact fun ρ S z => ⟨i + 1, hi', rfl, z⟩
    · exact fun _ _ z => z
    · exact fun _ _ z => z
    · exact fun ρ S z => ⟨i + 1, hi', rfl, z⟩
    · exact fun _ _ _ _ z => z
  · have : n ≤ i := by
      have := congrArg List.length e
      simp only [List.length_nil, List.length_drop, hl] at this
      omega
    obtain rfl : i = n := by omega
    exact fin ρ S h
theorem sn_forM {α : Type} {f : α → Val} {xs : List α} {ρ : Ev} {S : Sto} (I : List α → Ev → Sto → Prop) (init : I xs ρ S) (hsrc : ∀ r ρ S, I r ρ S → src S)
    (step : ∀ v r ρ S, v ∈ xs → I (v :: r) ρ S → ∃ ρ1, tg.set (f v) ρ = some ρ1 ∧ Sn (b ρ1 S) ⟨I r, R, N, I r, E⟩) (fin : ∀ ρ S, I [] ρ S → N ρ S) : Sn (forGo src tg b (xs.map f) ρ S) ⟨N, R, B, C, E⟩ := by
  refine sn_forGo (N := N) (R := R) (B := B) (C := C) (E := E) (fun r ρ S => ∃ ys, (∀ y ∈ ys, y ∈ xs) ∧ r = ys.map f ∧ I ys ρ S) (fun r ρ S ⟨i, _, _, h⟩ => hsrc i ρ S h) (fun v r ρ S ⟨ys, hy, e, h⟩ => ?_) (fun ρ S ⟨ys, hy, e, h⟩ => ?_) ⟨xs, fun _ h => h, rfl, init⟩
  · cases ys with
    | nil => cases e
    | cons y ys =>
      obtain ⟨rfl, rfl⟩ := List.cons.inj e
      obtain ⟨ρ1, q1, q2⟩ := step y ys ρ S (hy y List.mem_cons_self) h
      refine ⟨ρ1, q1, q2.imp ?_ ?_ ?_ ?_ ?_⟩
      · exact fun ρ S z => ⟨ys, fun z hz => hy z (List.mem_cons_of_mem _ hz), rfl, z⟩
      · exact fun _ _ z => z
      · exact fun _ _ z => z
      · exact fun ρ S z => ⟨ys, fun z hz => hy z (List.mem_cons_of_mem _ hz), rfl, z⟩
      · exact fun _ _ _ _ z => z
  · cases ys with
    | nil => exact fin ρ S h
    | cons y ys => cases e
end

/-! ### list comprehensions: each item one value, no test -/
section
variable {src : Sto → Prop} {tg : Tgt} {elt : EM} {S0 S : Sto} {ρ0 : Ev} {n0 : Nat}
theorem lcGo_map {α : Type} {f g : α → Val} (hn : S0.next ≤ n0) : ∀ {xs : List α} {acc : List Val} {S : Sto}, Ext S0 S → n0 < S.next → S.objs n0 = some (.lst acc) → acc.length + xs.length ≤ sizeLine →
    (∀ S', Ext S0 S' → src S') → (∀ x ∈ xs, ∀ S', Ext S0 S' → ∃ ρ1, tg.set (f x) ρ0 = some ρ1 ∧ Rn (elt ρ1 S') (fun u S2 => u = g x ∧ Ext S' S2) X0) →
    Rn (lcGo src tg tYesM elt n0 ρ0 (xs.map f) S) (fun _ S2 => Ext S0 S2 ∧ n0 < S2.next ∧ S2.objs n0 = some (.lst (acc ++ xs.map g))) X0
  | [], acc, S, x, l, h, _, hs, _ => by
    rw [List.map_nil]
    unfold lcGo
    rw [if_pos (hs S x)]
    exact ⟨x, l, by rw [List.map_nil, List.append_nil]; exact h⟩
  | a :: xs, acc, S, x, l, h, hl, hs, he => by
    rw [List.map_cons]
    unfold lcGo
    rw [if_pos (hs S x)]
    obtain ⟨ρ1, e, q⟩ := he a List.mem_cons_self S x
    rw [e]
    dsimp only
    unfold tYesM
    rw [rn_bind, rn_noEx, rn_ok, if_pos rfl, rn_bind, rn_noEx]
    refine q.of fun u S2 ⟨hu, x2⟩ => ?_
    have h2 := x2.at_ l h
    rw [h2]
    dsimp only
    simp only [List.length_cons] at hl
    rw [if_pos (by omega)]
    subst hu
    have := lcGo_map (f := f) (g := g) hn (xs := xs) (acc := acc ++ [g a]) (S := S2.put n0 (.lst (acc ++ [g a]))) ((x.trans x2).put hn) (Nat.lt_of_lt_of_le l x2.le) put_at (by rw [List.length_append]; simp only [List.length_cons, List.length_nil]; omega) hs (fun z hz => he z (List.mem_cons_of_mem _ hz))
    refine this.of fun _ S3 ⟨a1, a2, a3⟩ => ⟨a1, a2, ?_⟩
    rw [a3, List.append_assoc]; rfl
/-- the comprehension as a value -/
theorem eLc_map {α : Type} {f g : α → Val} {it : IM} {ρ : Ev} {ws : List Nat} {X : XP} {P : Val → Sto → Prop} {xs : List α} {S1 : Sto} (hit : it ρ S = .ok ⟨xs.map f, src⟩ S1) (hx : Ext S S1) (hl : xs.length ≤ sizeLine)
    (hs : ∀ S', Ext S1 S' → src S') (he : ∀ x ∈ xs, ∀ S', Ext S1 S' → ∃ ρ1, tg.set (f x) (wipeE ρ ws) = some ρ1 ∧ Rn (elt ρ1 S') (fun u S2 => u = g x ∧ Ext S' S2) X0)
    (h : ∀ S2, Ext S1 S2 → P (.lst (xs.map g)) S2) : Rn (eLc false it tg tYesM elt ws ρ S) P X := by
  unfold eLc
  rw [rn_bind, hit, rn_ok, rn_bind]
  refine (lcGo_map (f := f) (g := g) (src := src) (S0 := S1) (n0 := S1.next) (Nat.le_refl _) (acc := []) ((Ext.refl S1).alloc) (Nat.lt_succ_self _) alloc_at (by simpa using hl) hs he).of fun _ S2 ⟨x, l, q⟩ => ?_
  unfold lcEnd
  rw [q]
  exact h _ (x.drop (Nat.le_refl _))
end

/-! ### data -/
/-- a value that compares -/
def Dv (S : Sto) (v : Val) (d : PyData) : Prop := datS S v = some d ∧ SeqAt.shaped d = true
theorem eqv_self {d : PyData} (h : SeqAt.shaped d = true) : PyData.eqv d d = true := SeqAt.eqv_refl d (SeqAt.canLay_of_shaped h)
theorem vEq_same {S : Sto} {v w : Val} {d : PyData} (h1 : Dv S v d) (h2 : datS S w = some d) : vEq v w S = .ok (.bl true) S := by
  unfold vEq
  rw [h1.1, h2]
  dsimp only
  rw [if_pos ⟨h1.2, h1.2⟩, eqv_self h1.2]
theorem vNe_same {S : Sto} {v w : Val} {d : PyData} (h1 : Dv S v d) (h2 : datS S w = some d) : vNe v w S = .ok (.bl false) S := by
  unfold vNe
  rw [h1.1, h2]
  dsimp only
  rw [if_pos ⟨h1.2, h1.2⟩, eqv_self h1.2]; rfl
theorem dats_map {α : Type} {f : α → Val} {g : α → PyData} : ∀ {xs : List α}, (∀ x ∈ xs, (f x).dat = some (g x)) → Val.dats (xs.map f) = some (xs.map g)
  | [], _ => by unfold Val.dats; rfl
  | x :: xs, h => by
    rw [List.map_cons]
    unfold Val.dats
    rw [h x List.mem_cons_self, dats_map fun y hy => h y (List.mem_cons_of_mem _ hy)]; rfl
theorem dat_ints (xs : List Int) : Val.dats (xs.map .int) = some (xs.map .int) := dats_map fun x _ => by unfold Val.dat; rfl
/-- canLay0 and depth of rows -/
def lay (k : Nat) (d : PyData) : Bool := d.canLay0 && decide (d.depth ≤ k)
theorem lay_all {k : Nat} : ∀ {ds : List PyData}, (∀ d ∈ ds, lay k d = true) → PyData.canLayAll0 ds = true ∧ PyData.depthAll ds ≤ k
  | [], _ => ⟨by unfold PyData.canLayAll0; rfl, by unfold PyData.depthAll; exact Nat.zero_le _⟩
  | d :: ds, h => by
    have h1 := h d List.mem_cons_self
    have h2 := lay_all fun z hz => h z (List.mem_cons_of_mem _ hz)
    unfold lay at h1
    simp only [Bool.and_eq_true, decide_eq_true_eq] at h1
    unfold PyData.canLayAll0 PyData.depthAll
    exact ⟨by rw [h1.1, h2.1]; rfl, Nat.max_le.mpr ⟨h1.2, h2.2⟩⟩
theorem lay_list {k : Nat} {ds : List PyData} (h : ∀ d ∈ ds, lay k d = true) : lay (k + 1) (.list ds) = true := by
  have := lay_all h
  unfold lay PyData.canLay0 PyData.depth
  rw [this.1, Bool.true_and, decide_eq_true_eq]; omega
theorem lay_tuple {k : Nat} {ds : List PyData} (h : ∀ d ∈ ds, lay k d = true) : lay (k + 1) (.tuple ds) = true := by
  have := lay_all h
  unfold lay PyData.canLay0 PyData.depth
  rw [this.1, Bool.true_and, decide_eq_true_eq]; omega
theorem lay_int {k : Nat} (i : Int) : lay k (.int i) = true := by unfold lay PyData.canLay0 PyData.depth; simp
theorem lay_bool {k : Nat} (b : Bool) : lay k (.bool b) = true := by unfold lay PyData.canLay0 PyData.depth; simp
theorem lay_none {k : Nat} : lay k .none = true := by unfold lay PyData.canLay0 PyData.depth; simp
theorem lay_str {k : Nat} {x : Str} (h : PyData.strOk x = true) : lay k (.str x) = true := by unfold lay PyData.canLay0 PyData.depth; simp [h]
theorem shaped_of {k : Nat} {d : PyData} (h : lay k d = true) (hk : k ≤ 64) : SeqAt.shaped d = true := by
  unfold lay at h
  simp only [Bool.and_eq_true, decide_eq_true_eq] at h
  unfold SeqAt.shaped
  rw [h.1, Bool.true_and, decide_eq_true_eq]; omega

/-! ### operations at known values -/
section
variable {S : Sto} {i j : Int} {xs ys : List Val}
@[simp ↓] theorem v_add {bx : Bool} : vAdd bx (.int i) (.int j) S = .ok (.int (i + j)) S := nr
@[simp ↓] theorem v_addT {bx : Bool} : vAdd bx (.tup xs) (.tup ys) S = if xs.length + ys.length ≤ sizeLine then .ok (.tup (xs ++ ys)) S else .st := nr
@[simp ↓] theorem v_sub : vSub (.int i) (.int j) S = .ok (.int (i - j)) S := nr
@[simp ↓] theorem v_mul : vMul (.int i) (.int j) S = if (-18446744073709551616 < i ∧ i < 18446744073709551616) ∨ (-18446744073709551616 < j ∧ j < 18446744073709551616) then .ok (.int (i * j)) S else .st := by
  unfold vMul; simp only [p64]
@[simp ↓] theorem v_pow18 : vPow (.int 10) (.int 18) S = .ok (.int 1000000000000000000) S := by
  unfold vPow; dsimp only; rw [if_pos (by decide +kernel)]; congr 1
@[simp ↓] theorem v_fdiv : vFdiv (.int i) (.int j) S = if 0 < j ∧ j < 1073741824 then .ok (.int (i / j)) S else .st := nr
@[simp ↓] theorem v_mod : vMod (.int i) (.int j) S = if 0 < j then .ok (.int (i % j)) S else .st := nr
@[simp ↓] theorem v_neg : vNeg (.int i) S = .ok (.int (-i)) S := nr
@[simp ↓] theorem v_lt : vLt (.int i) (.int j) S = .ok (.bl (decide (i < j))) S := nr
@[simp ↓] theorem v_le : vLe (.int i) (.int j) S = .ok (.bl (decide (i ≤ j))) S := nr
@[simp ↓] theorem v_gt : vGt (.int i) (.int j) S = .ok (.bl (decide (j < i))) S := nr
@[simp ↓] theorem v_ge : vGe (.int i) (.int j) S = .ok (.bl (decide (j ≤ i))) S := nr
@[simp ↓] theorem v_eqI : vEq (.int i) (.int j) S = .ok (.bl (decide (i = j))) S := by
  unfold vEq datS Val.dat
  dsimp only
  rw [if_pos ⟨shaped_of (lay_int (k := 0) i) (by decide), shaped_of (lay_int (k := 0) j) (by decide)⟩]
  unfold PyData.eqv; rfl
@[simp ↓] theorem v_neI : vNe (.int i) (.int j) S = .ok (.bl (!decide (i = j))) S := by
  unfold vNe datS Val.dat
  dsimp only
  rw [if_pos ⟨shaped_of (lay_int (k := 0) i) (by decide), shaped_of (lay_int (k := 0) j) (by decide)⟩]
  unfold PyData.eqv; rfl
theorem v_eqS {x y : Str} (hx : PyData.strOk x = true) (hy : PyData.strOk y = true) : vEq (.str x) (.str y) S = .ok (.bl (x == y)) S := by
  unfold vEq datS Val.dat
  dsimp only
  rw [if_pos ⟨shaped_of (lay_str (k := 0) hx) (by decide), shaped_of (lay_str (k := 0) hy) (by decide)⟩]
  unfold PyData.eqv; rfl
@[simp ↓] theorem v_ixT : vIx (.tup xs) (.int i) S = vr (atI xs i) S := by show (match atI xs i with | some u => Res.ok u S | none => .st) = _; cases atI xs i <;> rfl
@[simp ↓] theorem v_ixL : vIx (.lst xs) (.int i) S = vr (atI xs i) S := by show (match atI xs i with | some u => Res.ok u S | none => .st) = _; cases atI xs i <;> rfl
@[simp ↓] theorem v_ixF : vIx (.fz xs) (.int i) S = vr (atI xs i) S := by show (match atI xs i with | some u => Res.ok u S | none => .st) = _; cases atI xs i <;> rfl
theorem lstOf_loc {k : Nat} (h : S.objs k = some (.lst xs)) : lstOf S (.loc k) = some xs := by unfold lstOf; dsimp only; rw [h]
@[simp] theorem lstOf_lst : lstOf S (.lst xs) = some xs := nr
@[simp] theorem lstOf_fz : lstOf S (.fz xs) = some xs := nr
theorem mlstOf_loc {k : Nat} (h : S.objs k = some (.lst xs)) : mlstOf S (.loc k) = some xs := by unfold mlstOf; dsimp only; rw [h]
theorem isLst_loc {k : Nat} (h : S.objs k = some (.lst xs)) : isLst (.loc k) S = true := by unfold isLst; rw [lstOf_loc h]; rfl
theorem vAppend_at {k : Nat} {u : Val} (h : S.objs k = some (.lst xs)) (hl : xs.length < sizeLine) : vAppend (.loc k) [u] S = .ok .non (S.put k (.lst (xs ++ [u]))) := by
  unfold vAppend; dsimp only; rw [h]; dsimp only; rw [if_pos hl]
theorem atI_n {α : Type} {l : List α} {n : Nat} : atI l (n : Int) = l[n]? := by
  unfold atI ixN
  by_cases h : n < l.length
  · rw [if_pos (by omega), if_pos (by omega)]; simp
  · rw [if_pos (by omega), if_neg (by omega), List.getElem?_eq_none (by omega)]; rfl
@[simp] theorem atI_map {α β : Type} {l : List α} {f : α → β} {i : Int} : atI (l.map f) i = (atI l i).map f := by
  unfold atI
  rw [List.length_map]
  cases ixN l.length i with
  | none => rfl
  | some j => simp
end

section
variable {S : Sto} {i j : Int} {xs ys : List Val} {k : Nat} {b : Bool} {x : Str}
@[simp] theorem isA_eq {t n : Tg} : isA t n = (decide (t = n) || (decide (t = .bl) && decide (n = .int))) := nr
@[simp ↓] theorem v_isiN {n : Tg} : vIsi [.non, .ty n] S = .ok (.bl (isA .non n)) S := nr
@[simp ↓] theorem v_isiI {n : Tg} : vIsi [.int i, .ty n] S = .ok (.bl (isA .int n)) S := nr
@[simp ↓] theorem v_isiB {n : Tg} : vIsi [.bl b, .ty n] S = .ok (.bl (isA .bl n)) S := nr
@[simp ↓] theorem v_isiS {n : Tg} : vIsi [.str x, .ty n] S = .ok (.bl (isA .str n)) S := nr
@[simp ↓] theorem v_isiT {n : Tg} : vIsi [.tup xs, .ty n] S = .ok (.bl (isA .tup n)) S := nr
@[simp ↓] theorem v_isiL {n : Tg} : vIsi [.lst xs, .ty n] S = .ok (.bl (isA .lst n)) S := nr
theorem v_isi_loc {n : Tg} (h : S.objs k = some (.lst xs)) : vIsi [.loc k, .ty n] S = .ok (.bl (isA .lst n)) S := by unfold vIsi tagOf; simp only [h]
@[simp ↓] theorem v_lenT : vLen [.tup xs] S = .ok (.int (xs.length : Nat)) S := nr
@[simp ↓] theorem v_lenL : vLen [.lst xs] S = .ok (.int (xs.length : Nat)) S := nr
@[simp ↓] theorem v_lenF : vLen [.fz xs] S = .ok (.int (xs.length : Nat)) S := nr
theorem v_len_loc (h : S.objs k = some (.lst xs)) : vLen [.loc k] S = .ok (.int (xs.length : Nat)) S := by unfold vLen; simp only [lstOf_loc h]
@[simp ↓] theorem v_abs : vAbs [.int i] S = .ok (.int (if i < 0 then -i else i)) S := nr
@[simp ↓] theorem v_min2 : vMin2 [.int i, .int j] S = .ok (.int (if j < i then j else i)) S := nr
@[simp ↓] theorem v_max2 : vMax2 [.int i, .int j] S = .ok (.int (if j > i then j else i)) S := nr
@[simp ↓] theorem v_int : vInt [.int i] S = .ok (.int i) S := nr
@[simp ↓] theorem v_intB : vInt [.bl b] S = .ok (.int (if b then 1 else 0)) S := nr
@[simp ↓] theorem v_listT {bx : Bool} : vList bx [.tup xs] S = mkL bx xs S := nr
@[simp ↓] theorem v_listL {bx : Bool} : vList bx [.lst xs] S = mkL bx xs S := nr
@[simp ↓] theorem v_listF {bx : Bool} : vList bx [.fz xs] S = mkL bx xs S := nr
theorem v_list_loc {bx : Bool} (h : S.objs k = some (.lst xs)) : vList bx [.loc k] S = mkL bx xs S := by unfold vList; simp only [lstOf_loc h]
@[simp ↓] theorem v_tupT : vTuple [.tup xs] S = .ok (.tup xs) S := nr
@[simp ↓] theorem v_tupL : vTuple [.lst xs] S = .ok (.tup xs) S := nr
@[simp ↓] theorem v_tupF : vTuple [.fz xs] S = .ok (.tup xs) S := nr
theorem v_tup_loc (h : S.objs k = some (.lst xs)) : vTuple [.loc k] S = .ok (.tup xs) S := by unfold vTuple; simp only [lstOf_loc h]
@[simp] theorem bls_map {α : Type} {f : α → Bool} : ∀ {l : List α}, blsOf (l.map fun a => Val.bl (f a)) = some (l.map f)
  | [] => rfl
  | a :: l => by
    have := bls_map (f := f) (l := l)
    simp only [List.map_cons, blsOf, this, Option.map]
theorem v_all {α : Type} {f : α → Bool} {l : List α} : vAll [.lst (l.map fun a => Val.bl (f a))] S = .ok (.bl (l.all f)) S := by
  unfold vAll; simp only [lstOf_lst, Option.bind, bls_map]; rw [List.all_map]; rfl
theorem v_any {α : Type} {f : α → Bool} {l : List α} : vAny [.lst (l.map fun a => Val.bl (f a))] S = .ok (.bl (l.any f)) S := by
  unfold vAny; simp only [lstOf_lst, Option.bind, bls_map]; rw [List.any_map]; rfl
@[simp ↓] theorem v_revL {bx : Bool} : vRevL bx (.lst xs) S = mkL bx xs.reverse S := nr
@[simp ↓] theorem v_cutT {bx : Bool} {lo hi : Option Int} : vCut bx (.tup xs) lo hi S = .ok (.tup (cutG xs lo hi)) S := nr
@[simp ↓] theorem v_cutL {bx : Bool} {lo hi : Option Int} : vCut bx (.lst xs) lo hi S = mkL bx (cutG xs lo hi) S := nr
@[simp ↓] theorem v_cutF {bx : Bool} {lo hi : Option Int} : vCut bx (.fz xs) lo hi S = mkL bx (cutG xs lo hi) S := nr
theorem v_cut_loc {bx : Bool} {lo hi : Option Int} (h : S.objs k = some (.lst xs)) : vCut bx (.loc k) lo hi S = mkL bx (cutG xs lo hi) S := by unfold vCut; simp only [lstOf_loc h]
@[simp ↓] theorem seqT : seqIt (.tup xs) S = .ok ⟨xs, fun _ => True⟩ S := nr
@[simp ↓] theorem seqL : seqIt (.lst xs) S = .ok ⟨xs, fun _ => True⟩ S := nr
@[simp ↓] theorem seqF : seqIt (.fz xs) S = .ok ⟨xs, fun _ => True⟩ S := nr
theorem seq_loc (h : S.objs k = some (.lst xs)) : seqIt (.loc k) S = .ok ⟨xs, fun S' => S'.objs k = some (.lst xs)⟩ S := by unfold seqIt; simp only [h]
@[simp] theorem truB : truOf S (.bl b) = some b := nr
@[simp] theorem truI : truOf S (.int i) = some (i != 0) := nr
@[simp] theorem truT : truOf S (.tup xs) = some (!xs.isEmpty) := nr
@[simp] theorem truL : truOf S (.lst xs) = some (!xs.isEmpty) := nr
@[simp] theorem truN : truOf S .non = some false := nr
theorem setIx_at {u : Val} {n : Nat} (h : S.objs k = some (.lst xs)) (hi : ixN xs.length i = some n) : setIx (.loc k) (.int i) u S = some (S.put k (.lst (xs.set n u))) := by unfold setIx; simp only [h, hi, Option.map]
theorem setIx_nat {u : Val} {n : Nat} (h : S.objs k = some (.lst xs)) (hi : n < xs.length) : setIx (.loc k) (.int (n : Int)) u S = some (S.put k (.lst (xs.set n u))) :=
  setIx_at h (by unfold ixN; rw [if_pos (by omega), if_pos (by omega)]; simp)
@[simp] theorem insOf_ins {c : Nat} {vs : List Val} : insOf S (.ins c vs) = some (c, vs) := nr
theorem insOf_loc {c : Nat} {vs : List Val} (h : S.objs k = some (.ins c vs)) : insOf S (.loc k) = some (c, vs) := by unfold insOf; simp only [h]
@[simp] theorem isInst_ins {c d : Nat} {vs : List Val} : isInst c S (.ins d vs) = (d == c) := nr
theorem isInst_loc {c d : Nat} {vs : List Val} (h : S.objs k = some (.ins d vs)) : isInst c S (.loc k) = (d == c) := by unfold isInst; rw [insOf_loc h]
@[simp] theorem dat_int : (Val.int i).dat = some (.int i) := by unfold Val.dat; rfl
@[simp] theorem dat_bl : (Val.bl b).dat = some (.bool b) := by unfold Val.dat; rfl
@[simp] theorem dat_str : (Val.str x).dat = some (.str x) := by unfold Val.dat; rfl
@[simp] theorem dat_non : Val.non.dat = some .none := by unfold Val.dat; rfl
@[simp] theorem dat_tup : (Val.tup xs).dat = (Val.dats xs).map .tuple := by rw [Val.dat]
@[simp] theorem dat_lst : (Val.lst xs).dat = (Val.dats xs).map .list := by rw [Val.dat]
@[simp] theorem dat_fz : (Val.fz xs).dat = (Val.dats xs).map .list := by rw [Val.dat]
@[simp] theorem dats_nil : Val.dats [] = some [] := by unfold Val.dats; rfl
theorem dats_cons {v : Val} {vs : List Val} {d : PyData} {ds : List PyData} (h : v.dat = some d) (h2 : Val.dats vs = some ds) : Val.dats (v :: vs) = some (d :: ds) := by rw [Val.dats, h, h2]
theorem datS_loc (h : S.objs k = some (.lst xs)) : datS S (.loc k) = (Val.dats xs).map .list := by unfold datS; simp only [h]
@[simp] theorem datS_tup : datS S (.tup xs) = (Val.dats xs).map .tuple := by unfold datS; exact dat_tup
@[simp] theorem datS_lst : datS S (.lst xs) = (Val.dats xs).map .list := by unfold datS; exact dat_lst
@[simp] theorem datS_str : datS S (.str x) = some (.str x) := by unfold datS; exact dat_str
@[simp] theorem datS_int : datS S (.int i) = some (.int i) := by unfold datS; exact dat_int
theorem v_ix_loc (h : S.objs k = some (.lst xs)) : vIx (.loc k) (.int i) S = vr (atI xs i) S := by
  unfold vIx; simp only [lstOf_loc h]; cases atI xs i <;> rfl
section
variable {α : Type} {a b c d e f g : α} {l : List α}
@[simp ↓] theorem at0 : atI (a :: l) 0 = some a := atI_n (n := 0)
@[simp ↓] theorem at1 : atI (a :: b :: l) 1 = some b := atI_n (n := 1)
@[simp ↓] theorem at2 : atI (a :: b :: c :: l) 2 = some c := atI_n (n := 2)
@[simp ↓] theorem at3 : atI (a :: b :: c :: d :: l) 3 = some d := atI_n (n := 3)
@[simp ↓] theorem at4 : atI (a :: b :: c :: d :: e :: l) 4 = some e := atI_n (n := 4)
@[simp ↓] theorem at5 : atI (a :: b :: c :: d :: e :: f :: l) 5 = some f := atI_n (n := 5)
@[simp ↓] theorem at6 : atI (a :: b :: c :: d :: e :: f :: g :: l) 6 = some g := atI_n (n := 6)
end
end

/-! ### slices -/
theorem cut_take {α : Type} {xs : List α} {m : Nat} : cutG xs none (some (m : Int)) = xs.take m := by
  unfold cutG
  rw [HT.sIx_none, HT.sIx_nat, List.drop_zero, Nat.sub_zero]
  rcases Nat.le_total m xs.length with h | h
  · rw [Nat.min_eq_left h]
  · rw [Nat.min_eq_right h, List.take_of_length_le h, List.take_of_length_le (Nat.le_refl _)]
theorem cut_drop {α : Type} {xs : List α} {m : Nat} : cutG xs (some (m : Int)) none = xs.drop m := by
  unfold cutG
  rw [HT.sIx_none, HT.sIx_nat]
  rcases Nat.le_total m xs.length with h | h
  · rw [Nat.min_eq_left h, List.take_of_length_le (by simp)]
  · rw [Nat.min_eq_right h, List.drop_eq_nil_of_le h, List.drop_eq_nil_of_le (Nat.le_refl _)]; simp
theorem cut_seg {α : Type} {xs : List α} {m n : Nat} (h : n ≤ xs.length) : cutG xs (some (m : Int)) (some (n : Int)) = (xs.drop m).take (n - m) := by
  unfold cutG
  rw [HT.sIx_nat, HT.sIx_nat, Nat.min_eq_left h]
  rcases Nat.le_total m xs.length with h' | h'
  · rw [Nat.min_eq_left h']
  · rw [Nat.min_eq_right h', List.drop_eq_nil_of_le h', List.drop_eq_nil_of_le (Nat.le_refl _)]; simp
/-- xs[:-1] -/
theorem cut_but {α : Type} {xs : List α} : cutG xs none (some (-1)) = xs.dropLast := by
  unfold cutG
  rw [HT.sIx_none, List.drop_zero, Nat.sub_zero, List.dropLast_eq_take]
  congr 1
  unfold HT.sIx
  dsimp only
  rw [if_pos (by decide)]
  omega
@[simp] theorem cut2 {α : Type} {a b : α} {l : List α} : cutG (a :: b :: l) (some 2) none = l := cut_drop (m := 2)
@[simp] theorem cut1 {α : Type} {a : α} {l : List α} : cutG (a :: l) (some 1) none = l := cut_drop (m := 1)
theorem rn_is {α : Type} {r : Res α} {a : α} {S : Sto} {P : α → Sto → Prop} {X : XP} (h : r = .ok a S) (q : P a S) : Rn r P X := by rw [h]; exact q
@[simp ↓] theorem v_allR {n : Nat} {S : Sto} : vAll [.lst (List.replicate n (.bl true))] S = .ok (.bl true) S := by
  have : (List.replicate n (Val.bl true)) = (List.replicate n ()).map fun _ => Val.bl true := by simp
  rw [this, v_all]; simp
theorem map_const {α β : Type} {b : β} : ∀ {l : List α}, (l.map fun _ => b) = List.replicate l.length b
  | [] => rfl
  | a :: l => by rw [List.map_cons, map_const, List.length_cons, List.replicate_succ]

/-! ### lists by what they hold -/
section
variable {S : Sto} {v : Val} {xs : List Val}
theorem vLen_of (h : lstOf S v = some xs) : vLen [v] S = .ok (.int (xs.length : Nat)) S := by
  cases v <;> first | (cases h; rfl; done) | (cases h; done) | skip
  unfold vLen; simp only [h]
theorem vList_of {bx : Bool} (h : lstOf S v = some xs) : vList bx [v] S = mkL bx xs S := by
  cases v <;> first | (cases h; rfl; done) | (cases h; done) | skip
  unfold vList; simp only [h]
theorem vTuple_of (h : lstOf S v = some xs) : vTuple [v] S = .ok (.tup xs) S := by
  cases v <;> first | (cases h; rfl; done) | (cases h; done) | skip
  unfold vTuple; simp only [h]
theorem seq_of (h : lstOf S v = some xs) : ∃ src, seqIt v S = .ok ⟨xs, src⟩ S ∧ ∀ S', lstOf S' v = some xs → src S' := by
  cases v <;> first | (cases h; exact ⟨_, rfl, fun _ _ => trivial⟩) | (cases h; done) | skip
  rename_i k
  refine ⟨fun S' => S'.objs k = some (.lst xs), ?_, fun S' h' => ?_⟩
  · unfold lstOf at h
    dsimp only at h
    split at h
    · cases h; rename_i e; exact seq_loc e
    · cases h
  · unfold lstOf at h'
    dsimp only at h'
    split at h'
    · cases h'; rename_i e; exact e
    · cases h'
end
theorem lstOf_ext {S S' : Sto} {k : Nat} {xs : List Val} (x : Ext S S') (hk : k < S.next) (h : S.objs k = some (.lst xs)) : lstOf S' (.loc k) = some xs := lstOf_loc (x.at_ hk h)

/-! ### try -/
theorem sn_try {bd : SM} {i : Nat} {off : List Nat} {hs : List (Nat × SM)} {ρ : Ev} {S : Sto} {N : Ev → Sto → Prop} {R : Val → Sto → Prop} {B C : Ev → Sto → Prop} {E : Nat → List Val → Ev → Sto → Prop} {kk : Kp (⟨N, R, B, C, E⟩ : En)} :
    Sn (sTry bd i off hs ρ S) ⟨N, R, B, C, E⟩ kk = Sn (bd ρ S) ⟨N, R, B, C, fun c vs ρ' S' => match hs.lookup c with
      | some s => Sn (suiteEnd i S' (s (ρ'.set i (some (.err c vs))) S')) ⟨N, R, B, C, E⟩
      | none => off.contains c = true ∧ E c vs ρ' S'⟩ := by
  unfold sTry
  cases bd ρ S with
  | ex c vs ρ' S' =>
    rw [sn_ex]
    dsimp only
    cases hs.lookup c with
    | some s => rfl
    | none =>
      dsimp only
      by_cases h : off.contains c = true
      · rw [if_pos h]; simp only [h, true_and]; rfl
      · rw [if_neg h, sn_st]; simp only [h, Bool.false_eq_true, false_and]
  | _ => rfl
@[simp] theorem cut_1 {α : Type} {l : List α} : cutG l (some 1) none = l.drop 1 := cut_drop (m := 1)
theorem atI_mem {α : Type} {l : List α} {i : Int} (h0 : 0 ≤ i) (h1 : i < l.length) : ∃ b, atI l i = some b ∧ b ∈ l := by
  obtain ⟨j, rfl⟩ := Int.eq_ofNat_of_zero_le h0
  have hj : j < l.length := by omega
  exact ⟨l[j], by rw [atI_n, List.getElem?_eq_getElem hj], List.getElem_mem hj⟩
end PM

namespace K46
open PySem PySem.Spec L2 PM
def topS (i : Nat) : Stmt := PySem.Challenge.pw_backstair_k46_nets_run_both_ways.main.body.getD i (.Pass ⟨0, 0, 0, 0⟩)
abbrev s__law_draws : Stmt := topS 12
abbrev N__law_draws : List Str := ["_law_script", "_law_many", "_law_draws_here", "_law_at", "_law_cell", "_law_number", "_law_k"]
theorem sc__law_draws : FnScope N__law_draws ["_law_script", "_law_many"] (defScope s__law_draws) := ⟨rfl, rfl, rfl, by decide +kernel, rfl, by decide +kernel, by decide +kernel⟩
abbrev s__law_gates : Stmt := topS 14
abbrev N__law_gates : List Str := ["_law_draws_here", "_law_at", "_law_many", "_law_lines", "_law_gates_here", "_law_k", "_law_draw", "_law_more", "_law_left", "_law_i", "_law_gate", "_law_controls", "_law_j"]
theorem sc__law_gates : FnScope N__law_gates ["_law_draws_here", "_law_at", "_law_many", "_law_lines"] (defScope s__law_gates) := ⟨rfl, rfl, rfl, by decide +kernel, rfl, by decide +kernel, by decide +kernel⟩
abbrev s_is_line : Stmt := topS 7
abbrev N_is_line : List Str := ["value", "lines"]
theorem sc_is_line : FnScope N_is_line ["value", "lines"] (defScope s_is_line) := ⟨rfl, rfl, rfl, by decide +kernel, rfl, by decide +kernel, by decide +kernel⟩
abbrev s_is_gate : Stmt := topS 8
abbrev N_is_gate : List Str := ["gate", "lines", "used", "ascending", "line", "k"]
theorem sc_is_gate : FnScope N_is_gate ["gate", "lines"] (defScope s_is_gate) := ⟨rfl, rfl, rfl, by decide +kernel, rfl, by decide +kernel, by decide +kernel⟩
abbrev s_Net___init__ : Stmt := inClass (topS 10) 0
abbrev N_Net___init__ : List Str := ["self", "lines", "gates", "gate"]
theorem sc_Net___init__ : FnScope N_Net___init__ ["self", "lines", "gates"] (defScope s_Net___init__) := ⟨rfl, rfl, rfl, by decide +kernel, rfl, by decide +kernel, by decide +kernel⟩
abbrev s_Net__checked : Stmt := inClass (topS 10) 2
abbrev N_Net__checked : List Str := ["self", "bits", "bit"]
theorem sc_Net__checked : FnScope N_Net__checked ["self", "bits"] (defScope s_Net__checked) := ⟨rfl, rfl, rfl, by decide +kernel, rfl, by decide +kernel, by decide +kernel⟩
abbrev s_taken : Stmt := topS 9
abbrev N_taken : List Str := ["gate", "bits", "line"]
theorem sc_taken : FnScope N_taken ["gate", "bits"] (defScope s_taken) := ⟨rfl, rfl, rfl, by decide +kernel, rfl, by decide +kernel, by decide +kernel⟩
abbrev s_Net_run : Stmt := inClass (topS 10) 3
abbrev N_Net_run : List Str := ["self", "bits", "row", "gate"]
theorem sc_Net_run : FnScope N_Net_run ["self", "bits"] (defScope s_Net_run) := ⟨rfl, rfl, rfl, by decide +kernel, rfl, by decide +kernel, by decide +kernel⟩
abbrev s_Net_back : Stmt := inClass (topS 10) 4
abbrev N_Net_back : List Str := ["self", "bits", "row", "gate"]
theorem sc_Net_back : FnScope N_Net_back ["self", "bits"] (defScope s_Net_back) := ⟨rfl, rfl, rfl, by decide +kernel, rfl, by decide +kernel, by decide +kernel⟩
abbrev s__law_refused : Stmt := topS 16
abbrev N__law_refused : List Str := ["_law_net", "_law_bits", "_law_word", "e"]
theorem sc__law_refused : FnScope N__law_refused ["_law_net", "_law_bits", "_law_word"] (defScope s__law_refused) := ⟨rfl, rfl, rfl, by decide +kernel, rfl, by decide +kernel, by decide +kernel⟩
abbrev s_Net_gates : Stmt := inClass (topS 10) 1
abbrev N_Net_gates : List Str := ["self"]
theorem sc_Net_gates : FnScope N_Net_gates ["self"] (defScope s_Net_gates) := ⟨rfl, rfl, rfl, by decide +kernel, rfl, by decide +kernel, by decide +kernel⟩
abbrev s__law_is_number : Stmt := topS 13
abbrev N__law_is_number : List Str := ["_law_value"]
theorem sc__law_is_number : FnScope N__law_is_number ["_law_value"] (defScope s__law_is_number) := ⟨rfl, rfl, rfl, by decide +kernel, rfl, by decide +kernel, by decide +kernel⟩
abbrev s__law_taken : Stmt := topS 15
abbrev N__law_taken : List Str := ["_law_gates_here", "_law_bits", "_law_row", "_law_gate", "_law_first", "_law_second", "_law_line"]
theorem sc__law_taken : FnScope N__law_taken ["_law_gates_here", "_law_bits"] (defScope s__law_taken) := ⟨rfl, rfl, rfl, by decide +kernel, rfl, by decide +kernel, by decide +kernel⟩
abbrev s_law : Stmt := topS 17
abbrev N_law : List Str := ["_law_script", "_law_draws_here", "_law_lines", "_law_gates_here", "_law_given", "_law_net", "_law_bits", "_law_found", "_law_bad", "_law_k"]
theorem sc_law : FnScope N_law ["_law_script"] (defScope s_law) := ⟨rfl, rfl, rfl, by decide +kernel, rfl, by decide +kernel, by decide +kernel⟩
/-! ### combinators -/
abbrev wMax : Nat := 1000000000000
noncomputable def B__law_draws : SM :=
  (sSeq (sSet 2 (eLst true aNil)) (sSeq (sSet 3 (eC (.int 0))) (sSeq (sFor (iSeq (eCut false (eVar 0) oNone (oSome (eC (.int 63))))) (.name 4) (sSeq (sSet 5 (eBI vAbs (aCons (eVar 4) aNil))) (sSeq (sIf (tB (eBin vGe (eVar 5) (eBin vPow (eC (.int 10)) (eC (.int 18))))) (sFor (iRange1 (eC (.int 24))) (.name 6) (sIf (tB (eBin vGt (eVar 5) (eC (.int 0)))) (sSeq (sDrop (eBM isLst vAppend (eVar 2) (aCons (eBin vMod (eBI vInt (aCons (eVar 5) aNil)) (eC (.int 1009))) aNil))) (sSet 5 (eBin vFdiv (eVar 5) (eC (.int 1009))))) sNext)) (sSeq (sDrop (eBM isLst vAppend (eVar 2) (aCons (eBin vMod (eBI vInt (aCons (eBin (vAdd false) (eBin (vAdd false) (eBin vMul (eVar 5) (eC (.int 48271))) (eBin vMul (eVar 3) (eC (.int 69621)))) (eC (.int 11))) aNil)) (eC (.int 65537))) aNil))) (sDrop (eBM isLst vAppend (eVar 2) (aCons (eBin vMod (eBI vInt (aCons (eBin (vAdd false) (eBin (vAdd false) (eBin (vAdd false) (eBin vMul (eVar 5) (eC (.int 16807))) (eBin vMul (eVar 3) (eC (.int 40692)))) (eC (.int 7))) (eBin vMul (eVar 5) (eVar 5))) aNil)) (eC (.int 65521))) aNil))))) (sSet 3 (eBin (vAdd false) (eVar 3) (eC (.int 1))))))) (sSeq (sFor (iRange1 (eVar 1)) (.name 6) (sIf (tB (eBin vLt (eBI vLen (aCons (eVar 2) aNil)) (eVar 1))) (sDrop (eBM isLst vAppend (eVar 2) (aCons (eBin vMod (eBI vInt (aCons (eBin (vAdd false) (eBin (vAdd false) (eBin vMul (eBI vLen (aCons (eVar 2) aNil)) (eC (.int 69621))) (eBin vMul (eC (.int 977)) (eVar 3))) (eBin vMul (eBin vMul (eVar 6) (eVar 6)) (eC (.int 31)))) aNil)) (eC (.int 65521))) aNil))) sNext)) (sRet (eCut false (eVar 2) oNone (oSome (eVar 1))))))))
noncomputable def F__law_draws : FM := runB 7 B__law_draws
noncomputable def B__law_gates : SM :=
  (sSeq (sSet 4 (eLst true aNil)) (sSeq (sFor (iRange1 (eVar 2)) (.name 5) (sSeq (sPar 6 7 (aCons (eBin vIx (eVar 0) (eBin (vAdd false) (eVar 1) (eBin vMul (eC (.int 2)) (eVar 5)))) (aCons (eBin vIx (eVar 0) (eBin (vAdd false) (eBin (vAdd false) (eVar 1) (eBin vMul (eC (.int 2)) (eVar 5))) (eC (.int 1)))) aNil))) (sSeq (sSet 8 (eListR true (eC (.int 0)) (eVar 3))) (sSeq (sSet 9 (eBM isLst vPopAt (eVar 8) (aCons (eBin vMod (eVar 6) (eVar 3)) aNil))) (sSeq (sSet 10 (eTup (aCons (eC (.str "turn")) (aCons (eTup aNil) (aCons (eVar 9) aNil))))) (sSeq (sIf (tAndM (tB (eBin vEq (eBin vMod (eBin vFdiv (eVar 6) (eVar 3)) (eC (.int 3))) (eC (.int 0)))) (tB (eBin vGt (eBI vLen (aCons (eVar 8) aNil)) (eC (.int 0))))) (sSet 10 (eTup (aCons (eC (.str "swap")) (aCons (eTup aNil) (aCons (eVar 9) (aCons (eBM isLst vPopAt (eVar 8) (aCons (eBin vMod (eBin vFdiv (eVar 6) (eC (.int 64))) (eBI vLen (aCons (eVar 8) aNil))) aNil)) aNil)))))) sNext) (sSeq (sSet 11 (eLst true aNil)) (sSeq (sFor (iRange1 (eBin vMod (eBin vFdiv (eVar 6) (eC (.int 512))) (eC (.int 4)))) (.name 12) (sIf (tB (eBin vGt (eBI vLen (aCons (eVar 8) aNil)) (eC (.int 0)))) (sDrop (eBM isLst vAppend (eVar 11) (aCons (eBM isLst vPopAt (eVar 8) (aCons (eBin vMod (eBin vFdiv (eVar 7) (eBin (vAdd false) (eVar 12) (eC (.int 1)))) (eBI vLen (aCons (eVar 8) aNil))) aNil)) aNil))) sNext)) (sDrop (eBM isLst vAppend (eVar 4) (aCons (eBin (vAdd false) (eTup (aCons (eBin vIx (eVar 10) (eC (.int 0))) (aCons (eBI vTuple (aCons (eBI (vSortI false) (aCons (eVar 11) aNil)) aNil)) aNil))) (eCut false (eVar 10) (oSome (eC (.int 2))) oNone)) aNil))))))))))) (sRet (eFrz (eVar 4)))))
noncomputable def F__law_gates : FM := runB 13 B__law_gates
noncomputable def B_is_line : SM :=
  (sRet (eAnd (eBI vIsi (aCons (eVar 0) (aCons (eC (.ty .int)) aNil))) (eAnd (eNot (eBI vIsi (aCons (eVar 0) (aCons (eC (.ty .bl)) aNil)))) (eChain vLe vLt (eC (.int 0)) (eVar 0) (eVar 1)))))
noncomputable def F_is_line : FM := runB 2 B_is_line
noncomputable def B_is_gate : SM :=
  (sSeq (sIf (tOrM (tNotM (tTru (eBI vIsi (aCons (eVar 0) (aCons (eC (.ty .tup)) aNil))))) (tOrM (tB (eBin vLt (eBI vLen (aCons (eVar 0) aNil)) (eC (.int 3)))) (tNotM (tTru (eBI vIsi (aCons (eBin vIx (eVar 0) (eC (.int 1))) (aCons (eC (.ty .tup)) aNil))))))) (sRet (eC (.bl false))) sNext) (sSeq (sIf (tOrM (tB (eBin (vInW true) (eBin vIx (eVar 0) (eC (.int 0))) (eTup (aCons (eC (.str "turn")) (aCons (eC (.str "swap")) aNil))))) (tB (eBin vNe (eBI vLen (aCons (eVar 0) aNil)) (eIf (tB (eBin vEq (eBin vIx (eVar 0) (eC (.int 0))) (eC (.str "turn")))) (eC (.int 3)) (eC (.int 4)))))) (sRet (eC (.bl false))) sNext) (sSeq (sSet 2 (eBin (vAdd false) (eBin vIx (eVar 0) (eC (.int 1))) (eCut false (eVar 0) (oSome (eC (.int 2))) oNone))) (sSeq (sIf (tNotM (tTru (eBI vAll (aCons (eLc false (iSeq (eVar 2)) (.name 4) tYesM (eCallN 2 F_is_line (aCons (eVar 4) (aCons (eVar 1) aNil))) [4]) aNil)))) (sRet (eC (.bl false))) sNext) (sSeq (sSet 3 (eBI vAll (aCons (eLc false (iRange1 (eBin vSub (eBI vLen (aCons (eBin vIx (eVar 0) (eC (.int 1))) aNil)) (eC (.int 1)))) (.name 5) tYesM (eBin vLt (eBin vIx (eBin vIx (eVar 0) (eC (.int 1))) (eVar 5)) (eBin vIx (eBin vIx (eVar 0) (eC (.int 1))) (eBin (vAdd false) (eVar 5) (eC (.int 1))))) [5]) aNil))) (sRet (eAnd (eVar 3) (eBin vEq (eBI vLenD (aCons (eDc (iSeq (eVar 2)) (.name 4) tYesM (eVar 4) (eC (.bl true)) [4]) aNil)) (eBI vLen (aCons (eVar 2) aNil))))))))))
noncomputable def F_is_gate : FM := runB 6 B_is_gate
noncomputable def B_Net___init__ : SM :=
  (sSeq (sIf (tOrM (tNotM (tTru (eCallN 2 F_is_line (aCons (eVar 1) (aCons (eBin (vAdd false) (eC (.int 400)) (eC (.int 1))) aNil))))) (tOrM (tB (eBin vEq (eVar 1) (eC (.int 0)))) (tB (eBin vGt (eBI vLen (aCons (eVar 2) aNil)) (eC (.int 100000)))))) sNever sNext) (sSeq (sIf (tNotM (tTru (eBI vAll (aCons (eLc false (iSeq (eVar 2)) (.name 3) tYesM (eCallN 2 F_is_gate (aCons (eVar 3) (aCons (eVar 1) aNil))) [3]) aNil)))) sNever sNext) (sSeq (sAttr 3 0 (eVar 0) (eVar 1)) (sAttr 3 1 (eVar 0) (eBI (vList false) (aCons (eVar 2) aNil))))))
noncomputable def F_Net___init__ : FM := runB 4 B_Net___init__
noncomputable def B_Net__checked : SM :=
  (sSeq (sIf (tOrM (tNotM (tTru (eBI vIsi (aCons (eVar 1) (aCons (eC (.ty .tup)) aNil))))) (tOrM (tB (eBin vNe (eBI vLen (aCons (eVar 1) aNil)) (eAttr 3 0 (eVar 0)))) (tNotM (tTru (eBI vAll (aCons (eLc false (iSeq (eVar 1)) (.name 2) tYesM (eCallN 2 F_is_line (aCons (eVar 2) (aCons (eC (.int 2)) aNil))) [2]) aNil)))))) (sRaise 2) sNext) (sRet (eBI (vList true) (aCons (eVar 1) aNil))))
noncomputable def F_Net__checked : FM := runB 3 B_Net__checked
noncomputable def B_taken : SM :=
  (sSeq (sFor (iSeq (eBin vIx (eVar 0) (eC (.int 1)))) (.name 2) (sIf (tB (eBin vEq (eBin vIx (eVar 1) (eVar 2)) (eC (.int 0)))) sRetN sNext)) (sIf (tB (eBin vEq (eBin vIx (eVar 0) (eC (.int 0))) (eC (.str "turn")))) (sSetIx (eVar 1) (eBin vIx (eVar 0) (eC (.int 2))) (eBin vSub (eC (.int 1)) (eBin vIx (eVar 1) (eBin vIx (eVar 0) (eC (.int 2)))))) (sSetIx2 (eVar 1) (eBin vIx (eVar 0) (eC (.int 2))) (eVar 1) (eBin vIx (eVar 0) (eC (.int 3))) (eTup (aCons (eBin vIx (eVar 1) (eBin vIx (eVar 0) (eC (.int 3)))) (aCons (eBin vIx (eVar 1) (eBin vIx (eVar 0) (eC (.int 2)))) aNil))))))
noncomputable def F_taken : FM := runB 3 B_taken
noncomputable def B_Net_run : SM :=
  (sSeq (sSet 2 (eMethXN 2 3 F_Net__checked (eVar 0) (aCons (eVar 1) aNil))) (sSeq (sFor (iSeq (eAttr 3 1 (eVar 0))) (.name 3) (sDrop (eCallN 2 F_taken (aCons (eVar 3) (aCons (eVar 2) aNil))))) (sRet (eBI vTuple (aCons (eVar 2) aNil)))))
noncomputable def F_Net_run : FM := runB 4 B_Net_run
noncomputable def B_Net_back : SM :=
  (sSeq (sSet 2 (eMethXN 2 3 F_Net__checked (eVar 0) (aCons (eVar 1) aNil))) (sSeq (sFor (PM.iRev (eAttr 3 1 (eVar 0))) (.name 3) (sDrop (eCallN 2 F_taken (aCons (eVar 3) (aCons (eVar 2) aNil))))) (sRet (eBI vTuple (aCons (eVar 2) aNil)))))
noncomputable def F_Net_back : FM := runB 4 B_Net_back
noncomputable def B__law_refused : SM :=
  (sSeq (sTry (sIf (tB (eBin vEq (eVar 2) (eC (.str "run")))) (sDrop (eMethXN 2 3 F_Net_run (eVar 0) (aCons (eVar 1) aNil))) (sDrop (eMethXN 2 3 F_Net_back (eVar 0) (aCons (eVar 1) aNil)))) 3 [] [(2, (sRet (eAnd (eIsErr 3 (eC (.cls 2)) true) (eAnd (eIsErr 3 (eC (.ty .ve)) true) (eNot (eIsErr 3 (eC (.cls 1)) false))))))]) (sRet (eC (.bl false))))
noncomputable def F__law_refused : FM := runB 4 B__law_refused
noncomputable def B_Net_gates : SM :=
  (sRet (eBI (vList false) (aCons (eAttr 3 1 (eVar 0)) aNil)))
noncomputable def F_Net_gates : FM := runB 1 B_Net_gates
noncomputable def B_Net_gates__bx : SM :=
  (sRet (eBI (vList true) (aCons (eAttr 3 1 (eVar 0)) aNil)))
noncomputable def F_Net_gates__bx : FM := runB 1 B_Net_gates__bx
noncomputable def B__law_is_number : SM :=
  (sRet (eAnd (eBI vIsi (aCons (eVar 0) (aCons (eC (.ty .int)) aNil))) (eNot (eBI vIsi (aCons (eVar 0) (aCons (eC (.ty .bl)) aNil))))))
noncomputable def F__law_is_number : FM := runB 1 B__law_is_number
noncomputable def B__law_taken : SM :=
  (sSeq (sSet 2 (eBI (vList true) (aCons (eVar 1) aNil))) (sSeq (sFor (iSeq (eVar 0)) (.name 3) (sIf (tTru (eBI vAll (aCons (eLc false (iSeq (eBin vIx (eVar 3) (eC (.int 1)))) (.name 6) tYesM (eBin vEq (eBin vIx (eVar 2) (eVar 6)) (eC (.int 1))) [6]) aNil))) (sIf (tB (eBin vEq (eBin vIx (eVar 3) (eC (.int 0))) (eC (.str "turn")))) (sSetIx (eVar 2) (eBin vIx (eVar 3) (eC (.int 2))) (eBin vSub (eC (.int 1)) (eBin vIx (eVar 2) (eBin vIx (eVar 3) (eC (.int 2)))))) (sSeq (sPar 4 5 (aCons (eBin vIx (eVar 2) (eBin vIx (eVar 3) (eC (.int 2)))) (aCons (eBin vIx (eVar 2) (eBin vIx (eVar 3) (eC (.int 3)))) aNil))) (sSeq (sSetIx (eVar 2) (eBin vIx (eVar 3) (eC (.int 2))) (eVar 5)) (sSetIx (eVar 2) (eBin vIx (eVar 3) (eC (.int 3))) (eVar 4))))) sNext)) (sRet (eBI vTuple (aCons (eVar 2) aNil)))))
noncomputable def F__law_taken : FM := runB 7 B__law_taken
noncomputable def B_law : SM :=
  (sSeq (sSet 1 (eCallN 2 F__law_draws (aCons (eVar 0) (aCons (eC (.int 60)) aNil)))) (sSeq (sSet 2 (eBin (vAdd false) (eC (.int 1)) (eBin vMod (eBin vIx (eVar 1) (eC (.int 50))) (eC (.int 8))))) (sSeq (sIf (tB (eBin vEq (eBin vMod (eBin vIx (eVar 1) (eC (.int 51))) (eC (.int 12))) (eC (.int 0)))) (sSet 2 (eC (.int 400))) sNext) (sSeq (sSet 3 (eCallN 4 F__law_gates (aCons (eVar 1) (aCons (eC (.int 0)) (aCons (eBin vMod (eBin vIx (eVar 1) (eC (.int 52))) (eC (.int 13))) (aCons (eVar 2) aNil)))))) (sSeq (sSet 4 (eBI (vList true) (aCons (eVar 3) aNil))) (sSeq (sSet 5 (eFrz (eMakeN 3 3 F_Net___init__ (aCons (eVar 2) (aCons (eVar 4) aNil))))) (sSeq (sDrop (eBM isLst vAppend (eVar 4) (aCons (eTup (aCons (eC (.str "turn")) (aCons (eTup aNil) (aCons (eC (.int 0)) aNil)))) aNil))) (sSeq (sDrop (eBM isLst vAppend (eMethN 1 3 F_Net_gates__bx (eVar 5) aNil) (aCons (eC (.int 0)) aNil))) (sSeq (sIf (tOrM (tNotM (tTru (eCallN 1 F__law_is_number (aCons (eAttr 3 0 (eVar 5)) aNil)))) (tOrM (tB (eBin vNe (eAttr 3 0 (eVar 5)) (eVar 2))) (tOrM (tB (eBin vNe (eMethN 1 3 F_Net_gates__bx (eVar 5) aNil) (eVar 3))) (tNotM (tTru (eBI vIsi (aCons (eMethN 1 3 F_Net_gates__bx (eVar 5) aNil) (aCons (eC (.ty .lst)) aNil)))))))) (sRet (eC (.bl false))) sNext) (sSeq (sSet 6 (eBI vTuple (aCons (eLc false (iRange1 (eVar 2)) (.name 9) tYesM (eBin vMod (eBin vFdiv (eBin vIx (eVar 1) (eBin (vAdd false) (eC (.int 30)) (eBin vMod (eVar 9) (eC (.int 20))))) (eBin (vAdd false) (eC (.int 1)) (eVar 9))) (eC (.int 2))) [9]) aNil))) (sSeq (sSet 7 (eMethN 2 3 F_Net_run (eVar 5) (aCons (eVar 6) aNil))) (sSeq (sIf (tOrM (tNotM (tTru (eBI vIsi (aCons (eVar 7) (aCons (eC (.ty .tup)) aNil))))) (tOrM (tB (eBin vNe (eVar 7) (eCallN 2 F__law_taken (aCons (eVar 3) (aCons (eVar 6) aNil))))) (tB (eBin vNe (eMethN 2 3 F_Net_back (eVar 5) (aCons (eVar 7) aNil)) (eVar 6))))) (sRet (eC (.bl false))) sNext) (sSeq (sIf (tOrM (tB (eBin vNe (eMethN 2 3 F_Net_back (eVar 5) (aCons (eVar 6) aNil)) (eCallN 2 F__law_taken (aCons (eUn (vRevL false) (eVar 3)) (aCons (eVar 6) aNil))))) (tB (eBin vNe (eMethN 2 3 F_Net_run (eVar 5) (aCons (eMethN 2 3 F_Net_back (eVar 5) (aCons (eVar 6) aNil)) aNil)) (eVar 6)))) (sRet (eC (.bl false))) sNext) (sSeq (sSet 8 (eBin vIx (eLst false (aCons (eBin (vAdd false) (eVar 6) (eTup (aCons (eC (.int 0)) aNil))) (aCons (eCut false (eVar 6) (oSome (eC (.int 1))) oNone) (aCons (eBin (vAdd false) (eCut false (eVar 6) oNone (oSome (eUn vNeg (eC (.int 1))))) (eTup (aCons (eC (.int 2)) aNil))) (aCons (eBin (vAdd false) (eCut false (eVar 6) oNone (oSome (eUn vNeg (eC (.int 1))))) (eTup (aCons (eC (.bl true)) aNil))) (aCons (eBI (vList false) (aCons (eVar 6) aNil)) (aCons (eBin (vAdd false) (eCut false (eVar 6) oNone (oSome (eUn vNeg (eC (.int 1))))) (eTup (aCons (eC (.str "0")) aNil))) (aCons (eTup aNil) aNil)))))))) (eBin vMod (eBin vIx (eVar 1) (eC (.int 53))) (eC (.int 7))))) (sRet (eAnd (eCallN 3 F__law_refused (aCons (eVar 5) (aCons (eVar 8) (aCons (eC (.str "run")) aNil)))) (eAnd (eCallN 3 F__law_refused (aCons (eVar 5) (aCons (eVar 8) (aCons (eC (.str "back")) aNil)))) (eBin vEq (eMethN 2 3 F_Net_run (eFrz (eMakeN 3 3 F_Net___init__ (aCons (eVar 2) (aCons (eLst false aNil) aNil)))) (aCons (eVar 6) aNil)) (eVar 6)))))))))))))))))))
noncomputable def F_law : FM := runB 10 B_law
/-! ### where it stands -/
structure Ad where
  _law_draws : Addr
  fd__law_draws : FuncData
  _law_gates : Addr
  fd__law_gates : FuncData
  is_line : Addr
  fd_is_line : FuncData
  is_gate : Addr
  fd_is_gate : FuncData
  Net___init__ : Addr
  fd_Net___init__ : FuncData
  Net__checked : Addr
  fd_Net__checked : FuncData
  taken : Addr
  fd_taken : FuncData
  Net_run : Addr
  fd_Net_run : FuncData
  Net_back : Addr
  fd_Net_back : FuncData
  _law_refused : Addr
  fd__law_refused : FuncData
  Net_gates : Addr
  fd_Net_gates : FuncData
  _law_is_number : Addr
  fd__law_is_number : FuncData
  _law_taken : Addr
  fd__law_taken : FuncData
  law : Addr
  fd_law : FuncData
  c_BackError : Addr
  c_BadNet : Addr
  c_BadBits : Addr
  c_Net : Addr
def tb (A : Ad) : Tbl where
  cl := fun c => match c with
    | 0 => some A.c_BackError
    | 1 => some A.c_BadNet
    | 2 => some A.c_BadBits
    | 3 => some A.c_Net
    | _ => none
  fl := fun c => match c with
    | 3 => ["lines", "_gates"]
    | _ => []
structure Tx (K : PySem.W.Frag) (mg : Str → Option Value) (A : Ad) : Prop where
  F__law_draws : Fun K "_law_draws" "_law_draws" s__law_draws A._law_draws A.fd__law_draws
  b__law_draws : Binds K A.fd__law_draws ["_law_script", "_law_many"] []
  g__law_draws : mg "_law_draws" = some (.ref A._law_draws)
  F__law_gates : Fun K "_law_gates" "_law_gates" s__law_gates A._law_gates A.fd__law_gates
  b__law_gates : Binds K A.fd__law_gates ["_law_draws_here", "_law_at", "_law_many", "_law_lines"] []
  g__law_gates : mg "_law_gates" = some (.ref A._law_gates)
  F_is_line : Fun K "is_line" "is_line" s_is_line A.is_line A.fd_is_line
  b_is_line : Binds K A.fd_is_line ["value", "lines"] []
  g_is_line : mg "is_line" = some (.ref A.is_line)
  F_is_gate : Fun K "is_gate" "is_gate" s_is_gate A.is_gate A.fd_is_gate
  b_is_gate : Binds K A.fd_is_gate ["gate", "lines"] []
  g_is_gate : mg "is_gate" = some (.ref A.is_gate)
  F_Net___init__ : Fun K "__init__" "Net.__init__" s_Net___init__ A.Net___init__ A.fd_Net___init__
  b_Net___init__ : Binds K A.fd_Net___init__ ["self", "lines", "gates"] []
  F_Net__checked : Fun K "_checked" "Net._checked" s_Net__checked A.Net__checked A.fd_Net__checked
  b_Net__checked : Binds K A.fd_Net__checked ["self", "bits"] []
  m_Net__checked : Meth K A.c_Net "_checked" A.Net__checked
  F_taken : Fun K "taken" "taken" s_taken A.taken A.fd_taken
  b_taken : Binds K A.fd_taken ["gate", "bits"] []
  g_taken : mg "taken" = some (.ref A.taken)
  F_Net_run : Fun K "run" "Net.run" s_Net_run A.Net_run A.fd_Net_run
  b_Net_run : Binds K A.fd_Net_run ["self", "bits"] []
  m_Net_run : Meth K A.c_Net "run" A.Net_run
  F_Net_back : Fun K "back" "Net.back" s_Net_back A.Net_back A.fd_Net_back
  b_Net_back : Binds K A.fd_Net_back ["self", "bits"] []
  m_Net_back : Meth K A.c_Net "back" A.Net_back
  F__law_refused : Fun K "_law_refused" "_law_refused" s__law_refused A._law_refused A.fd__law_refused
  b__law_refused : Binds K A.fd__law_refused ["_law_net", "_law_bits", "_law_word"] []
  g__law_refused : mg "_law_refused" = some (.ref A._law_refused)
  F_Net_gates : Fun K "gates" "Net.gates" s_Net_gates A.Net_gates A.fd_Net_gates
  b_Net_gates : Binds K A.fd_Net_gates ["self"] []
  m_Net_gates : Meth K A.c_Net "gates" A.Net_gates
  F__law_is_number : Fun K "_law_is_number" "_law_is_number" s__law_is_number A._law_is_number A.fd__law_is_number
  b__law_is_number : Binds K A.fd__law_is_number ["_law_value"] []
  g__law_is_number : mg "_law_is_number" = some (.ref A._law_is_number)
  F__law_taken : Fun K "_law_taken" "_law_taken" s__law_taken A._law_taken A.fd__law_taken
  b__law_taken : Binds K A.fd__law_taken ["_law_gates_here", "_law_bits"] []
  g__law_taken : mg "_law_taken" = some (.ref A._law_taken)
  F_law : Fun K "law" "law" s_law A.law A.fd_law
  b_law : Binds K A.fd_law ["_law_script"] []
  g_law : mg "law" = some (.ref A.law)
  O_Net : CO K (tb A) 3 A.c_Net
  g_Net : mg "Net" = some (.ref A.c_Net)
  M_Net : Mk K A.c_Net A.Net___init__
  E_BackError : EO K mg (tb A) 0 A.c_BackError "BackError"
  E_BadNet : EO K mg (tb A) 1 A.c_BadNet "BadNet"
  E_BadBits : EO K mg (tb A) 2 A.c_BadBits "BadBits"
  x_BadBits_BackError : PySem.W.exmOne K (.ref A.c_BadBits) (.ref A.c_BackError) = some true
  xc_BadBits : ExcC K A.c_BadBits
  ki_BadBits_BadBits : PySem.W.kitOne K (.ref A.c_BadBits) (.ref A.c_BadBits) = some true
  ki_BadBits_BadNet : PySem.W.kitOne K (.ref A.c_BadBits) (.ref A.c_BadNet) = some false
  ki_BadBits_ValueError : PySem.W.kitOne K (.ref A.c_BadBits) (.type "ValueError") = some true
  z_ValueError : mg "ValueError" = none
  z_abs : mg "abs" = none
  z_all : mg "all" = none
  z_bool : mg "bool" = none
  z_int : mg "int" = none
  z_isinstance : mg "isinstance" = none
  z_len : mg "len" = none
  z_list : mg "list" = none
  z_range : mg "range" = none
  z_reversed : mg "reversed" = none
  z_sorted : mg "sorted" = none
  z_tuple : mg "tuple" = none
  k_MOST_GATES : ∃ t, mg "MOST_GATES" = some (.int 100000 t)
  k_MOST_LINES : ∃ t, mg "MOST_LINES" = some (.int 400 t)
section
variable {P : Program} {w : World} {K : PySem.W.Frag} {mg : Str → Option Value} {base : Heap} {A : Ad}
theorem c_MOST_GATES {X : Cx} {Ew : XW} {pos : Pos} (Z : Tx X.K X.mg A) (hg : Gl X "MOST_GATES") : PEm (tb A) X Ew (.Name "MOST_GATES" pos) (eC (.int 100000)) := by
  obtain ⟨t, e⟩ := Z.k_MOST_GATES
  exact m_glob (z := .int 100000) hg e ⟨t, rfl⟩ (fun _ => .int _)
theorem c_MOST_LINES {X : Cx} {Ew : XW} {pos : Pos} (Z : Tx X.K X.mg A) (hg : Gl X "MOST_LINES") : PEm (tb A) X Ew (.Name "MOST_LINES" pos) (eC (.int 400)) := by
  obtain ⟨t, e⟩ := Z.k_MOST_LINES
  exact m_glob (z := .int 400) hg e ⟨t, rfl⟩ (fun _ => .int _)
theorem ok__law_draws (Z : Tx K mg A) : FnOk P w K mg base (L2.CX P w) 1 A._law_draws A.fd__law_draws ["_law_script", "_law_many"] (spD K (tb A) 2 F__law_draws) :=
  fn_ok Z.F__law_draws sc__law_draws fun _ _ _ _ _ _ h => by
    unfold B__law_draws
    exact (mb_cons (ms_set (i := 2) h.nd rfl (by first | exact .inl rfl | exact .inr rfl) (m_lst ma_nil))
      (mb_cons (ms_set (i := 3) h.nd rfl (by first | exact .inl rfl | exact .inr rfl) m_int)
      (mb_cons (ms_for h.hp h.calm (i_seq (m_cut (m_var 0) mo_none (mo_some m_int))) (g_name h.nd rfl (by first | exact .inl rfl | exact .inr rfl)) (mb_cons (ms_set (i := 5) h.nd rfl (by first | exact .inl rfl | exact .inr rfl) (m_callB call_abs l_abs (by rfl) Z.z_abs b_abs (ma_cons (m_var 4) ma_nil)))
      (mb_cons (ms_if (mt_cmp op_ge o_ge (m_var 5) (m_op op_pow o_pow m_int m_int) (nomark _)) (mb_one (ms_for h.hp h.calm (i_range1 (by rfl) Z.z_range m_int) (g_name h.nd rfl (by first | exact .inl rfl | exact .inr rfl)) (mb_one (ms_if (mt_cmp op_gt o_gt (m_var 5) m_int (nomark _)) (mb_cons (ms_expr (m_bm PySem.F.plainAttrs_list PySem.F.slot_list_append PySem.F.type_list_append mt_append isLst_ok w_append (m_var 2) (ma_cons (m_op op_mod o_mod (m_callTy call_int1 l_int (by rfl) Z.z_int b_int (ma_cons (m_var 5) ma_nil)) m_int) ma_nil)))
      (mb_one (ms_set (i := 5) h.nd rfl (by first | exact .inl rfl | exact .inr rfl) (m_op op_fdiv o_fdiv (m_var 5) m_int)))) mb_nil)))) (mb_cons (ms_expr (m_bm PySem.F.plainAttrs_list PySem.F.slot_list_append PySem.F.type_list_append mt_append isLst_ok w_append (m_var 2) (ma_cons (m_op op_mod o_mod (m_callTy call_int1 l_int (by rfl) Z.z_int b_int (ma_cons (m_op add_all (o_add false) (m_op add_all (o_add false) (m_op op_mul o_mul (m_var 5) m_int) (m_op op_mul o_mul (m_var 3) m_int)) m_int) ma_nil)) m_int) ma_nil)))
      (mb_one (ms_expr (m_bm PySem.F.plainAttrs_list PySem.F.slot_list_append PySem.F.type_list_append mt_append isLst_ok w_append (m_var 2) (ma_cons (m_op op_mod o_mod (m_callTy call_int1 l_int (by rfl) Z.z_int b_int (ma_cons (m_op add_all (o_add false) (m_op add_all (o_add false) (m_op add_all (o_add false) (m_op op_mul o_mul (m_var 5) m_int) (m_op op_mul o_mul (m_var 3) m_int)) m_int) (m_op op_mul o_mul (m_var 5) (m_var 5))) ma_nil)) m_int) ma_nil))))))
      (mb_one (ms_set (i := 3) h.nd rfl (by first | exact .inl rfl | exact .inr rfl) (m_op add_all (o_add false) (m_var 3) m_int))))))
      (mb_cons (ms_for h.hp h.calm (i_range1 (by rfl) Z.z_range (m_var 1)) (g_name h.nd rfl (by first | exact .inl rfl | exact .inr rfl)) (mb_one (ms_if (mt_cmp op_lt o_lt (m_callB call_len l_len (by rfl) Z.z_len b_len (ma_cons (m_var 2) ma_nil)) (m_var 1) (nomark _)) (mb_one (ms_expr (m_bm PySem.F.plainAttrs_list PySem.F.slot_list_append PySem.F.type_list_append mt_append isLst_ok w_append (m_var 2) (ma_cons (m_op op_mod o_mod (m_callTy call_int1 l_int (by rfl) Z.z_int b_int (ma_cons (m_op add_all (o_add false) (m_op add_all (o_add false) (m_op op_mul o_mul (m_callB call_len l_len (by rfl) Z.z_len b_len (ma_cons (m_var 2) ma_nil)) m_int) (m_op op_mul o_mul m_int (m_var 3))) (m_op op_mul o_mul (m_op op_mul o_mul (m_var 6) (m_var 6)) m_int)) ma_nil)) m_int) ma_nil)))) mb_nil)))
      (mb_one (ms_ret (m_cut (m_var 2) mo_none (mo_some (m_var 1)))))))))
theorem ok__law_gates (Z : Tx K mg A) : FnOk P w K mg base (L2.CX P w) 1 A._law_gates A.fd__law_gates ["_law_draws_here", "_law_at", "_law_many", "_law_lines"] (spD K (tb A) 4 F__law_gates) :=
  fn_ok Z.F__law_gates sc__law_gates fun _ _ _ _ _ _ h => by
    unfold B__law_gates
    exact (mb_cons (ms_set (i := 4) h.nd rfl (by first | exact .inl rfl | exact .inr rfl) (m_lst ma_nil))
      (mb_cons (ms_for h.hp h.calm (i_range1 (by rfl) Z.z_range (m_var 2)) (g_name h.nd rfl (by first | exact .inl rfl | exact .inr rfl)) (mb_cons (ms_par (i := 6) (j := 7) h.calm h.nd rfl rfl (by decide) rfl rfl (ma_cons (m_ix (m_var 0) (m_op add_all (o_add false) (m_var 1) (m_op op_mul o_mul m_int (m_var 5)))) (ma_cons (m_ix (m_var 0) (m_op add_all (o_add false) (m_op add_all (o_add false) (m_var 1) (m_op op_mul o_mul m_int (m_var 5))) m_int)) ma_nil)))
      (mb_cons (ms_set (i := 8) h.nd rfl (by first | exact .inl rfl | exact .inr rfl) (m_listR1 h.calm (by rfl) Z.z_list (by rfl) Z.z_range (m_var 3)))
      (mb_cons (ms_set (i := 9) h.nd rfl (by first | exact .inl rfl | exact .inr rfl) (m_bm PySem.F.plainAttrs_list PySem.F.slot_list_pop PySem.F.type_list_pop mt_popAt isLst_ok w_popAt (m_var 8) (ma_cons (m_op op_mod o_mod (m_var 6) (m_var 3)) ma_nil)))
      (mb_cons (ms_set (i := 10) h.nd rfl (by first | exact .inl rfl | exact .inr rfl) (m_tup (ma_cons m_str (ma_cons (m_tup ma_nil) (ma_cons (m_var 9) ma_nil)))))
      (mb_cons (ms_if (mw_and (mt_cmp (op_eqD h.hu) o_eq (m_op op_mod o_mod (m_op op_fdiv o_fdiv (m_var 6) (m_var 3)) m_int) m_int (nomark _)) (mw_and1 (mt_cmp op_gt o_gt (m_callB call_len l_len (by rfl) Z.z_len b_len (ma_cons (m_var 8) ma_nil)) m_int (nomark _)))).pt (mb_one (ms_set (i := 10) h.nd rfl (by first | exact .inl rfl | exact .inr rfl) (m_tup (ma_cons m_str (ma_cons (m_tup ma_nil) (ma_cons (m_var 9) (ma_cons (m_bm PySem.F.plainAttrs_list PySem.F.slot_list_pop PySem.F.type_list_pop mt_popAt isLst_ok w_popAt (m_var 8) (ma_cons (m_op op_mod o_mod (m_op op_fdiv o_fdiv (m_var 6) m_int) (m_callB call_len l_len (by rfl) Z.z_len b_len (ma_cons (m_var 8) ma_nil))) ma_nil)) ma_nil))))))) mb_nil)
      (mb_cons (ms_set (i := 11) h.nd rfl (by first | exact .inl rfl | exact .inr rfl) (m_lst ma_nil))
      (mb_cons (ms_for h.hp h.calm (i_range1 (by rfl) Z.z_range (m_op op_mod o_mod (m_op op_fdiv o_fdiv (m_var 6) m_int) m_int)) (g_name h.nd rfl (by first | exact .inl rfl | exact .inr rfl)) (mb_one (ms_if (mt_cmp op_gt o_gt (m_callB call_len l_len (by rfl) Z.z_len b_len (ma_cons (m_var 8) ma_nil)) m_int (nomark _)) (mb_one (ms_expr (m_bm PySem.F.plainAttrs_list PySem.F.slot_list_append PySem.F.type_list_append mt_append isLst_ok w_append (m_var 11) (ma_cons (m_bm PySem.F.plainAttrs_list PySem.F.slot_list_pop PySem.F.type_list_pop mt_popAt isLst_ok w_popAt (m_var 8) (ma_cons (m_op op_mod o_mod (m_op op_fdiv o_fdiv (m_var 7) (m_op add_all (o_add false) (m_var 12) m_int)) (m_callB call_len l_len (by rfl) Z.z_len b_len (ma_cons (m_var 8) ma_nil))) ma_nil)) ma_nil)))) mb_nil)))
      (mb_one (ms_expr (m_bm PySem.F.plainAttrs_list PySem.F.slot_list_append PySem.F.type_list_append mt_append isLst_ok w_append (m_var 4) (ma_cons (m_op add_all (o_add false) (m_tup (ma_cons (m_ix (m_var 10) m_int) (ma_cons (m_callTy call_tuple_of l_tuple (by rfl) Z.z_tuple b_tuple (ma_cons (m_callB cr_sortedI (l_sortI false) (by rfl) Z.z_sorted b_sorted (ma_cons (m_var 11) ma_nil)) ma_nil)) ma_nil))) (m_cut (m_var 10) (mo_some m_int) mo_none)) ma_nil))))))))))))
      (mb_one (ms_ret (m_frz (m_var 4))))))
theorem ok_is_line (Z : Tx K mg A) : FnOk P w K mg base (L2.CX P w) 1 A.is_line A.fd_is_line ["value", "lines"] (spD K (tb A) 2 F_is_line) :=
  fn_ok Z.F_is_line sc_is_line fun _ _ _ _ _ _ h => by
    unfold B_is_line
    exact (mb_one (ms_ret (m_and (m_callB call_isi l_isi (by rfl) Z.z_isinstance b_isinstance (ma_cons (m_var 0) (ma_cons (m_bltn (v := .ty .int) (z := .ty "int") (by rfl) Z.z_int b_int rfl (fun _ => .ty .int)) ma_nil))) (m_and (m_not (m_callB call_isi l_isi (by rfl) Z.z_isinstance b_isinstance (ma_cons (m_var 0) (ma_cons (m_bltn (v := .ty .bl) (z := .ty "bool") (by rfl) Z.z_bool b_bool rfl (fun _ => .ty .bl)) ma_nil)))) (m_one (m_chain op_le op_lt o_le o_lt m_int (m_var 0) (m_var 1)))))))
theorem ok_is_gate (Z : Tx K mg A) : FnOk P w K mg base (L2.CX P w) 2 A.is_gate A.fd_is_gate ["gate", "lines"] (spD K (tb A) 2 F_is_gate) :=
  fn_ok Z.F_is_gate sc_is_gate fun _ _ _ _ _ _ h => by
    unfold B_is_gate
    exact (mb_cons (ms_if (mw_or (mt_not (mt_tru (m_callB call_isi l_isi (by rfl) Z.z_isinstance b_isinstance (ma_cons (m_var 0) (ma_cons (m_bltn (v := .ty .tup) (z := .ty "tuple") (by rfl) Z.z_tuple b_tuple rfl (fun _ => .ty .tup)) ma_nil))))) (mw_or (mt_cmp op_lt o_lt (m_callB call_len l_len (by rfl) Z.z_len b_len (ma_cons (m_var 0) ma_nil)) m_int (nomark _)) (mw_or1 (mt_not (mt_tru (m_callB call_isi l_isi (by rfl) Z.z_isinstance b_isinstance (ma_cons (m_ix (m_var 0) m_int) (ma_cons (m_bltn (v := .ty .tup) (z := .ty "tuple") (by rfl) Z.z_tuple b_tuple rfl (fun _ => .ty .tup)) ma_nil)))))))).pt (mb_one (ms_ret m_bl)) mb_nil)
      (mb_cons (ms_if (mw_or (mt_cmp (or_notIn h.hu65) (o_in true) (m_ix (m_var 0) m_int) (m_tup (ma_cons m_str (ma_cons m_str ma_nil))) (by rfl)) (mw_or1 (mt_cmp (op_neD h.hu) o_ne (m_callB call_len l_len (by rfl) Z.z_len b_len (ma_cons (m_var 0) ma_nil)) (m_if (mt_cmp (op_eqD h.hu) o_eq (m_ix (m_var 0) m_int) m_str (nomark _)) m_int m_int) (nomark _)))).pt (mb_one (ms_ret m_bl)) mb_nil)
      (mb_cons (ms_set (i := 2) h.nd rfl (by first | exact .inl rfl | exact .inr rfl) (m_op add_all (o_add false) (m_ix (m_var 0) m_int) (m_cut (m_var 0) (mo_some m_int) mo_none)))
      (mb_cons (ms_if (mt_not (mt_tru (m_callB (cr_all h.calm) l_all (by rfl) Z.z_all b_all (ma_cons (m_lc (own := [("line", 4)]) h.calm h.nd (i_seq (m_var 2)) (blkOk_by (N := N_is_gate) (sc := defScope s_is_gate) (by decide +kernel)) (by decide) (fun _ _ _ _ _ => (g_name (h.blk _ _ _ _ _).nd rfl (by first | exact .inl rfl | exact .inr rfl))) (fun _ _ _ _ _ => mts_nil) (fun _ _ _ _ _ => (m_call (ok_is_line Z) ((h.blk _ _ _ _ _).room.mono (by decide)) (by rfl) Z.g_is_line Z.F_is_line.kp Z.b_is_line (ma_cons (m_var 4) (ma_cons (m_var 1) ma_nil))))) ma_nil)))) (mb_one (ms_ret m_bl)) mb_nil)
      (mb_cons (ms_set (i := 3) h.nd rfl (by first | exact .inl rfl | exact .inr rfl) (m_callB (cr_all h.calm) l_all (by rfl) Z.z_all b_all (ma_cons (m_lc (own := [("k", 5)]) h.calm h.nd (i_range1 (by rfl) Z.z_range (m_op op_sub o_sub (m_callB call_len l_len (by rfl) Z.z_len b_len (ma_cons (m_ix (m_var 0) m_int) ma_nil)) m_int)) (blkOk_by (N := N_is_gate) (sc := defScope s_is_gate) (by decide +kernel)) (by decide) (fun _ _ _ _ _ => (g_name (h.blk _ _ _ _ _).nd rfl (by first | exact .inl rfl | exact .inr rfl))) (fun _ _ _ _ _ => mts_nil) (fun _ _ _ _ _ => (m_cmp op_lt o_lt (m_ix (m_ix (m_var 0) m_int) (m_var 5)) (m_ix (m_ix (m_var 0) m_int) (m_op add_all (o_add false) (m_var 5) m_int)) (nomark _)))) ma_nil)))
      (mb_one (ms_ret (m_and (m_var 3) (m_one (m_cmp (op_eqD h.hu) o_eq (m_callB call_lenD l_lenD (by rfl) Z.z_len b_len (ma_cons (m_dc (own := [("line", 4)]) h.calm h.nd (i_seq (m_var 2)) (blkOk_by (N := N_is_gate) (sc := defScope s_is_gate) (by decide +kernel)) (by decide) (fun _ _ _ _ _ => (g_name (h.blk _ _ _ _ _).nd rfl (by first | exact .inl rfl | exact .inr rfl))) (fun _ _ _ _ _ => mts_nil) (fun _ _ _ _ _ => (m_var 4)) (fun _ _ _ _ _ => m_bl)) ma_nil)) (m_callB call_len l_len (by rfl) Z.z_len b_len (ma_cons (m_var 2) ma_nil)) (nomark _)))))))))))
theorem ok_Net___init__ (Z : Tx K mg A) : FnOk P w K mg base (L2.CX P w) 3 A.Net___init__ A.fd_Net___init__ ["self", "lines", "gates"] (spD K (tb A) 3 F_Net___init__) :=
  fn_ok Z.F_Net___init__ sc_Net___init__ fun _ _ _ _ _ _ h => by
    unfold B_Net___init__
    exact (mb_cons (ms_if (mw_or (mt_not (mt_tru (m_call (ok_is_line Z) (h.room.mono (by decide)) (by rfl) Z.g_is_line Z.F_is_line.kp Z.b_is_line (ma_cons (m_var 1) (ma_cons (m_op add_all (o_add false) (c_MOST_LINES Z (by rfl)) m_int) ma_nil))))) (mw_or (mt_cmp (op_eqD h.hu) o_eq (m_var 1) m_int (nomark _)) (mw_or1 (mt_cmp op_gt o_gt (m_callB call_len l_len (by rfl) Z.z_len b_len (ma_cons (m_var 2) ma_nil)) (c_MOST_GATES Z (by rfl)) (nomark _))))).pt (mb_one ms_never) mb_nil)
      (mb_cons (ms_if (mt_not (mt_tru (m_callB (cr_all h.calm) l_all (by rfl) Z.z_all b_all (ma_cons (m_lc (own := [("gate", 3)]) h.calm h.nd (i_seq (m_var 2)) (blkOk_by (N := N_Net___init__) (sc := defScope s_Net___init__) (by decide +kernel)) (by decide) (fun _ _ _ _ _ => (g_name (h.blk _ _ _ _ _).nd rfl (by first | exact .inl rfl | exact .inr rfl))) (fun _ _ _ _ _ => mts_nil) (fun _ _ _ _ _ => (m_call (ok_is_gate Z) ((h.blk _ _ _ _ _).room.mono (by decide)) (by rfl) Z.g_is_gate Z.F_is_gate.kp Z.b_is_gate (ma_cons (m_var 3) (ma_cons (m_var 1) ma_nil))))) ma_nil)))) (mb_one ms_never) mb_nil)
      (mb_cons (ms_attr (i := 0) Z.O_Net (by rfl) (m_var 0) (m_var 1))
      (mb_one (ms_attr (i := 1) Z.O_Net (by rfl) (m_var 0) (m_callTy call_list_of (l_list false) (by rfl) Z.z_list b_list (ma_cons (m_var 2) ma_nil)))))))
theorem ok_Net__checked (Z : Tx K mg A) : FnOk P w K mg base (L2.CX P w) 2 A.Net__checked A.fd_Net__checked ["self", "bits"] (spD K (tb A) 2 F_Net__checked) :=
  fn_ok Z.F_Net__checked sc_Net__checked fun _ _ _ _ _ _ h => by
    unfold B_Net__checked
    exact (mb_cons (ms_if (mw_or (mt_not (mt_tru (m_callB call_isi l_isi (by rfl) Z.z_isinstance b_isinstance (ma_cons (m_var 1) (ma_cons (m_bltn (v := .ty .tup) (z := .ty "tuple") (by rfl) Z.z_tuple b_tuple rfl (fun _ => .ty .tup)) ma_nil))))) (mw_or (mt_cmp (op_neD h.hu) o_ne (m_callB call_len l_len (by rfl) Z.z_len b_len (ma_cons (m_var 1) ma_nil)) (m_attr (i := 0) Z.O_Net (by rfl) (m_var 0)) (nomark _)) (mw_or1 (mt_not (mt_tru (m_callB (cr_all h.calm) l_all (by rfl) Z.z_all b_all (ma_cons (m_lc (own := [("bit", 2)]) h.calm h.nd (i_seq (m_var 1)) (blkOk_by (N := N_Net__checked) (sc := defScope s_Net__checked) (by decide +kernel)) (by decide) (fun _ _ _ _ _ => (g_name (h.blk _ _ _ _ _).nd rfl (by first | exact .inl rfl | exact .inr rfl))) (fun _ _ _ _ _ => mts_nil) (fun _ _ _ _ _ => (m_call (ok_is_line Z) ((h.blk _ _ _ _ _).room.mono (by decide)) (by rfl) Z.g_is_line Z.F_is_line.kp Z.b_is_line (ma_cons (m_var 2) (ma_cons m_int ma_nil))))) ma_nil))))))).pt (mb_one (ms_raise h.calm h.tk Z.E_BadBits (by rfl))) mb_nil)
      (mb_one (ms_ret (m_callTy call_list_of (l_list true) (by rfl) Z.z_list b_list (ma_cons (m_var 1) ma_nil)))))
theorem ok_taken (Z : Tx K mg A) : FnOk P w K mg base (L2.CX P w) 1 A.taken A.fd_taken ["gate", "bits"] (spD K (tb A) 2 F_taken) :=
  fn_ok Z.F_taken sc_taken fun _ _ _ _ _ _ h => by
    unfold B_taken
    exact (mb_cons (ms_for h.hp h.calm (i_seq (m_ix (m_var 0) m_int)) (g_name h.nd rfl (by first | exact .inl rfl | exact .inr rfl)) (mb_one (ms_if (mt_cmp (op_eqD h.hu) o_eq (m_ix (m_var 1) (m_var 2)) m_int (nomark _)) (mb_one ms_retN) mb_nil)))
      (mb_one (ms_if (mt_cmp (op_eqD h.hu) o_eq (m_ix (m_var 0) m_int) m_str (nomark _)) (mb_one (ms_setIx (m_op op_sub o_sub m_int (m_ix (m_var 1) (m_ix (m_var 0) m_int))) (m_var 1) (m_ix (m_var 0) m_int))) (mb_one (ms_setIx2 h.calm (m_tup (ma_cons (m_ix (m_var 1) (m_ix (m_var 0) m_int)) (ma_cons (m_ix (m_var 1) (m_ix (m_var 0) m_int)) ma_nil))) (m_var 1) (m_ix (m_var 0) m_int) (m_var 1) (m_ix (m_var 0) m_int))))))
theorem ok_Net_run (Z : Tx K mg A) : FnOk P w K mg base (L2.CX P w) 3 A.Net_run A.fd_Net_run ["self", "bits"] (spD K (tb A) 2 F_Net_run) :=
  fn_ok Z.F_Net_run sc_Net_run fun _ _ _ _ _ _ h => by
    unfold B_Net_run
    exact (mb_cons (ms_set (i := 2) h.nd rfl (by first | exact .inl rfl | exact .inr rfl) (m_methX h.tk Z.O_Net (by show ("_checked" : Str) ∉ (["lines", "_gates"] : List Str); decide +kernel) (m_var 0) Z.m_Net__checked (ok_Net__checked Z) (h.room.mono (by decide)) Z.b_Net__checked (ma_cons (m_var 1) ma_nil)))
      (mb_cons (ms_for h.hp h.calm (i_seq (m_attr (i := 1) Z.O_Net (by rfl) (m_var 0))) (g_name h.nd rfl (by first | exact .inl rfl | exact .inr rfl)) (mb_one (ms_expr (m_call (ok_taken Z) (h.room.mono (by decide)) (by rfl) Z.g_taken Z.F_taken.kp Z.b_taken (ma_cons (m_var 3) (ma_cons (m_var 2) ma_nil))))))
      (mb_one (ms_ret (m_callTy call_tuple_of l_tuple (by rfl) Z.z_tuple b_tuple (ma_cons (m_var 2) ma_nil))))))
theorem ok_Net_back (Z : Tx K mg A) : FnOk P w K mg base (L2.CX P w) 3 A.Net_back A.fd_Net_back ["self", "bits"] (spD K (tb A) 2 F_Net_back) :=
  fn_ok Z.F_Net_back sc_Net_back fun _ _ _ _ _ _ h => by
    unfold B_Net_back
    exact (mb_cons (ms_set (i := 2) h.nd rfl (by first | exact .inl rfl | exact .inr rfl) (m_methX h.tk Z.O_Net (by show ("_checked" : Str) ∉ (["lines", "_gates"] : List Str); decide +kernel) (m_var 0) Z.m_Net__checked (ok_Net__checked Z) (h.room.mono (by decide)) Z.b_Net__checked (ma_cons (m_var 1) ma_nil)))
      (mb_cons (ms_for h.hp h.calm (i_rev (by rfl) Z.z_reversed (m_attr (i := 1) Z.O_Net (by rfl) (m_var 0))) (g_name h.nd rfl (by first | exact .inl rfl | exact .inr rfl)) (mb_one (ms_expr (m_call (ok_taken Z) (h.room.mono (by decide)) (by rfl) Z.g_taken Z.F_taken.kp Z.b_taken (ma_cons (m_var 3) (ma_cons (m_var 2) ma_nil))))))
      (mb_one (ms_ret (m_callTy call_tuple_of l_tuple (by rfl) Z.z_tuple b_tuple (ma_cons (m_var 2) ma_nil))))))
theorem ok__law_refused (Z : Tx K mg A) : FnOk P w K mg base (L2.CX P w) 4 A._law_refused A.fd__law_refused ["_law_net", "_law_bits", "_law_word"] (spD K (tb A) 3 F__law_refused) :=
  fn_ok Z.F__law_refused sc__law_refused fun _ _ _ _ _ _ h => by
    unfold B__law_refused
    exact (mb_cons (ms_try (i := 3) rfl rfl rfl h.nd rfl rfl ⟨by rfl, by decide, .inl Z.E_BackError.gC⟩ h.tk (all_c (fun C hC => by cases hC; exact Z.x_BadBits_BackError) all_n) all_n (fun W pn xe tk hp => (mb_one (ms_if (mt_cmp (op_eqD (h.tr pn xe tk hp).hu) o_eq (m_var 2) m_str (nomark _)) (mb_one (ms_expr (m_methX (h.tr pn xe tk hp).tk Z.O_Net (by show ("run" : Str) ∉ (["lines", "_gates"] : List Str); decide +kernel) (m_var 0) Z.m_Net_run (ok_Net_run Z) ((h.tr pn xe tk hp).room.mono (by decide)) Z.b_Net_run (ma_cons (m_var 1) ma_nil)))) (mb_one (ms_expr (m_methX (h.tr pn xe tk hp).tk Z.O_Net (by show ("back" : Str) ∉ (["lines", "_gates"] : List Str); decide +kernel) (m_var 0) Z.m_Net_back (ok_Net_back Z) ((h.tr pn xe tk hp).room.mono (by decide)) Z.b_Net_back (ma_cons (m_var 1) ma_nil))))))) (all_c (fun C a oe d pn hC hz hf hd => by
        cases hC
        obtain rfl := hd rfl
        exact (mb_one (ms_ret (m_and (m_isErr (zv := .cls 2) Z.xc_BadBits hz hf Z.z_isinstance (by rfl) (pv 3) (pe_glob (v := .ref A.c_BadBits) (by rfl) Z.E_BadBits.gC rfl) (fun _ h => h) Z.ki_BadBits_BadBits) (m_and (m_isErr (zv := .ty .ve) Z.xc_BadBits hz hf Z.z_isinstance (by rfl) (pv 3) (pe_bltn (v := .ty "ValueError") (by rfl) Z.z_ValueError b_ValueError rfl) (fun _ h => h) Z.ki_BadBits_ValueError) (m_one (m_not (m_isErr (zv := .cls 1) Z.xc_BadBits hz hf Z.z_isinstance (by rfl) (pv 3) (pe_glob (v := .ref A.c_BadNet) (by rfl) Z.E_BadNet.gC rfl) (fun _ h => h) Z.ki_BadBits_BadNet)))))))) all_n))
      (mb_one (ms_ret m_bl)))
theorem ok_Net_gates (Z : Tx K mg A) : FnOk P w K mg base (L2.CX P w) 1 A.Net_gates A.fd_Net_gates ["self"] (spD K (tb A) 1 F_Net_gates) :=
  fn_ok Z.F_Net_gates sc_Net_gates fun _ _ _ _ _ _ h => by
    unfold B_Net_gates
    exact (mb_one (ms_ret (m_callTy call_list_of (l_list false) (by rfl) Z.z_list b_list (ma_cons (m_attr (i := 1) Z.O_Net (by rfl) (m_var 0)) ma_nil))))
theorem ok_Net_gates__bx (Z : Tx K mg A) : FnOk P w K mg base (L2.CX P w) 1 A.Net_gates A.fd_Net_gates ["self"] (spD K (tb A) 1 F_Net_gates__bx) :=
  fn_ok Z.F_Net_gates sc_Net_gates fun _ _ _ _ _ _ h => by
    unfold B_Net_gates__bx
    exact (mb_one (ms_ret (m_callTy call_list_of (l_list true) (by rfl) Z.z_list b_list (ma_cons (m_attr (i := 1) Z.O_Net (by rfl) (m_var 0)) ma_nil))))
theorem ok__law_is_number (Z : Tx K mg A) : FnOk P w K mg base (L2.CX P w) 1 A._law_is_number A.fd__law_is_number ["_law_value"] (spD K (tb A) 1 F__law_is_number) :=
  fn_ok Z.F__law_is_number sc__law_is_number fun _ _ _ _ _ _ h => by
    unfold B__law_is_number
    exact (mb_one (ms_ret (m_and (m_callB call_isi l_isi (by rfl) Z.z_isinstance b_isinstance (ma_cons (m_var 0) (ma_cons (m_bltn (v := .ty .int) (z := .ty "int") (by rfl) Z.z_int b_int rfl (fun _ => .ty .int)) ma_nil))) (m_one (m_not (m_callB call_isi l_isi (by rfl) Z.z_isinstance b_isinstance (ma_cons (m_var 0) (ma_cons (m_bltn (v := .ty .bl) (z := .ty "bool") (by rfl) Z.z_bool b_bool rfl (fun _ => .ty .bl)) ma_nil))))))))
theorem ok__law_taken (Z : Tx K mg A) : FnOk P w K mg base (L2.CX P w) 1 A._law_taken A.fd__law_taken ["_law_gates_here", "_law_bits"] (spD K (tb A) 2 F__law_taken) :=
  fn_ok Z.F__law_taken sc__law_taken fun _ _ _ _ _ _ h => by
    unfold B__law_taken
    exact (mb_cons (ms_set (i := 2) h.nd rfl (by first | exact .inl rfl | exact .inr rfl) (m_callTy call_list_of (l_list true) (by rfl) Z.z_list b_list (ma_cons (m_var 1) ma_nil)))
      (mb_cons (ms_for h.hp h.calm (i_seq (m_var 0)) (g_name h.nd rfl (by first | exact .inl rfl | exact .inr rfl)) (mb_one (ms_if (mt_tru (m_callB (cr_all h.calm) l_all (by rfl) Z.z_all b_all (ma_cons (m_lc (own := [("_law_line", 6)]) h.calm h.nd (i_seq (m_ix (m_var 3) m_int)) (blkOk_by (N := N__law_taken) (sc := defScope s__law_taken) (by decide +kernel)) (by decide) (fun _ _ _ _ _ => (g_name (h.blk _ _ _ _ _).nd rfl (by first | exact .inl rfl | exact .inr rfl))) (fun _ _ _ _ _ => mts_nil) (fun _ _ _ _ _ => (m_cmp (op_eqD (h.blk _ _ _ _ _).hu) o_eq (m_ix (m_var 2) (m_var 6)) m_int (nomark _)))) ma_nil))) (mb_one (ms_if (mt_cmp (op_eqD h.hu) o_eq (m_ix (m_var 3) m_int) m_str (nomark _)) (mb_one (ms_setIx (m_op op_sub o_sub m_int (m_ix (m_var 2) (m_ix (m_var 3) m_int))) (m_var 2) (m_ix (m_var 3) m_int))) (mb_cons (ms_par (i := 4) (j := 5) h.calm h.nd rfl rfl (by decide) rfl rfl (ma_cons (m_ix (m_var 2) (m_ix (m_var 3) m_int)) (ma_cons (m_ix (m_var 2) (m_ix (m_var 3) m_int)) ma_nil)))
      (mb_cons (ms_setIx (m_var 5) (m_var 2) (m_ix (m_var 3) m_int))
      (mb_one (ms_setIx (m_var 4) (m_var 2) (m_ix (m_var 3) m_int))))))) mb_nil)))
      (mb_one (ms_ret (m_callTy call_tuple_of l_tuple (by rfl) Z.z_tuple b_tuple (ma_cons (m_var 2) ma_nil))))))
theorem ok_law (Z : Tx K mg A) : FnOk P w K mg base (L2.CX P w) 5 A.law A.fd_law ["_law_script"] (spD K (tb A) 1 F_law) :=
  fn_ok Z.F_law sc_law fun _ _ _ _ _ _ h => by
    unfold B_law
    exact (mb_cons (ms_set (i := 1) h.nd rfl (by first | exact .inl rfl | exact .inr rfl) (m_call (ok__law_draws Z) (h.room.mono (by decide)) (by rfl) Z.g__law_draws Z.F__law_draws.kp Z.b__law_draws (ma_cons (m_var 0) (ma_cons m_int ma_nil))))
      (mb_cons (ms_set (i := 2) h.nd rfl (by first | exact .inl rfl | exact .inr rfl) (m_op add_all (o_add false) m_int (m_op op_mod o_mod (m_ix (m_var 1) m_int) m_int)))
      (mb_cons (ms_if (mt_cmp (op_eqD h.hu) o_eq (m_op op_mod o_mod (m_ix (m_var 1) m_int) m_int) m_int (nomark _)) (mb_one (ms_set (i := 2) h.nd rfl (by first | exact .inl rfl | exact .inr rfl) m_int)) mb_nil)
      (mb_cons (ms_set (i := 3) h.nd rfl (by first | exact .inl rfl | exact .inr rfl) (m_call (ok__law_gates Z) (h.room.mono (by decide)) (by rfl) Z.g__law_gates Z.F__law_gates.kp Z.b__law_gates (ma_cons (m_var 1) (ma_cons m_int (ma_cons (m_op op_mod o_mod (m_ix (m_var 1) m_int) m_int) (ma_cons (m_var 2) ma_nil))))))
      (mb_cons (ms_set (i := 4) h.nd rfl (by first | exact .inl rfl | exact .inr rfl) (m_callTy call_list_of (l_list true) (by rfl) Z.z_list b_list (ma_cons (m_var 3) ma_nil)))
      (mb_cons (ms_set (i := 5) h.nd rfl (by first | exact .inl rfl | exact .inr rfl) (m_frz (m_make Z.O_Net Z.M_Net (ok_Net___init__ Z) (h.room.mono (by decide)) (by rfl) Z.g_Net Z.b_Net___init__ (ma_cons (m_var 2) (ma_cons (m_var 4) ma_nil)))))
      (mb_cons (ms_expr (m_bm PySem.F.plainAttrs_list PySem.F.slot_list_append PySem.F.type_list_append mt_append isLst_ok w_append (m_var 4) (ma_cons (m_tup (ma_cons m_str (ma_cons (m_tup ma_nil) (ma_cons m_int ma_nil)))) ma_nil)))
      (mb_cons (ms_expr (m_bm PySem.F.plainAttrs_list PySem.F.slot_list_append PySem.F.type_list_append mt_append isLst_ok w_append (m_meth0 Z.O_Net (by show ("gates" : Str) ∉ (["lines", "_gates"] : List Str); decide +kernel) (m_var 5) Z.m_Net_gates (ok_Net_gates__bx Z) (h.room.mono (by decide)) Z.b_Net_gates) (ma_cons m_int ma_nil)))
      (mb_cons (ms_if (mw_or (mt_not (mt_tru (m_call (ok__law_is_number Z) (h.room.mono (by decide)) (by rfl) Z.g__law_is_number Z.F__law_is_number.kp Z.b__law_is_number (ma_cons (m_attr (i := 0) Z.O_Net (by rfl) (m_var 5)) ma_nil)))) (mw_or (mt_cmp (op_neD h.hu) o_ne (m_attr (i := 0) Z.O_Net (by rfl) (m_var 5)) (m_var 2) (nomark _)) (mw_or (mt_cmp (op_neD h.hu) o_ne (m_meth0 Z.O_Net (by show ("gates" : Str) ∉ (["lines", "_gates"] : List Str); decide +kernel) (m_var 5) Z.m_Net_gates (ok_Net_gates__bx Z) (h.room.mono (by decide)) Z.b_Net_gates) (m_var 3) (nomark _)) (mw_or1 (mt_not (mt_tru (m_callB call_isi l_isi (by rfl) Z.z_isinstance b_isinstance (ma_cons (m_meth0 Z.O_Net (by show ("gates" : Str) ∉ (["lines", "_gates"] : List Str); decide +kernel) (m_var 5) Z.m_Net_gates (ok_Net_gates__bx Z) (h.room.mono (by decide)) Z.b_Net_gates) (ma_cons (m_bltn (v := .ty .lst) (z := .ty "list") (by rfl) Z.z_list b_list rfl (fun _ => .ty .lst)) ma_nil))))))))).pt (mb_one (ms_ret m_bl)) mb_nil)
      (mb_cons (ms_set (i := 6) h.nd rfl (by first | exact .inl rfl | exact .inr rfl) (m_callTy call_tuple_of l_tuple (by rfl) Z.z_tuple b_tuple (ma_cons (m_lc (own := [("_law_k", 9)]) h.calm h.nd (i_range1 (by rfl) Z.z_range (m_var 2)) (blkOk_by (N := N_law) (sc := defScope s_law) (by decide +kernel)) (by decide) (fun _ _ _ _ _ => (g_name (h.blk _ _ _ _ _).nd rfl (by first | exact .inl rfl | exact .inr rfl))) (fun _ _ _ _ _ => mts_nil) (fun _ _ _ _ _ => (m_op op_mod o_mod (m_op op_fdiv o_fdiv (m_ix (m_var 1) (m_op add_all (o_add false) m_int (m_op op_mod o_mod (m_var 9) m_int))) (m_op add_all (o_add false) m_int (m_var 9))) m_int))) ma_nil)))
      (mb_cons (ms_set (i := 7) h.nd rfl (by first | exact .inl rfl | exact .inr rfl) (m_meth Z.O_Net (by show ("run" : Str) ∉ (["lines", "_gates"] : List Str); decide +kernel) (m_var 5) Z.m_Net_run (ok_Net_run Z) (h.room.mono (by decide)) Z.b_Net_run (ma_cons (m_var 6) ma_nil)))
      (mb_cons (ms_if (mw_or (mt_not (mt_tru (m_callB call_isi l_isi (by rfl) Z.z_isinstance b_isinstance (ma_cons (m_var 7) (ma_cons (m_bltn (v := .ty .tup) (z := .ty "tuple") (by rfl) Z.z_tuple b_tuple rfl (fun _ => .ty .tup)) ma_nil))))) (mw_or (mt_cmp (op_neD h.hu) o_ne (m_var 7) (m_call (ok__law_taken Z) (h.room.mono (by decide)) (by rfl) Z.g__law_taken Z.F__law_taken.kp Z.b__law_taken (ma_cons (m_var 3) (ma_cons (m_var 6) ma_nil))) (nomark _)) (mw_or1 (mt_cmp (op_neD h.hu) o_ne (m_meth Z.O_Net (by show ("back" : Str) ∉ (["lines", "_gates"] : List Str); decide +kernel) (m_var 5) Z.m_Net_back (ok_Net_back Z) (h.room.mono (by decide)) Z.b_Net_back (ma_cons (m_var 7) ma_nil)) (m_var 6) (nomark _))))).pt (mb_one (ms_ret m_bl)) mb_nil)
      (mb_cons (ms_if (mw_or (mt_cmp (op_neD h.hu) o_ne (m_meth Z.O_Net (by show ("back" : Str) ∉ (["lines", "_gates"] : List Str); decide +kernel) (m_var 5) Z.m_Net_back (ok_Net_back Z) (h.room.mono (by decide)) Z.b_Net_back (ma_cons (m_var 6) ma_nil)) (m_call (ok__law_taken Z) (h.room.mono (by decide)) (by rfl) Z.g__law_taken Z.F__law_taken.kp Z.b__law_taken (ma_cons (m_revL (m_var 3)) (ma_cons (m_var 6) ma_nil))) (nomark _)) (mw_or1 (mt_cmp (op_neD h.hu) o_ne (m_meth Z.O_Net (by show ("run" : Str) ∉ (["lines", "_gates"] : List Str); decide +kernel) (m_var 5) Z.m_Net_run (ok_Net_run Z) (h.room.mono (by decide)) Z.b_Net_run (ma_cons (m_meth Z.O_Net (by show ("back" : Str) ∉ (["lines", "_gates"] : List Str); decide +kernel) (m_var 5) Z.m_Net_back (ok_Net_back Z) (h.room.mono (by decide)) Z.b_Net_back (ma_cons (m_var 6) ma_nil)) ma_nil)) (m_var 6) (nomark _)))).pt (mb_one (ms_ret m_bl)) mb_nil)
      (mb_cons (ms_set (i := 8) h.nd rfl (by first | exact .inl rfl | exact .inr rfl) (m_ix (m_lst (ma_cons (m_op add_all (o_add false) (m_var 6) (m_tup (ma_cons m_int ma_nil))) (ma_cons (m_cut (m_var 6) (mo_some m_int) mo_none) (ma_cons (m_op add_all (o_add false) (m_cut (m_var 6) mo_none (mo_some (m_un un_neg o_neg m_int))) (m_tup (ma_cons m_int ma_nil))) (ma_cons (m_op add_all (o_add false) (m_cut (m_var 6) mo_none (mo_some (m_un un_neg o_neg m_int))) (m_tup (ma_cons m_bl ma_nil))) (ma_cons (m_callTy call_list_of (l_list false) (by rfl) Z.z_list b_list (ma_cons (m_var 6) ma_nil)) (ma_cons (m_op add_all (o_add false) (m_cut (m_var 6) mo_none (mo_some (m_un un_neg o_neg m_int))) (m_tup (ma_cons m_str ma_nil))) (ma_cons (m_tup ma_nil) ma_nil)))))))) (m_op op_mod o_mod (m_ix (m_var 1) m_int) m_int)))
      (mb_one (ms_ret (m_and (m_call (ok__law_refused Z) (h.room.mono (by decide)) (by rfl) Z.g__law_refused Z.F__law_refused.kp Z.b__law_refused (ma_cons (m_var 5) (ma_cons (m_var 8) (ma_cons m_str ma_nil)))) (m_and (m_call (ok__law_refused Z) (h.room.mono (by decide)) (by rfl) Z.g__law_refused Z.F__law_refused.kp Z.b__law_refused (ma_cons (m_var 5) (ma_cons (m_var 8) (ma_cons m_str ma_nil)))) (m_one (m_cmp (op_eqD h.hu) o_eq (m_meth Z.O_Net (by show ("run" : Str) ∉ (["lines", "_gates"] : List Str); decide +kernel) (m_frz (m_make Z.O_Net Z.M_Net (ok_Net___init__ Z) (h.room.mono (by decide)) (by rfl) Z.g_Net Z.b_Net___init__ (ma_cons (m_var 2) (ma_cons (m_lst ma_nil) ma_nil)))) Z.m_Net_run (ok_Net_run Z) (h.room.mono (by decide)) Z.b_Net_run (ma_cons (m_var 6) ma_nil)) (m_var 6) (nomark _)))))))))))))))))))))
end
end K46

namespace K46
open PySem PySem.Spec L2 PM
theorem is_line_int (S : Sto) (x n : Int) : F_is_line [.int x, .int n] S = .ok (.bl (decide (0 ≤ x) && decide (x < n))) S := by
  have : Rn (F_is_line [.int x, .int n] S) (fun v S' => v = .bl (decide (0 ≤ x) && decide (x < n)) ∧ S' = S) X0 := by
    unfold F_is_line B_is_line
    rw [rn_runB]
    simp -dsimp
    by_cases h : 0 ≤ x <;> simp [h]
  obtain ⟨a, S', h, rfl, rfl⟩ := this.get
  exact h
theorem q_tt (S : Sto) : vEq (.str "turn") (.str "turn") S = .ok (.bl true) S := by rw [v_eqS (by decide +kernel) (by decide +kernel)]; rfl
theorem q_st (S : Sto) : vEq (.str "swap") (.str "turn") S = .ok (.bl false) S := by rw [v_eqS (by decide +kernel) (by decide +kernel)]; rfl
/-- the gates -/
inductive Gt where
  | turn (cs : List Nat) (a : Nat) | swap (cs : List Nat) (a b : Nat)
def Gt.cs : Gt → List Nat | .turn cs _ => cs | .swap cs _ _ => cs
def nv (n : Nat) : Val := .int n
def Gt.v : Gt → Val
  | .turn cs a => .tup [.str "turn", .tup (cs.map nv), nv a]
  | .swap cs a b => .tup [.str "swap", .tup (cs.map nv), nv a, nv b]
def ga (r : List Int) (c : Nat) : Int := (r[c]?).getD 0
def on (cs : List Nat) (r : List Int) : Bool := cs.all fun c => ga r c != 0
def Gt.act : Gt → List Int → List Int
  | .turn cs a, r => if on cs r then r.set a (1 - ga r a) else r
  | .swap cs a b, r => if on cs r then (r.set a (ga r b)).set b (ga r a) else r
/-- its lines are lines, and not twice -/
def Gt.in_ : Gt → Nat → Prop
  | .turn cs a, n => (∀ c ∈ cs, c < n) ∧ a < n ∧ a ∉ cs
  | .swap cs a b, n => (∀ c ∈ cs, c < n) ∧ a < n ∧ b < n ∧ a ∉ cs ∧ b ∉ cs ∧ a ≠ b
theorem Gt.len (g : Gt) (r : List Int) : (g.act r).length = r.length := by
  cases g <;> simp only [Gt.act] <;> split <;> simp
theorem atN {r : List Int} {c : Nat} (h : c < r.length) : atI (r.map Val.int) (c : Int) = some (.int (ga r c)) := by
  rw [atI_n, List.getElem?_map, List.getElem?_eq_getElem h]; unfold ga; rw [List.getElem?_eq_getElem h]; rfl
theorem taken_loop (cs : List Nat) (k : Nat) (S : Sto) (r : List Int) (N : Ev → Sto → Prop) (R : Val → Sto → Prop) (B C : Ev → Sto → Prop) (E : Nat → List Val → Ev → Sto → Prop) (g : Val) (h : S.objs k = some (.lst (r.map .int))) (hb : ∀ c ∈ cs, c < r.length)
    (hno : on cs r = false → R .non S) (hyes : on cs r = true → ∀ x, N [some g, some (.loc k), x] S) (x : Option Val) :
    Sn (forGo (fun _ => True) (Tgt.name 2) (sIf (PM.tB (eBin vEq (eBin vIx (eVar 1) (eVar 2)) (eC (.int 0)))) sRetN sNext) (cs.map nv) [some g, some (.loc k), x] S) ⟨N, R, B, C, E⟩ := by
  refine sn_forM (f := nv) (fun rest ρ S' => S' = S ∧ (∃ x, ρ = [some g, some (.loc k), x]) ∧ (on cs r = on rest r)) ⟨rfl, ⟨_, rfl⟩, rfl⟩ (fun _ _ _ _ => trivial) ?_ ?_
  · rintro c rest ρ S' hc ⟨rfl, ⟨x, rfl⟩, e⟩
    refine ⟨_, tgt_name, ?_⟩
    simp -dsimp [nv, v_ix_loc h, atN (hb c hc)]
    by_cases z : ga r c = 0
    · simp -dsimp [z]
      apply hno
      rw [e]
      simp [on, z]
    · simp -dsimp [z]
      rw [e]; simp [on, z]
  · rintro ρ S' ⟨rfl, ⟨x, rfl⟩, e⟩
    exact hyes (by rw [e]; rfl) x
theorem put_same {S : Sto} {k : Nat} {o : Ob} (h : S.objs k = some o) : S.put k o = S := by
  unfold Sto.put
  cases S with
  | mk n ob => congr 1; funext j; dsimp only; split <;> simp_all
theorem taken_ok (g : Gt) (k : Nat) (S : Sto) (r : List Int) (h : S.objs k = some (.lst (r.map .int))) (hb : g.in_ r.length) :
    F_taken [g.v, .loc k] S = .ok .non (S.put k (.lst ((g.act r).map .int))) := by
  have : Rn (F_taken [g.v, .loc k] S) (fun v S' => v = .non ∧ S' = S.put k (.lst ((g.act r).map .int))) X0 := by
    unfold F_taken B_taken
    rw [rn_runB]
    cases g with
    | turn cs a =>
      obtain ⟨b1, b2, _⟩ := hb
      simp -dsimp [Gt.v]
      refine taken_loop cs k S r _ _ _ _ _ _ h b1 (fun e => ?_) (fun e x => ?_) _
      · simp [Gt.act, e, put_same h]
      · simp -dsimp [q_tt, q_st, nv, v_ix_loc h, atN b2, setIx_nat h (n := a) (by simpa using b2)]
        simp [Gt.act, e, List.map_set]
    | swap cs a b =>
      obtain ⟨b1, b2, b3, _, _, _⟩ := hb
      simp -dsimp [Gt.v]
      refine taken_loop cs k S r _ _ _ _ _ _ h b1 (fun e => ?_) (fun e x => ?_) _
      · simp [Gt.act, e, put_same h]
      · simp -dsimp [q_tt, q_st, nv, v_ix_loc h, atN b2, atN b3, setIx_nat h (n := a) (by simpa using b2), sizeLine]
        rw [setIx_nat put_at (by simpa using b3)]
        simp [Gt.act, e, List.map_set]
  obtain ⟨a, S', h, rfl, rfl⟩ := this.get
  exact h
end K46

namespace K46
open PySem PySem.Spec L2 PM
def dOk (ds : List Int) : Prop := ∀ d ∈ ds, 0 ≤ d ∧ d < 65537
theorem dOk.app {ds : List Int} {d : Int} (h : dOk ds) (h1 : 0 ≤ d ∧ d < 65537) : dOk (ds ++ [d]) := fun z hz => by
  rcases List.mem_append.mp hz with q | q
  · exact h z q
  · rw [List.mem_singleton.mp q]; exact h1
theorem mod_ok (a b : Int) (h : 0 < b) (hb : b ≤ 65537) : 0 ≤ a % b ∧ a % b < 65537 := ⟨Int.emod_nonneg _ (by omega), Int.lt_of_lt_of_le (Int.emod_lt_of_pos _ h) hb⟩
/-- the store while draws are made -/
structure dI (S : Sto) (n : Nat) (ds : List Int) (S' : Sto) : Prop where
  x : Ext S S'
  o : S'.objs S.next = some (.lst (ds.map .int))
  g : dOk ds
  l : ds.length ≤ n
theorem dI.app {S S' : Sto} {n : Nat} {ds : List Int} {d : Int} (h : dI S n ds S') (hd : 0 ≤ d ∧ d < 65537) : dI S (n + 1) (ds ++ [d]) (S'.put S.next (.lst (ds.map .int ++ [.int d]))) :=
  ⟨h.x.put (Nat.le_refl _), by rw [put_at, List.map_append]; rfl, h.g.app hd, by rw [List.length_append]; exact Nat.succ_le_succ h.l⟩
theorem dI.mono {S S' : Sto} {n m : Nat} {ds : List Int} (h : dI S n ds S') (l : n ≤ m) : dI S m ds S' := ⟨h.x, h.o, h.g, Nat.le_trans h.l l⟩
theorem dI.push {S S' : Sto} {n : Nat} {ds : List Int} {d : Int} (h : dI S n ds S') (hn : n < 100000) : vAppend (.loc S.next) [.int d] S' = .ok .non (S'.put S.next (.lst (ds.map .int ++ [.int d]))) :=
  vAppend_at h.o (by rw [List.length_map]; have := h.l; have : sizeLine = 2 ^ 24 := rfl; omega)
theorem draws_ok (ns : List Int) (hn : ns.length ≤ 63) (m : Nat) (hm : m ≤ 1000) (S : Sto) : ∃ ds S', F__law_draws [.fz (ns.map .int), .int m] S = .ok (.lst (ds.map .int)) S' ∧ ds.length = m ∧ dOk ds ∧ Ext S S' := by
  have : Rn (F__law_draws [.fz (ns.map .int), .int m] S) (fun v S' => ∃ ds, v = .lst (ds.map .int) ∧ ds.length = m ∧ dOk ds ∧ Ext S S') X0 := by
    unfold F__law_draws B__law_draws
    rw [rn_runB]
    simp -dsimp
    rw [show (63 : Int) = ((63 : Nat) : Int) from rfl, cut_take, List.take_of_length_le (by simpa using hn)]
    refine sn_forM (I := fun r ρ S' => ∃ (a : Nat) (ds : List Int) (x4 x5 x6 : Option Val), a + r.length = ns.length ∧ ρ = [some (.fz (ns.map .int)), some (.int m), some (.loc S.next), some (.int a), x4, x5, x6] ∧ dI S (24 * a) ds S')
      ⟨0, [], none, none, none, by simp, rfl, (Ext.refl S).alloc, alloc_at, fun _ h => (nomatch h), Nat.zero_le _⟩ (fun _ _ _ _ => trivial) ?_ ?_
    · rintro v r ρ S' hv ⟨a, ds, x4, x5, x6, ha, rfl, hI⟩
      refine ⟨_, tgt_name, ?_⟩
      rw [List.length_cons] at ha
      have ha' : a ≤ 62 := by omega
      simp -dsimp
      generalize hw : (if v < 0 then -v else v) = w
      have hw0 : 0 ≤ w := by rw [← hw]; split <;> omega
      refine ⟨fun hc => ?_, fun hc => ?_⟩
      · refine sn_forR (I := fun i ρ S' => ∃ (ds : List Int) (x6 : Option Val) (w : Int), 0 ≤ w ∧ ρ = [some (.fz (ns.map .int)), some (.int m), some (.loc S.next), some (.int a), some (.int v), some (.int w), x6] ∧ dI S (24 * a + i) ds S')
          ⟨ds, x6, w, hw0, rfl, hI⟩ (fun _ _ _ _ => trivial) ?_ ?_
        · rintro i ρ S2 hi ⟨ds, x6, w, hw, rfl, hI⟩
          refine ⟨_, tgt_name, ?_⟩
          by_cases hc : 0 < w
          · simp -dsimp [hc, isLst_loc hI.o, hI.push (show 24 * a + i < 100000 by omega)]
            exact ⟨_, _, w / 1009, by omega, ⟨rfl, rfl⟩, hI.app (mod_ok _ _ (by decide) (by decide))⟩
          · simp -dsimp [hc]
            exact ⟨_, _, w, by omega, ⟨rfl, rfl⟩, hI.mono (by omega)⟩
        · rintro ρ S2 ⟨ds, x6, w, hw, rfl, hI⟩
          simp -dsimp
          exact ⟨a + 1, by omega, rfl, ds, hI.mono (by omega)⟩
      · have c1 : -18446744073709551616 < w ∧ w < 18446744073709551616 := by omega
        have h1 := hI.app (mod_ok (w * 48271 + a * 69621 + 11) 65537 (by decide) (by decide))
        simp -dsimp [isLst_loc hI.o, hI.push (show 24 * a < 100000 by omega), isLst_loc h1.o, h1.push (show 24 * a + 1 < 100000 by omega), c1]
        refine ⟨a + 1, by omega, rfl, ds ++ [(w * 48271 + a * 69621 + 11) % 65537] ++ [(w * 16807 + a * 40692 + 7 + w * w) % 65521], ?_⟩
        have h2 := h1.app (mod_ok (w * 16807 + a * 40692 + 7 + w * w) 65521 (by decide) (by decide))
        simp at h2
        simpa using h2.mono (by omega)
    · rintro ρ S' ⟨a, ds, x4, x5, x6, ha, rfl, hI⟩
      simp at ha
      simp -dsimp
      refine ⟨by omega, ?_⟩
      refine sn_forR (I := fun i ρ S' => ∃ (ds : List Int) (x4 x5 x6 : Option Val), (i ≤ ds.length ∨ m ≤ ds.length) ∧ ρ = [some (.fz (ns.map .int)), some (.int m), some (.loc S.next), some (.int a), x4, x5, x6] ∧ dI S (24 * a + i) ds S')
          ⟨ds, x4, x5, x6, .inl (Nat.zero_le _), rfl, hI⟩ (fun _ _ _ _ => trivial) ?_ ?_
      · rintro i ρ S2 hi ⟨ds, x4, x5, x6, hl, rfl, hI⟩
        refine ⟨_, tgt_name, ?_⟩
        simp -dsimp [v_len_loc hI.o]
        refine ⟨fun hc => ?_, fun hc => ?_⟩
        · have e1 : (-18446744073709551616 : Int) < i ∧ (i : Int) < 18446744073709551616 := by omega
          simp -dsimp [isLst_loc hI.o, hI.push (show 24 * a + i < 100000 by omega), v_len_loc hI.o, e1]
          have h1 := hI.app (mod_ok (ds.length * 69621 + 977 * a + i * i * 31) 65521 (by decide) (by decide))
          exact ⟨_, by simp; omega, h1⟩
        · exact ⟨ds, by omega, hI.mono (by omega)⟩
      · rintro ρ S2 ⟨ds, x4, x5, x6, hl, rfl, hI⟩
        simp -dsimp [v_cut_loc hI.o, cut_take]
        refine ⟨ds.take m, by rw [List.map_take], ?_, fun d hd => hI.g d (List.mem_of_mem_take hd), hI.x⟩
        rw [List.length_take]; omega
  obtain ⟨v, S', e, ds, rfl, q⟩ := this.get
  exact ⟨ds, S', e, q⟩
end K46

namespace K46
open PySem PySem.Spec L2 PM
def Gt.used : Gt → List Nat | .turn cs a => cs ++ [a] | .swap cs a b => cs ++ [a, b]
def Gt.ok (g : Gt) (n : Nat) : Prop := (∀ c ∈ g.used, c < n) ∧ g.used.Nodup ∧ g.cs.Pairwise (· < ·) ∧ g.cs.length ≤ 4
theorem Gt.ok.in_ {g : Gt} {n : Nat} (h : g.ok n) : g.in_ n := by
  obtain ⟨h1, h2, _, _⟩ := h
  cases g with
  | turn cs a =>
    simp only [Gt.used, List.mem_append, List.mem_singleton] at h1
    simp only [Gt.used, List.nodup_append, List.mem_singleton] at h2
    exact ⟨fun c hc => h1 c (.inl hc), h1 a (.inr rfl), fun ha => h2.2.2 a ha a rfl rfl⟩
  | swap cs a b =>
    simp only [Gt.used, List.mem_append, List.mem_cons, List.not_mem_nil, or_false] at h1
    simp only [Gt.used, List.nodup_append, List.mem_cons, List.not_mem_nil, or_false, List.nodup_cons] at h2
    exact ⟨fun c hc => h1 c (.inl hc), h1 a (.inr (.inl rfl)), h1 b (.inr (.inr rfl)), fun ha => h2.2.2 a ha a (.inl rfl) rfl, fun hb => h2.2.2 b hb b (.inr rfl) rfl, h2.2.1.1⟩
theorem putS_new {κ α : Type} [DecidableEq κ] {k : κ} {v : α} : ∀ {ks : List κ} {us : List α}, k ∉ ks → us.length = ks.length → putS k v ks us = (ks ++ [k], us ++ [v])
  | [], [], _, _ => rfl
  | [], _ :: _, _, h => by cases h
  | _ :: _, [], _, h => by cases h
  | q :: ks, u :: us, hk, hl => by
    have h1 : ¬ q = k := fun e => hk (e ▸ List.mem_cons_self)
    have := putS_new (v := v) (fun h => hk (List.mem_cons_of_mem _ h)) (Nat.succ.inj hl)
    unfold putS
    rw [if_neg h1, this]; rfl
/-- a dict comprehension whose keys are whole numbers, each once -/
theorem dcGo_nat {S0 : Sto} {n0 : Nat} {ρ0 : Ev} {tg : Tgt} {ek ev : EM} (u : Val) (hn : S0.next ≤ n0)
    : ∀ {xs : List Nat} {ks : List Key} {us : List Val} {S : Sto}, Ext S0 S → n0 < S.next → S.objs n0 = some (.dk false ks us) → us.length = ks.length → ks.length + xs.length ≤ 1000 → xs.Nodup → (∀ x ∈ xs, (Sum.inl (x : Int) : Key) ∉ ks) →
    (∀ x ∈ xs, ∃ ρ1, tg.set (nv x) ρ0 = some ρ1 ∧ ∀ S', ek ρ1 S' = .ok (nv x) S' ∧ ev ρ1 S' = .ok u S') →
    Rn (dcGo (fun _ => True) tg tYesM ek ev n0 ρ0 (xs.map nv) S) (fun _ S2 => Ext S0 S2 ∧ ∃ ks' us', ks'.length = ks.length + xs.length ∧ S2.objs n0 = some (.dk false ks' us')) X0
  | [], ks, us, S, x, l, h, _, _, _, _, _ => by
    rw [List.map_nil]
    unfold dcGo
    rw [if_pos trivial]
    exact ⟨x, ks, us, rfl, h⟩
  | a :: xs, ks, us, S, x, l, h, hl, hb, nd, hks, he => by
    rw [List.map_cons]
    unfold dcGo
    rw [if_pos trivial]
    obtain ⟨ρ1, e, q⟩ := he a List.mem_cons_self
    rw [e]
    dsimp only
    unfold tYesM
    rw [rn_bind, rn_noEx, rn_ok, if_pos rfl, rn_bind, (q S).1, rn_noEx, rn_ok, rn_bind, (q S).2, rn_noEx, rn_ok, h]
    have hk := hks a List.mem_cons_self
    obtain ⟨n1, n2⟩ := List.nodup_cons.mp nd
    simp only [List.length_cons] at hb
    simp only [nv, keyOf]
    rw [if_pos (show ks.length < sizeLine by have : sizeLine = 2 ^ 24 := rfl; omega), putS_new hk hl]
    refine (dcGo_nat u hn (xs := xs) (ks := ks ++ [.inl (a : Int)]) (us := us ++ [u]) (x.put hn) l put_at (by simp [hl]) (by simp; omega) n2 (fun z hz hm => ?_) fun z hz => he z (List.mem_cons_of_mem _ hz)).of fun _ S2 z => ?_
    · rcases List.mem_append.mp hm with hm | hm
      · exact hks z (List.mem_cons_of_mem _ hz) hm
      · have hm := Sum.inl.inj (List.mem_singleton.mp hm)
        exact n1 ((Int.ofNat.inj hm) ▸ hz)
    · obtain ⟨x2, ks', us', e1, e2⟩ := z
      exact ⟨x2, ks', us', by rw [e1]; simp; omega, e2⟩
theorem in_t (S : Sto) : vInW true (.str "turn") (.tup [.str "turn", .str "swap"]) S = .ok (.bl false) S := by
  unfold vInW
  simp [dats_cons dat_str (dats_cons dat_str dats_nil), flatD, PyData.eqv]
theorem in_s (S : Sto) : vInW true (.str "swap") (.tup [.str "turn", .str "swap"]) S = .ok (.bl false) S := by
  unfold vInW
  simp [dats_cons dat_str (dats_cons dat_str dats_nil), flatD, PyData.eqv]
theorem lines_ok {us : List Nat} {n : Nat} {x0 x3 x4 x5 : Option Val} {S : Sto} {P : Val → Sto → Prop} {X : XP} (h : ∀ c ∈ us, c < n) (hl : us.length ≤ 1000) (q : ∀ S2, Ext S S2 → P (.lst (List.replicate us.length (.bl true))) S2) :
    Rn (eLc false (iSeq (eVar 2)) (Tgt.name 4) tYesM (eCallN 2 F_is_line (aCons (eVar 4) (aCons (eVar 1) aNil))) [4] [x0, some (.int n), some (.tup (us.map nv)), x3, x4, x5] S) P X := by
  refine eLc_map (f := nv) (g := fun _ => .bl true) (xs := us) (S1 := S) (src := fun _ => True) rfl (.refl _) (by have : sizeLine = 2 ^ 24 := rfl; omega) (fun _ _ => trivial) (fun c hc S' x => ⟨_, tgt_name, ?_⟩) (fun S2 x => by rw [map_const]; exact q S2 x)
  have := h c hc
  simp -dsimp [wipeE, nv, is_line_int]
  exact ⟨this, .refl _⟩
theorem asc_ok {cs : List Nat} {x1 x2 x3 x4 x5 : Option Val} {g : List Val} {v0 : Val} {S : Sto} {P : Val → Sto → Prop} {X : XP} (h : cs.Pairwise (· < ·)) (hl : cs.length ≤ 4) (q : ∀ S2, Ext S S2 → P (.lst (List.replicate ((cs.length : Int) - 1).toNat (.bl true))) S2) :
    Rn (eLc false (iRange1 (eBin vSub (eBI vLen (aCons (eBin vIx (eVar 0) (eC (Val.int 1))) aNil)) (eC (Val.int 1)))) (Tgt.name 5) tYesM
      (eBin vLt (eBin vIx (eBin vIx (eVar 0) (eC (Val.int 1))) (eVar 5)) (eBin vIx (eBin vIx (eVar 0) (eC (Val.int 1))) (eBin (vAdd false) (eVar 5) (eC (Val.int 1))))) [5] [some (.tup (v0 :: .tup (cs.map nv) :: g)), x1, x2, x3, x4, x5] S) P X := by
  have hit : iRange1 (eBin vSub (eBI vLen (aCons (eBin vIx (eVar 0) (eC (Val.int 1))) aNil)) (eC (Val.int 1))) [some (.tup (v0 :: .tup (cs.map nv) :: g)), x1, x2, x3, x4, x5] S = .ok ⟨(List.range ((cs.length : Int) - 1).toNat).map fun (i : Nat) => Val.int (0 + (i : Int)), fun _ => True⟩ S := by
    have : Rn (iRange1 (eBin vSub (eBI vLen (aCons (eBin vIx (eVar 0) (eC (Val.int 1))) aNil)) (eC (Val.int 1))) [some (.tup (v0 :: .tup (cs.map nv) :: g)), x1, x2, x3, x4, x5] S)
        (fun v S' => v = ⟨(List.range ((cs.length : Int) - 1).toNat).map fun (i : Nat) => Val.int (0 + (i : Int)), fun _ => True⟩ ∧ S' = S) X0 := by
      simp -dsimp
      refine ⟨by omega, ?_⟩
      unfold rangeL; simp
    obtain ⟨v, S', e, rfl, rfl⟩ := this.get
    exact e
  refine eLc_map (f := fun (i : Nat) => Val.int (0 + (i : Int))) (g := fun _ => .bl true) (S1 := S) (src := fun _ => True) hit (.refl _) (by have : sizeLine = 2 ^ 24 := rfl; simp; omega) (fun _ _ => trivial) (fun i hi S' x => ⟨_, tgt_name, ?_⟩) (fun S2 x => by rw [map_const, List.length_range]; exact q S2 x)
  have hi : i + 1 < cs.length := by have := List.mem_range.mp hi; omega
  have e1 : atI (cs.map nv) (i : Int) = some (nv cs[i]) := by rw [atI_n, List.getElem?_map, List.getElem?_eq_getElem (by omega)]; rfl
  have e2 : atI (cs.map nv) ((i : Int) + 1) = some (nv cs[i + 1]) := by rw [show (i : Int) + 1 = ((i + 1 : Nat) : Int) from rfl, atI_n, List.getElem?_map, List.getElem?_eq_getElem hi]; rfl
  rw [atI_map] at e1 e2
  have := List.pairwise_iff_getElem.mp h i (i + 1) (by omega) hi (by omega)
  simp -dsimp [wipeE, e1, e2]
  simp -dsimp [nv]
  exact ⟨this, .refl _⟩
theorem dict_ok {us : List Nat} {x0 x1 x3 x4 x5 : Option Val} {S : Sto} {P : Val → Sto → Prop} {X : XP} (nd : us.Nodup) (hl : us.length ≤ 1000)
    (q : ∀ S2 ks' us', Ext S S2 → S2.objs S.next = some (.dk false ks' us') → ks'.length = us.length → P (.loc S.next) S2) :
    Rn (eDc (iSeq (eVar 2)) (Tgt.name 4) tYesM (eVar 4) (eC (.bl true)) [4] [x0, x1, some (.tup (us.map nv)), x3, x4, x5] S) P X := by
  unfold eDc
  rw [rn_bind, show iSeq (eVar 2) [x0, x1, some (.tup (us.map nv)), x3, x4, x5] S = .ok ⟨us.map nv, fun _ => True⟩ S from rfl, rn_ok, rn_bind]
  refine (dcGo_nat (S0 := S) (n0 := S.next) (.bl true) (Nat.le_refl _) (xs := us) (ks := []) (us := []) (Ext.refl S).alloc (Nat.lt_succ_self _) alloc_at rfl (by simpa using hl) nd (fun _ _ => List.not_mem_nil) (fun c _ => ⟨_, tgt_name, fun S' => ⟨rfl, rfl⟩⟩)).of fun _ S2 z => ?_
  obtain ⟨x, ks', us', e1, e2⟩ := z
  exact q S2 ks' us' x e2 (by simpa using e1)
theorem lenD_at {k : Nat} {S : Sto} {ks : List Key} {us : List Val} (h : S.objs k = some (.dk false ks us)) : vLenD [.loc k] S = .ok (.int ks.length) S := by
  unfold vLenD; simp only [h]
theorem is_gate_ok (g : Gt) (n : Nat) (S : Sto) (h : g.ok n) : ∃ S', F_is_gate [g.v, .int n] S = .ok (.bl true) S' ∧ Ext S S' := by
  obtain ⟨h1, h2, h3, h4⟩ := h
  have : Rn (F_is_gate [g.v, .int n] S) (fun v S' => v = .bl true ∧ Ext S S') X0 := by
    unfold F_is_gate B_is_gate
    rw [rn_runB]
    cases g with
    | turn cs a =>
      simp -dsimp [Gt.v, in_t, in_s, q_tt, q_st, sizeLine]
      simp only [Gt.cs] at h3 h4
      refine ⟨by omega, ?_⟩
      rw [show cs.map nv ++ [nv a] = (cs ++ [a]).map nv by simp]
      have hul : (cs ++ [a]).length ≤ 10 := by simp; omega
      simp only [Gt.used] at h1 h2
      generalize cs ++ [a] = us at *
      refine lines_ok h1 (by omega) fun S1 x1 => ?_
      simp -dsimp
      refine asc_ok h3 h4 fun S2 x2 => ?_
      simp -dsimp
      refine dict_ok h2 (by omega) fun S3 ks' us' x3 e3 hk => ?_
      simp -dsimp [lenD_at e3, hk]
      exact (x1.trans x2).trans x3
    | swap cs a b =>
      simp -dsimp [Gt.v, in_t, in_s, q_tt, q_st, sizeLine]
      simp only [Gt.cs] at h3 h4
      refine ⟨by omega, ?_⟩
      rw [show cs.map nv ++ [nv a, nv b] = (cs ++ [a, b]).map nv by simp]
      have hul : (cs ++ [a, b]).length ≤ 10 := by simp; omega
      simp only [Gt.used] at h1 h2
      generalize cs ++ [a, b] = us at *
      refine lines_ok h1 (by omega) fun S1 x1 => ?_
      simp -dsimp
      refine asc_ok h3 h4 fun S2 x2 => ?_
      simp -dsimp
      refine dict_ok h2 (by omega) fun S3 ks' us' x3 e3 hk => ?_
      simp -dsimp [lenD_at e3, hk]
      exact (x1.trans x2).trans x3
  obtain ⟨v, S', e, rfl, q⟩ := this.get
  exact ⟨S', e, q⟩
end K46

namespace K46
open PySem PySem.Spec L2 PM
def netV (n : Nat) (gs : List Gt) : Val := .ins 3 [.int n, .lst (gs.map Gt.v)]
@[simp] theorem insOf_net {n : Nat} {gs : List Gt} {S : Sto} : insOf S (netV n gs) = some (3, [.int n, .lst (gs.map Gt.v)]) := rfl
@[simp] theorem isInst_net {n : Nat} {gs : List Gt} {S : Sto} : isInst 3 S (netV n gs) = true := rfl
theorem init_ok {n : Nat} {gs : List Gt} {gv : Val} {S : Sto} {k : Nat} (hk : S.objs k = some (.ins 3 [])) (hkn : k < S.next) (hn : 0 < n) (hn2 : n ≤ 400) (hgs : gs.length ≤ 1000) (hok : ∀ g ∈ gs, g.ok n) (hg : ∀ S', Ext S S' → lstOf S' gv = some (gs.map Gt.v))
    (hg2 : ∀ S' vs, Ext S S' → lstOf (S'.put k (.ins 3 vs)) gv = some (gs.map Gt.v)) :
    ∃ S2, F_Net___init__ [.loc k, .int n, gv] S = .ok .non S2 ∧ ExtB k S S2 ∧ S2.objs k = some (.ins 3 [.int n, .lst (gs.map Gt.v)]) := by
  have : Rn (F_Net___init__ [.loc k, .int n, gv] S) (fun v S2 => v = .non ∧ ExtB k S S2 ∧ S2.objs k = some (.ins 3 [.int n, .lst (gs.map Gt.v)])) X0 := by
    unfold F_Net___init__ B_Net___init__
    rw [rn_runB]
    simp -dsimp [is_line_int, vLen_of (hg S (.refl _))]
    have h1 : n ≠ 0 := by omega
    have h2 : (gs.length : Int) ≤ 100000 := by omega
    have h3 : (n : Int) < 401 := by omega
    simp -dsimp [h1, h2, h3]
    obtain ⟨src, e1, e2⟩ := seq_of (hg S (.refl _))
    refine eLc_map (f := Gt.v) (g := fun _ => .bl true) (xs := gs) (S1 := S) (src := src) ?_ (.refl _) (by have : sizeLine = 2 ^ 24 := rfl; omega) (fun S' x => e2 S' (hg S' x)) (fun c hc S' x => ⟨_, tgt_name, ?_⟩) fun S1 x1 => ?_
    · exact e1
    · obtain ⟨S3, e3, x3⟩ := is_gate_ok c n S' (hok c hc)
      simp -dsimp [wipeE, e3]
      exact x3
    · rw [map_const]
      have e4 : S1.objs k = some (.ins 3 []) := x1.at_ hkn hk
      simp -dsimp [e4, vList_of (hg2 S1 [.int n] x1)]
      exact x1.b.put
  obtain ⟨v, S2, e, rfl, q⟩ := this.get
  exact ⟨S2, e, q⟩
def bOk (bs : List Int) : Prop := ∀ b ∈ bs, b = 0 ∨ b = 1
theorem checked_ok {n : Nat} {gs : List Gt} {bs : List Int} {S : Sto} (hl : bs.length = n) (hn : n ≤ 400) (hb : bOk bs) :
    ∃ S2, F_Net__checked [netV n gs, .tup (bs.map .int)] S = .ok (.loc S2.next) (S2.alloc (.lst (bs.map .int))) ∧ Ext S S2 := by
  have : Rn (F_Net__checked [netV n gs, .tup (bs.map .int)] S) (fun v S' => ∃ S2, v = .loc S2.next ∧ S' = S2.alloc (.lst (bs.map .int)) ∧ Ext S S2) X0 := by
    unfold F_Net__checked B_Net__checked
    rw [rn_runB]
    simp -dsimp [hl]
    refine eLc_map (f := Val.int) (g := fun _ => .bl true) (xs := bs) (S1 := S) (src := fun _ => True) rfl (.refl _) (by have : sizeLine = 2 ^ 24 := rfl; omega) (fun S' x => trivial) (fun c hc S' x => ⟨_, tgt_name, ?_⟩) fun S1 x1 => ?_
    · have := hb c hc
      simp -dsimp [wipeE, is_line_int]
      exact ⟨by omega, .refl _⟩
    · rw [map_const]
      simp -dsimp
      exact ⟨S1, rfl, rfl, x1⟩
  obtain ⟨v, S2, e, S3, rfl, rfl, q⟩ := this.get
  exact ⟨S3, e, q⟩
def runG (gs : List Gt) (r : List Int) : List Int := gs.foldl (fun r g => g.act r) r
theorem run_ok {n : Nat} {gs : List Gt} {bs : List Int} {S : Sto} (hl : bs.length = n) (hn : n ≤ 400) (hb : bOk bs) (hok : ∀ g ∈ gs, g.ok n) :
    ∃ S2, F_Net_run [netV n gs, .tup (bs.map .int)] S = .ok (.tup ((runG gs bs).map .int)) S2 ∧ Ext S S2 := by
  have : Rn (F_Net_run [netV n gs, .tup (bs.map .int)] S) (fun v S2 => v = .tup ((runG gs bs).map .int) ∧ Ext S S2) X0 := by
    unfold F_Net_run B_Net_run
    rw [rn_runB]
    obtain ⟨S1, e1, x1⟩ := checked_ok (gs := gs) (S := S) hl hn hb
    simp -dsimp [e1]
    refine sn_forM (f := Gt.v) (I := fun rest ρ S' => ∃ r x3, ρ = [some (netV n gs), some (.tup (bs.map .int)), some (.loc S1.next), x3] ∧ S'.objs S1.next = some (.lst (r.map .int)) ∧ r.length = n ∧ runG rest r = runG gs bs ∧ Ext S S')
      ⟨bs, none, rfl, alloc_at, hl, rfl, x1.alloc⟩ (fun _ _ _ _ => trivial) ?_ ?_
    · rintro g rest ρ S' hg ⟨r, x3, rfl, ho, hr, he, x⟩
      refine ⟨_, tgt_name, ?_⟩
      have := taken_ok g S1.next S' r ho (by rw [hr]; exact (hok g hg).in_)
      simp -dsimp [this]
      exact ⟨_, rfl, by rw [Gt.len]; exact hr, he, x.put x1.le⟩
    · rintro ρ S' ⟨r, x3, rfl, ho, hr, he, x⟩
      simp -dsimp [v_tup_loc ho]
      exact ⟨by rw [← he]; rfl, x⟩
  obtain ⟨v, S2, e, rfl, q⟩ := this.get
  exact ⟨S2, e, q⟩
theorem back_ok {n : Nat} {gs : List Gt} {bs : List Int} {S : Sto} (hl : bs.length = n) (hn : n ≤ 400) (hb : bOk bs) (hok : ∀ g ∈ gs, g.ok n) :
    ∃ S2, F_Net_back [netV n gs, .tup (bs.map .int)] S = .ok (.tup ((runG gs.reverse bs).map .int)) S2 ∧ Ext S S2 := by
  have : Rn (F_Net_back [netV n gs, .tup (bs.map .int)] S) (fun v S2 => v = .tup ((runG gs.reverse bs).map .int) ∧ Ext S S2) X0 := by
    unfold F_Net_back B_Net_back
    rw [rn_runB]
    obtain ⟨S1, e1, x1⟩ := checked_ok (gs := gs) (S := S) hl hn hb
    simp -dsimp [e1]
    rw [← List.map_reverse]
    refine sn_forM (f := Gt.v) (I := fun rest ρ S' => ∃ r x3, ρ = [some (netV n gs), some (.tup (bs.map .int)), some (.loc S1.next), x3] ∧ S'.objs S1.next = some (.lst (r.map .int)) ∧ r.length = n ∧ runG rest r = runG gs.reverse bs ∧ Ext S S')
      ⟨bs, none, rfl, alloc_at, hl, rfl, x1.alloc⟩ (fun _ _ _ _ => trivial) ?_ ?_
    · rintro g rest ρ S' hg ⟨r, x3, rfl, ho, hr, he, x⟩
      refine ⟨_, tgt_name, ?_⟩
      have := taken_ok g S1.next S' r ho (by rw [hr]; exact (hok g (List.mem_reverse.mp hg)).in_)
      simp -dsimp [this]
      exact ⟨_, rfl, by rw [Gt.len]; exact hr, he, x.put x1.le⟩
    · rintro ρ S' ⟨r, x3, rfl, ho, hr, he, x⟩
      simp -dsimp [v_tup_loc ho]
      exact ⟨by rw [← he]; rfl, x⟩
  obtain ⟨v, S2, e, rfl, q⟩ := this.get
  exact ⟨S2, e, q⟩
end K46

namespace K46
open PySem PySem.Spec L2 PM
def ic (n : Nat) : Int := n
theorem ints_nv : ∀ {l : List Nat}, intsOf (l.map nv) = some (l.map ic)
  | [] => rfl
  | a :: l => by
    have := ints_nv (l := l)
    simp only [List.map_cons, nv, intsOf]
    rw [this]; rfl
theorem sort_nat (l : List Nat) (nd : l.Nodup) : ∃ cs : List Nat, (sortI (l.map ic)) = cs.map ic ∧ cs.Perm l ∧ cs.Pairwise (· < ·) := by
  have hp := sortI_perm (l.map ic)
  have hs := sortI_sorted (l.map ic)
  generalize sortI (l.map ic) = zs at hp hs
  have h0 : ∀ z ∈ zs, 0 ≤ z := fun z hz => by
    obtain ⟨n, _, rfl⟩ := List.mem_map.mp (hp.mem_iff.mp hz)
    unfold ic; omega
  have e : zs = (zs.map Int.toNat).map ic := by
    rw [List.map_map]
    conv => lhs; rw [← List.map_id zs]
    refine List.map_congr_left fun z hz => ?_
    have := h0 z hz
    simp [ic]; omega
  have p2 : (zs.map Int.toNat).Perm l := by
    have := hp.map Int.toNat
    rw [List.map_map] at this
    have e2 : (l.map (Int.toNat ∘ ic)) = l := by
      conv => rhs; rw [← List.map_id l]
      refine List.map_congr_left fun z hz => by simp [ic]
    rw [e2] at this
    exact this
  refine ⟨zs.map Int.toNat, e, p2, ?_⟩
  have nd2 : (zs.map Int.toNat).Nodup := p2.nodup_iff.mpr nd
  have le2 : (zs.map Int.toNat).Pairwise (· ≤ ·) := by
    rw [List.pairwise_map]
    exact hs.imp fun h => by omega
  exact (le2.and nd2).imp fun h => Nat.lt_of_le_of_ne h.1 h.2
theorem erase_map {α β : Type} {f : α → β} : ∀ {l : List α} {j : Nat}, (l.map f).eraseIdx j = (l.eraseIdx j).map f
  | [], _ => rfl
  | a :: l, 0 => rfl
  | a :: l, j + 1 => by
    show f a :: (l.map f).eraseIdx j = f a :: (l.eraseIdx j).map f
    rw [erase_map]
theorem pop_ok {l : List Nat} {k : Nat} {S : Sto} {i : Int} (h : S.objs k = some (.lst (l.map nv))) (h0 : 0 ≤ i) (h1 : i < l.length) (hl : l.length ≤ 100000) (nd : l.Nodup) :
    ∃ (a : Nat) (l' : List Nat), vPopAt (.loc k) [.int i] S = .ok (nv a) (S.put k (.lst (l'.map nv))) ∧ a ∈ l ∧ a ∉ l' ∧ l'.Nodup ∧ (∀ x ∈ l', x ∈ l) ∧ l'.length + 1 = l.length := by
  obtain ⟨j, rfl⟩ := Int.eq_ofNat_of_zero_le h0
  have hj : j < l.length := by omega
  refine ⟨l[j], l.eraseIdx j, ?_, List.getElem_mem hj, ?_, nd.sublist (List.eraseIdx_sublist l j), fun x hx => (List.eraseIdx_sublist l j).mem hx, ?_⟩
  · unfold vPopAt
    simp only [h]
    have e : seqIndex? (j : Int) (l.map nv).length = some j := by
      unfold seqIndex?
      have hn : ¬ ((j : Int) < 0) := by omega
      simp [hn, hj]
    rw [if_pos (by omega), e]
    simp only [List.getElem?_map, List.getElem?_eq_getElem hj, Option.map]
    rw [erase_map]
  · intro hm
    have hp : l = l.take j ++ l[j] :: l.drop (j + 1) := by simp
    have nd' := nd
    rw [hp] at nd'
    rw [List.eraseIdx_eq_take_drop_succ] at hm
    obtain ⟨q1, q2, q3⟩ := List.nodup_append.mp nd'
    rcases List.mem_append.mp hm with hm | hm
    · exact q3 _ hm _ List.mem_cons_self rfl
    · exact (List.nodup_cons.mp q2).1 hm
  · rw [List.length_eraseIdx_of_lt hj]; omega
noncomputable def tailG : SM := (sSeq (sSet 11 (eLst true aNil)) (sSeq (sFor (iRange1 (eBin vMod (eBin vFdiv (eVar 6) (eC (.int 512))) (eC (.int 4)))) (.name 12) (sIf (PM.tB (eBin vGt (eBI vLen (aCons (eVar 8) aNil)) (eC (.int 0)))) (sDrop (eBM isLst vAppend (eVar 11) (aCons (eBM isLst vPopAt (eVar 8) (aCons (eBin vMod (eBin vFdiv (eVar 7) (eBin (vAdd false) (eVar 12) (eC (.int 1)))) (eBI vLen (aCons (eVar 8) aNil))) aNil)) aNil))) sNext)) (sDrop (eBM isLst vAppend (eVar 4) (aCons (eBin (vAdd false) (eTup (aCons (eBin vIx (eVar 10) (eC (.int 0))) (aCons (eBI vTuple (aCons (eBI (vSortI false) (aCons (eVar 11) aNil)) aNil)) aNil))) (eCut false (eVar 10) (oSome (eC (.int 2))) oNone)) aNil)))))
structure ctlI (S : Sto) (A L : Nat) (acc : List Val) (ls : List Nat) (i : Nat) (cs ls' : List Nat) (S' : Sto) : Prop where
  c : S'.objs S.next = some (.lst (cs.map nv))
  l : S'.objs L = some (.lst (ls'.map nv))
  a : S'.objs A = some (.lst acc)
  o : ∀ k, k < S.next → k ≠ A → k ≠ L → S'.objs k = S.objs k
  n : S.next < S'.next
  ci : cs.length ≤ i
  ll : ls'.length ≤ 400
  cn : cs.Nodup
  ln : ls'.Nodup
  cl : ∀ x ∈ cs, x ∉ ls'
  cs : ∀ x ∈ cs, x ∈ ls
  ls : ∀ x ∈ ls', x ∈ ls
theorem nodup_snoc {l : List Nat} {a : Nat} (h : l.Nodup) (ha : a ∉ l) : (l ++ [a]).Nodup :=
  List.nodup_append.mpr ⟨h, by simp, fun x hx y hy e => by rw [List.mem_singleton.mp hy] at e; exact ha (e ▸ hx)⟩
theorem ctlI.mono {S : Sto} {A L : Nat} {acc : List Val} {ls : List Nat} {i j : Nat} {cs ls' : List Nat} {S' : Sto} (h : ctlI S A L acc ls i cs ls' S') (l : i ≤ j) : ctlI S A L acc ls j cs ls' S' :=
  ⟨h.c, h.l, h.a, h.o, h.n, Nat.le_trans h.ci l, h.ll, h.cn, h.ln, h.cl, h.cs, h.ls⟩
theorem ctlI.step {S : Sto} {A L : Nat} {acc : List Val} {ls : List Nat} {i : Nat} {cs ls' l' : List Nat} {S' : Sto} {a : Nat} (h : ctlI S A L acc ls i cs ls' S') (hA : A < S.next) (hL : L < S.next) (hAL : A ≠ L) (m1 : a ∈ ls') (m2 : a ∉ l') (m3 : l'.Nodup) (m4 : ∀ x ∈ l', x ∈ ls') (m5 : l'.length + 1 = ls'.length) :
    ctlI S A L acc ls (i + 1) (cs ++ [a]) l' ((S'.put L (.lst (l'.map nv))).put S.next (.lst ((cs ++ [a]).map nv))) := by
  refine ⟨put_at, ?_, ?_, fun k h1 h2 h3 => ?_, h.n, ?_, ?_, nodup_snoc h.cn fun hm => h.cl a hm m1, m3, fun x hx => ?_, fun x hx => ?_, fun x hx => h.ls x (m4 x hx)⟩
  · rw [put_ne (by omega), put_at]
  · rw [put_ne (by omega), put_ne hAL]; exact h.a
  · rw [put_ne (by omega), put_ne h3]; exact h.o k h1 h2 h3
  · rw [List.length_append]; exact Nat.succ_le_succ h.ci
  · have := h.ll; omega
  · rcases List.mem_append.mp hx with hx | hx
    · exact fun q => h.cl x hx (m4 x q)
    · rw [List.mem_singleton.mp hx]; exact m2
  · rcases List.mem_append.mp hx with hx | hx
    · exact h.cs x hx
    · rw [List.mem_singleton.mp hx]; exact h.ls a m1
theorem v_sort_loc {k : Nat} {l : List Nat} {S : Sto} (h : S.objs k = some (.lst (l.map nv))) : vSortI false [.loc k] S = .ok (.lst ((sortI (l.map ic)).map .int)) S := by
  unfold vSortI
  simp only [lstOf_loc h, Option.bind, ints_nv]; rfl
theorem tail_ok {x0 x1 x2 x3 x5 x9 x11 x12 : Option Val} {d mr : Int} {A L : Nat} {hd : Val} {rs : List Nat} {acc : List Val} {ls : List Nat} {n : Nat} {S : Sto} {N : Ev → Sto → Prop} {R : Val → Sto → Prop} {B C : Ev → Sto → Prop} {E : Nat → List Val → Ev → Sto → Prop}
    (hA : S.objs A = some (.lst acc)) (hAn : A < S.next) (hL : S.objs L = some (.lst (ls.map nv))) (hLn : L < S.next) (hAL : A ≠ L) (nd : ls.Nodup) (hn : ∀ x ∈ ls, x < n) (hll : ls.length ≤ 400) (hacc : acc.length ≤ 1000) (hd0 : 0 ≤ d) (hm0 : 0 ≤ mr)
    (hrs : rs.length ≤ 2) (hrd : ∀ x ∈ rs, x ∉ ls) (hrn : ∀ x ∈ rs, x < n) (hrn2 : rs.Nodup)
    (q : ∀ cs y11 y12 S2, (∀ c ∈ cs ++ rs, c < n) → (cs ++ rs).Nodup → cs.Pairwise (· < ·) → cs.length ≤ 4 → S.next ≤ S2.next → (∀ k, k < S.next → k ≠ A → k ≠ L → S2.objs k = S.objs k) → S2.objs A = some (.lst (acc ++ [.tup (hd :: .tup (cs.map nv) :: rs.map nv)])) →
      N [x0, x1, x2, x3, some (.loc A), x5, some (.int d), some (.int mr), some (.loc L), x9, some (.tup (hd :: .tup [] :: rs.map nv)), y11, y12] S2) :
    Sn (tailG [x0, x1, x2, x3, some (.loc A), x5, some (.int d), some (.int mr), some (.loc L), x9, some (.tup (hd :: .tup [] :: rs.map nv)), x11, x12] S) ⟨N, R, B, C, E⟩ := by
  unfold tailG
  simp -dsimp
  refine ⟨by omega, ?_⟩
  refine sn_forR (I := fun i ρ S' => ∃ (cs ls' : List Nat) (y12 : Option Val), ρ = [x0, x1, x2, x3, some (.loc A), x5, some (.int d), some (.int mr), some (.loc L), x9, some (.tup (hd :: .tup [] :: rs.map nv)), some (.loc S.next), y12] ∧ ctlI S A L acc ls i cs ls' S') ?_ (fun _ _ _ _ => trivial) ?_ ?_
  · refine ⟨[], ls, x12, rfl, alloc_at, ?_, ?_, fun k hk _ _ => alloc_ne (by omega), Nat.lt_succ_self _, Nat.zero_le _, hll, .nil, nd, (fun _ h => by cases h), (fun _ h => by cases h), fun _ h => h⟩
    · rw [alloc_ne (by omega)]; exact hL
    · rw [alloc_ne (by omega)]; exact hA
  · rintro i ρ S' hi ⟨cs, ls', y12, rfl, h⟩
    refine ⟨_, tgt_name, ?_⟩
    have hi3 : i < 4 := by omega
    have hci := h.ci
    have hll' := h.ll
    simp -dsimp [v_len_loc h.l]
    refine ⟨fun hc => ?_, fun hc => ?_⟩
    · obtain ⟨a, l', e, m1, m2, m3, m4, m5⟩ := pop_ok (i := mr / (i + 1) % (ls'.length : Int)) h.l (Int.emod_nonneg _ (by omega)) (Int.emod_lt_of_pos _ (by omega)) (by omega) h.ln
      have hap : vAppend (.loc S.next) [nv a] (S'.put L (.lst (l'.map nv))) = .ok .non ((S'.put L (.lst (l'.map nv))).put S.next (.lst ((cs ++ [a]).map nv))) := by
        rw [vAppend_at (by rw [put_ne (by omega)]; exact h.c) (by simp; have : sizeLine = 2 ^ 24 := rfl; omega), List.map_append]; rfl
      have e0 : (0 : Int) < (i : Int) + 1 := by omega
      have e1 : (i : Int) + 1 < 1073741824 := by omega
      simp -dsimp [isLst_loc h.c, isLst_loc h.l, v_len_loc h.l, e, hap, hc, e0, e1]
      rw [← show (cs ++ [a]).map nv = cs.map nv ++ [nv a] by simp]
      exact ⟨_, l', h.step hAn hLn hAL m1 m2 m3 m4 m5⟩
    · exact ⟨cs, ls', h.mono (by omega)⟩
  · rintro ρ S' ⟨cs, ls', y12, rfl, h⟩
    have hci := h.ci
    have hap : ∀ u, vAppend (.loc A) [u] S' = .ok .non (S'.put A (.lst (acc ++ [u]))) := fun u => vAppend_at h.a (by have : sizeLine = 2 ^ 24 := rfl; omega)
    simp -dsimp [isLst_loc h.a, v_sort_loc h.c, sizeLine, hap]
    obtain ⟨zs, ez, pz, sz⟩ := sort_nat cs h.cn
    rw [ez]
    refine ⟨by omega, q zs _ _ _ (fun c hc => ?_) ?_ sz (by have := pz.length_eq; omega) (Nat.le_of_lt h.n) (fun k h1 h2 h3 => ?_) ?_⟩
    · rcases List.mem_append.mp hc with hc | hc
      · exact hn c (h.cs c (pz.mem_iff.mp hc))
      · exact hrn c hc
    · exact List.nodup_append.mpr ⟨pz.nodup_iff.mpr h.cn, hrn2, fun x hx y hy e => hrd y hy (e ▸ h.cs x (pz.mem_iff.mp hx))⟩
    · rw [put_ne h2]; exact h.o k h1 h2 h3
    · rw [put_at, List.map_map]; rfl
theorem fold_gates : B__law_gates = (sSeq (sSet 4 (eLst true aNil)) (sSeq (sFor (iRange1 (eVar 2)) (.name 5) (sSeq (sPar 6 7 (aCons (eBin vIx (eVar 0) (eBin (vAdd false) (eVar 1) (eBin vMul (eC (.int 2)) (eVar 5)))) (aCons (eBin vIx (eVar 0) (eBin (vAdd false) (eBin (vAdd false) (eVar 1) (eBin vMul (eC (.int 2)) (eVar 5))) (eC (.int 1)))) aNil))) (sSeq (sSet 8 (eListR true (eC (.int 0)) (eVar 3))) (sSeq (sSet 9 (eBM isLst vPopAt (eVar 8) (aCons (eBin vMod (eVar 6) (eVar 3)) aNil))) (sSeq (sSet 10 (eTup (aCons (eC (.str "turn")) (aCons (eTup aNil) (aCons (eVar 9) aNil))))) (sSeq (sIf (tAndM (PM.tB (eBin vEq (eBin vMod (eBin vFdiv (eVar 6) (eVar 3)) (eC (.int 3))) (eC (.int 0)))) (PM.tB (eBin vGt (eBI vLen (aCons (eVar 8) aNil)) (eC (.int 0))))) (sSet 10 (eTup (aCons (eC (.str "swap")) (aCons (eTup aNil) (aCons (eVar 9) (aCons (eBM isLst vPopAt (eVar 8) (aCons (eBin vMod (eBin vFdiv (eVar 6) (eC (.int 64))) (eBI vLen (aCons (eVar 8) aNil))) aNil)) aNil)))))) sNext) tailG)))))) (sRet (eFrz (eVar 4))))) := rfl
theorem rangeL_nat (n : Nat) : rangeL 0 n = (List.range n).map nv := by
  unfold rangeL nv; simp
theorem gates_ok {ds : List Int} {a m n : Nat} {S : Sto} (hds : dOk ds) (hl : a + 2 * m ≤ ds.length) (hm : m ≤ 100) (hn : 0 < n) (hn2 : n ≤ 400) :
    ∃ (gs : List Gt) (S2 : Sto), F__law_gates [.lst (ds.map .int), .int a, .int m, .int n] S = .ok (.lst (gs.map Gt.v)) S2 ∧ gs.length = m ∧ (∀ g ∈ gs, g.ok n) ∧ Ext S S2 := by
  have : Rn (F__law_gates [.lst (ds.map .int), .int a, .int m, .int n] S) (fun v S2 => ∃ gs : List Gt, v = .lst (gs.map Gt.v) ∧ gs.length = m ∧ (∀ g ∈ gs, g.ok n) ∧ Ext S S2) X0 := by
    unfold F__law_gates
    rw [fold_gates, rn_runB]
    simp -dsimp
    refine ⟨by omega, ?_⟩
    refine sn_forR (I := fun i ρ S' => ∃ (gs : List Gt) (x5 x6 x7 x8 x9 x10 x11 x12 : Option Val), ρ = [some (.lst (ds.map .int)), some (.int a), some (.int m), some (.int n), some (.loc S.next), x5, x6, x7, x8, x9, x10, x11, x12] ∧
      S'.objs S.next = some (.lst (gs.map Gt.v)) ∧ Ext S S' ∧ S.next < S'.next ∧ gs.length = i ∧ (∀ g ∈ gs, g.ok n)) ?_ (fun _ _ _ _ => trivial) ?_ ?_
    · exact ⟨[], _, _, _, _, _, _, _, _, rfl, alloc_at, (Ext.refl S).alloc, Nat.lt_succ_self _, rfl, fun _ h => by cases h⟩
    · rintro i ρ S' hi ⟨gs, x5, x6, x7, x8, x9, x10, x11, x12, rfl, ho, hx, hnx, hgl, hgs⟩
      refine ⟨_, tgt_name, ?_⟩
      have hi' : i < m := by simpa using hi
      have e1 : atI ds ((a : Int) + 2 * (i : Int)) = some ds[a + 2 * i] := by
        rw [show (a : Int) + 2 * (i : Int) = ((a + 2 * i : Nat) : Int) by omega, atI_n, List.getElem?_eq_getElem (by omega)]
      have e2 : atI ds ((a : Int) + 2 * (i : Int) + 1) = some ds[a + 2 * i + 1] := by
        rw [show (a : Int) + 2 * (i : Int) + 1 = ((a + 2 * i + 1 : Nat) : Int) by omega, atI_n, List.getElem?_eq_getElem (by omega)]
      have d1 := hds _ (List.getElem_mem (show a + 2 * i < ds.length by omega))
      have d2 := hds _ (List.getElem_mem (show a + 2 * i + 1 < ds.length by omega))
      generalize ds[a + 2 * i] = d at *
      generalize ds[a + 2 * i + 1] = mr at *
      obtain ⟨a0, l1, p1, m1, m2, m3, m4, m5⟩ := pop_ok (l := List.range n) (k := S'.next) (S := S'.alloc (.lst ((List.range n).map nv))) (i := d % (n : Int)) alloc_at (Int.emod_nonneg _ (by omega)) (by rw [List.length_range]; exact Int.emod_lt_of_pos _ (by omega)) (by rw [List.length_range]; omega) List.nodup_range
      rw [alloc_put] at p1
      have L1 : (S'.alloc (.lst (l1.map nv))).objs S'.next = some (.lst (l1.map nv)) := alloc_at
      rw [List.length_range] at m5
      have hA1 : ∀ (l : List Nat), (S'.alloc (.lst (l.map nv))).objs S.next = some (.lst (gs.map Gt.v)) := fun l => by rw [alloc_ne (by omega)]; exact ho
      have c1 : (n : Int) < 4611686018427387904 := by omega
      have c2 : (n : Int) < 1073741824 := by omega
      have c3 : n ≤ 16777216 := by omega
      simp -dsimp [e1, e2, rangeL_nat, isLst_loc alloc_at, p1, c1, c2, c3, hn, sizeLine, v_len_loc L1]
      have fin : ∀ {y5 y6 y7 y8 y9 y10 y11 y12 : Option Val} (g : Gt) (S2 : Sto), g.ok n → (S'.next + 1 ≤ S2.next) → (∀ k, k < S'.next + 1 → k ≠ S.next → k ≠ S'.next → S2.objs k = S'.objs k) → S2.objs S.next = some (.lst (gs.map Gt.v ++ [g.v])) →
          ∃ (gs : List Gt) (x5 x6 x7 x8 x9 x10 x11 x12 : Option Val), [some (.lst (ds.map .int)), some (.int a), some (.int m), some (.int n), some (.loc S.next), y5, y6, y7, y8, y9, y10, y11, y12] = [some (.lst (ds.map .int)), some (.int a), some (.int m), some (.int n), some (.loc S.next), x5, x6, x7, x8, x9, x10, x11, x12] ∧
            S2.objs S.next = some (.lst (gs.map Gt.v)) ∧ Ext S S2 ∧ S.next < S2.next ∧ gs.length = i + 1 ∧ (∀ g ∈ gs, g.ok n) := fun g S2 hg h1 h2 h3 =>
        ⟨gs ++ [g], _, _, _, _, _, _, _, _, rfl, by rw [h3, List.map_append]; rfl, ⟨by have := hx.le; omega, fun k hk => (h2 k (by have := hx.le; omega) (by omega) (by have := hx.le; omega)).trans (hx.eq k hk)⟩, by omega, by rw [List.length_append, hgl]; rfl, fun z hz => by
          rcases List.mem_append.mp hz with hz | hz
          · exact hgs z hz
          · rw [List.mem_singleton.mp hz]; exact hg⟩
      have fin : ∀ {y5 y6 y7 y8 y9 y10 y11 y12 : Option Val} (g : Gt) {l : List Nat} (S2 : Sto), g.ok n → ((S'.alloc (.lst (l.map nv))).next ≤ S2.next) → (∀ k, k < (S'.alloc (.lst (l.map nv))).next → k ≠ S.next → k ≠ S'.next → S2.objs k = (S'.alloc (.lst (l.map nv))).objs k) → S2.objs S.next = some (.lst (gs.map Gt.v ++ [g.v])) → _ := fun {y5 y6 y7 y8 y9 y10 y11 y12} g {l} S2 hg h1 h2 h3 =>
        fin (y5 := y5) (y6 := y6) (y7 := y7) (y8 := y8) (y9 := y9) (y10 := y10) (y11 := y11) (y12 := y12) g S2 hg h1 (fun k a b c => (h2 k a b c).trans (alloc_ne c)) h3
      refine ⟨fun hc => ⟨fun hc1 => ?_, fun hc1 => ?_⟩, fun hc => ?_⟩
      · obtain ⟨b0, l2, p2, k1, k2, k3, k4, k5⟩ := pop_ok (l := l1) (k := S'.next) (S := S'.alloc (.lst (l1.map nv))) (i := d / 64 % (l1.length : Int)) alloc_at (Int.emod_nonneg _ (by omega)) (Int.emod_lt_of_pos _ (by omega)) (by omega) m3
        rw [alloc_put] at p2
        have L2 : (S'.alloc (.lst (l2.map nv))).objs S'.next = some (.lst (l2.map nv)) := alloc_at
        simp -dsimp [p2, hc1, sizeLine]
        refine tail_ok (rs := [a0, b0]) (n := n) (hA1 l2) (by simp; omega) L2 (by simp) (by omega) k3 (fun x hx => List.mem_range.mp (m4 x (k4 x hx))) (by omega) (by simp; omega) d1.1 d2.1 (by simp) ?_ ?_ ?_ ?_
        · intro x hx
          rcases List.mem_cons.mp hx with rfl | hx
          · exact fun z => m2 (k4 _ z)
          · rw [List.mem_singleton.mp hx]; exact k2
        · intro x hx
          rcases List.mem_cons.mp hx with rfl | hx
          · exact List.mem_range.mp m1
          · rw [List.mem_singleton.mp hx]; exact List.mem_range.mp (m4 _ k1)
        · simp; exact fun z => m2 (z ▸ k1)
        · intro cs y11 y12 S2 q1 q2 q3 q4 q5 q6 q7
          exact fin (.swap cs a0 b0) S2 ⟨q1, q2, q3, q4⟩ q5 q6 q7
      · refine tail_ok (rs := [a0]) (n := n) (hA1 l1) (by simp; omega) L1 (by simp) (by omega) m3 (fun x hx => List.mem_range.mp (m4 x hx)) (by omega) (by simp; omega) d1.1 d2.1 (by simp) (by simpa using m2) (by simpa using m1) (by simp) ?_
        intro cs y11 y12 S2 q1 q2 q3 q4 q5 q6 q7
        exact fin (.turn cs a0) S2 ⟨q1, q2, q3, q4⟩ q5 q6 q7
      · refine tail_ok (rs := [a0]) (n := n) (hA1 l1) (by simp; omega) L1 (by simp) (by omega) m3 (fun x hx => List.mem_range.mp (m4 x hx)) (by omega) (by simp; omega) d1.1 d2.1 (by simp) (by simpa using m2) (by simpa using m1) (by simp) ?_
        intro cs y11 y12 S2 q1 q2 q3 q4 q5 q6 q7
        exact fin (.turn cs a0) S2 ⟨q1, q2, q3, q4⟩ q5 q6 q7
    · rintro ρ S' ⟨gs, x5, x6, x7, x8, x9, x10, x11, x12, rfl, ho, hx, hnx, hgl, hgs⟩
      simp -dsimp [giveUp, ho]
      exact ⟨gs, rfl, hgl, hgs, hx.drop (Nat.le_refl _)⟩
  obtain ⟨v, S2, e, gs, rfl, q⟩ := this.get
  exact ⟨gs, S2, e, q⟩
end K46

namespace K46
open PySem PySem.Spec L2 PM
theorem ga_set {r : List Int} {a c : Nat} {x : Int} : ga (r.set a x) c = if a = c ∧ c < r.length then x else ga r c := by
  unfold ga
  by_cases h : a = c
  · subst h
    by_cases hl : a < r.length
    · rw [List.getElem?_set_self hl, if_pos ⟨rfl, hl⟩]; rfl
    · rw [if_neg (by omega), List.getElem?_eq_none (by simpa using hl), List.getElem?_eq_none (by omega)]
  · rw [List.getElem?_set_ne h, if_neg (by omega)]
theorem on_set {r : List Int} {a : Nat} {x : Int} {cs : List Nat} (h : a ∉ cs) : on cs (r.set a x) = on cs r := by
  unfold on
  rw [Bool.eq_iff_iff, List.all_eq_true, List.all_eq_true]
  refine forall_congr' fun c => imp_congr_right fun hc => ?_
  rw [ga_set, if_neg (fun q : a = c ∧ c < r.length => h (q.1 ▸ hc))]
theorem ext_ga {r q : List Int} (hl : r.length = q.length) (h : ∀ c, c < r.length → ga r c = ga q c) : r = q := by
  refine List.ext_getElem hl fun i h1 h2 => ?_
  have := h i h1
  unfold ga at this
  rw [List.getElem?_eq_getElem h1, List.getElem?_eq_getElem h2] at this
  exact this
theorem act_act {g : Gt} {r : List Int} (h : g.in_ r.length) : g.act (g.act r) = r := by
  refine ext_ga (by rw [Gt.len, Gt.len]) fun c hc => ?_
  rw [Gt.len, Gt.len] at hc
  cases g with
  | turn cs a =>
    obtain ⟨h1, h2, h3⟩ := h
    by_cases e : on cs r = true
    · simp only [Gt.act, e, if_true, on_set h3, ga_set, List.length_set]
      by_cases ec : a = c
      · subst ec; simp [hc]; omega
      · simp [ec]
    · simp only [Gt.act, e]; simp [e]
  | swap cs a b =>
    obtain ⟨h1, h2, h3, h4, h5, h6⟩ := h
    by_cases e : on cs r = true
    · simp only [Gt.act, e, if_true, on_set h4, on_set h5, ga_set, List.length_set]
      by_cases ec : b = c
      · subst ec; simp [hc, h6, h2, h3]
        intro hab; exact absurd hab.symm h6
      · by_cases ea : a = c
        · subst ea; simp [ec, h6, h2, h3]
        · simp [ec, ea]
    · simp only [Gt.act, e]; simp [e]
theorem act_bits {g : Gt} {r : List Int} (h : g.in_ r.length) (hb : bOk r) : bOk (g.act r) := by
  have hg : ∀ c, ga r c = 0 ∨ ga r c = 1 := fun c => by
    unfold ga
    by_cases hl : c < r.length
    · rw [List.getElem?_eq_getElem hl]; exact hb _ (List.getElem_mem hl)
    · rw [List.getElem?_eq_none (by omega)]; exact .inl rfl
  have set_ok : ∀ {q : List Int} {a : Nat} {x : Int}, bOk q → (x = 0 ∨ x = 1) → bOk (q.set a x) := fun {q a x} hq hx b hm => by
    rcases List.mem_or_eq_of_mem_set hm with hm | rfl
    · exact hq b hm
    · exact hx
  cases g with
  | turn cs a =>
    simp only [Gt.act]
    split
    · exact set_ok hb (by have := hg a; omega)
    · exact hb
  | swap cs a b =>
    simp only [Gt.act]
    split
    · exact set_ok (set_ok hb (hg b)) (hg a)
    · exact hb
theorem run_len (gs : List Gt) (r : List Int) : (runG gs r).length = r.length := by
  unfold runG
  induction gs generalizing r with
  | nil => rfl
  | cons g gs ih => rw [List.foldl_cons, ih, Gt.len]
theorem run_bits {n : Nat} : ∀ {gs : List Gt} {r : List Int}, (∀ g ∈ gs, g.ok n) → r.length = n → bOk r → bOk (runG gs r)
  | [], _, _, _, h => h
  | g :: gs, r, hg, hl, h => by
    show bOk (runG gs (g.act r))
    exact run_bits (fun z hz => hg z (List.mem_cons_of_mem _ hz)) (by rw [Gt.len]; exact hl) (act_bits (by rw [hl]; exact (hg g List.mem_cons_self).in_) h)
theorem run_app (gs hs : List Gt) (r : List Int) : runG (gs ++ hs) r = runG hs (runG gs r) := List.foldl_append
theorem run_back {n : Nat} : ∀ {gs : List Gt} {r : List Int}, (∀ g ∈ gs, g.ok n) → r.length = n → runG gs.reverse (runG gs r) = r
  | [], _, _, _ => rfl
  | g :: gs, r, hg, hl => by
    have h1 : runG (g :: gs) r = runG gs (g.act r) := rfl
    rw [List.reverse_cons, run_app, h1, run_back (fun z hz => hg z (List.mem_cons_of_mem _ hz)) (by rw [Gt.len]; exact hl)]
    exact act_act (by rw [hl]; exact (hg g List.mem_cons_self).in_)
theorem on_eq {cs : List Nat} {r : List Int} (hb : bOk r) : (cs.all fun c => decide (ga r c = 1)) = on cs r := by
  unfold on
  rw [Bool.eq_iff_iff, List.all_eq_true, List.all_eq_true]
  refine forall_congr' fun c => imp_congr_right fun _ => ?_
  have hg : ga r c = 0 ∨ ga r c = 1 := by
    unfold ga
    by_cases hl : c < r.length
    · rw [List.getElem?_eq_getElem hl]; exact hb _ (List.getElem_mem hl)
    · rw [List.getElem?_eq_none (by omega)]; exact .inl rfl
  rcases hg with h | h <;> simp [h]
theorem law_taken_ok {n : Nat} {gs : List Gt} {bs : List Int} {S : Sto} (hl : bs.length = n) (hn : n ≤ 400) (hb : bOk bs) (hok : ∀ g ∈ gs, g.ok n) :
    ∃ S2, F__law_taken [.lst (gs.map Gt.v), .tup (bs.map .int)] S = .ok (.tup ((runG gs bs).map .int)) S2 ∧ Ext S S2 := by
  have : Rn (F__law_taken [.lst (gs.map Gt.v), .tup (bs.map .int)] S) (fun v S2 => v = .tup ((runG gs bs).map .int) ∧ Ext S S2) X0 := by
    unfold F__law_taken B__law_taken
    rw [rn_runB]
    simp -dsimp
    refine sn_forM (f := Gt.v) (I := fun rest ρ S' => ∃ r x3 x4 x5 x6, ρ = [some (.lst (gs.map Gt.v)), some (.tup (bs.map .int)), some (.loc S.next), x3, x4, x5, x6] ∧ S'.objs S.next = some (.lst (r.map .int)) ∧ r.length = n ∧ bOk r ∧ runG rest r = runG gs bs ∧ S.next < S'.next ∧ Ext S S')
      ⟨bs, none, none, none, none, rfl, alloc_at, hl, hb, rfl, Nat.lt_succ_self _, (Ext.refl S).alloc⟩ (fun _ _ _ _ => trivial) ?_ ?_
    · rintro g rest ρ S' hg ⟨r, x3, x4, x5, x6, rfl, ho, hr, hbr, he, hnx, x⟩
      refine ⟨_, tgt_name, ?_⟩
      have hin := (hok g hg).in_
      have fin := fun (S2 : Sto) (h1 : S2.objs S.next = some (.lst ((g.act r).map .int))) (h2 : S.next < S2.next) (h3 : Ext S S2) =>
        (show ∃ r : List Int, S2.objs S.next = some (.lst (r.map .int)) ∧ r.length = n ∧ bOk r ∧ runG rest r = runG gs bs ∧ S.next < S2.next ∧ Ext S S2 from
          ⟨_, h1, by rw [Gt.len]; exact hr, act_bits (by rw [hr]; exact hin) hbr, he, h2, h3⟩)
      have fin2 := fun (xs : List Val) (S2 : Sto) (h1 : xs = ((g.act r).map .int)) (h2 : S.next < S2.next) (h3 : Ext S S2) =>
        (show ∃ r : List Int, xs = r.map .int ∧ r.length = n ∧ bOk r ∧ runG rest r = runG gs bs ∧ S.next < S2.next ∧ Ext S (S2.put S.next (.lst xs)) from
          ⟨_, h1, by rw [Gt.len]; exact hr, act_bits (by rw [hr]; exact hin) hbr, he, h2, h3.put (Nat.le_refl _)⟩)
      cases g with
      | turn cs a =>
        obtain ⟨b1, b2, _⟩ := hin
        simp -dsimp [Gt.v]
        refine eLc_map (f := nv) (g := fun c => .bl (decide (ga r c = 1))) (xs := cs) (S1 := S') (src := fun _ => True) rfl (.refl _) (by have := (hok _ hg).2.2.2; simp only [Gt.cs] at this; have : sizeLine = 2 ^ 24 := rfl; omega) (fun S' x => trivial) (fun c hc S1 x1 => ⟨_, tgt_name, ?_⟩) fun S1 x1 => ?_
        · simp -dsimp [wipeE, nv, v_ix_loc (x1.at_ hnx ho), atN (show c < r.length by rw [hr]; exact b1 c hc)]
          exact .refl _
        · have ho1 := x1.at_ hnx ho
          have b2' : a < r.length := by omega
          by_cases hc : on cs r = true
          · simp -dsimp [Gt.v, v_all, on_eq hbr, hc, q_tt, q_st, nv, v_ix_loc ho1, atN b2', setIx_nat ho1 (n := a) (by simpa using b2')]
            exact fin2 ((r.map .int).set a (.int (1 - ga r a))) _ (by simp [Gt.act, hc, List.map_set]) (Nat.lt_of_lt_of_le hnx x1.le) (x.trans x1)
          · simp -dsimp [v_all, on_eq hbr, hc]
            exact fin _ (by simp [Gt.act, hc]; exact ho1) (Nat.lt_of_lt_of_le hnx x1.le) (x.trans x1)
      | swap cs a b =>
        obtain ⟨b1, b2, b3, b4, b5, b6⟩ := hin
        simp -dsimp [Gt.v]
        refine eLc_map (f := nv) (g := fun c => .bl (decide (ga r c = 1))) (xs := cs) (S1 := S') (src := fun _ => True) rfl (.refl _) (by have := (hok _ hg).2.2.2; simp only [Gt.cs] at this; have : sizeLine = 2 ^ 24 := rfl; omega) (fun S' x => trivial) (fun c hc S1 x1 => ⟨_, tgt_name, ?_⟩) fun S1 x1 => ?_
        · simp -dsimp [wipeE, nv, v_ix_loc (x1.at_ hnx ho), atN (show c < r.length by rw [hr]; exact b1 c hc)]
          exact .refl _
        · have ho1 := x1.at_ hnx ho
          have b2' : a < r.length := by omega
          have b3' : b < r.length := by omega
          by_cases hc : on cs r = true
          · simp -dsimp [Gt.v, v_all, on_eq hbr, hc, q_tt, q_st, nv, v_ix_loc ho1, atN b2', atN b3', setIx_nat ho1 (n := a) (by simpa using b2')]
            rw [setIx_nat put_at (by simpa using b3')]
            simp -dsimp
            exact fin2 (((r.map .int).set a (.int (ga r b))).set b (.int (ga r a))) _ (by simp [Gt.act, hc, List.map_set]) (Nat.lt_of_lt_of_le hnx x1.le) (x.trans x1)
          · simp -dsimp [v_all, on_eq hbr, hc]
            exact fin _ (by simp [Gt.act, hc]; exact ho1) (Nat.lt_of_lt_of_le hnx x1.le) (x.trans x1)
    · rintro ρ S' ⟨r, x3, x4, x5, x6, rfl, ho, hr, hbr, he, hnx, x⟩
      simp -dsimp [v_tup_loc ho]
      exact ⟨by rw [← he]; rfl, x⟩
  obtain ⟨v, S2, e, rfl, q⟩ := this.get
  exact ⟨S2, e, q⟩
end K46

namespace K46
open PySem PySem.Spec L2 PM
/-- what is not one bit for each line -/
inductive Bad (n : Nat) : Val → Prop where
  | lst (xs : List Val) : Bad n (.lst xs)
  | len (xs : List Val) : xs.length ≠ n → Bad n (.tup xs)
  | last (bs : List Int) (u : Val) : bOk bs → bs.length + 1 = n → (u = .int 2 ∨ u = .bl true ∨ u = .str "0") → Bad n (.tup (bs.map .int ++ [u]))
theorem is_line_bl (S : Sto) (b : Bool) (n : Int) : F_is_line [.bl b, .int n] S = .ok (.bl false) S := by
  have : Rn (F_is_line [.bl b, .int n] S) (fun v S' => v = .bl false ∧ S' = S) X0 := by
    unfold F_is_line B_is_line
    rw [rn_runB]
    simp -dsimp
  obtain ⟨a, S', h, rfl, rfl⟩ := this.get
  exact h
theorem is_line_str (S : Sto) (b : Str) (n : Int) : F_is_line [.str b, .int n] S = .ok (.bl false) S := by
  have : Rn (F_is_line [.str b, .int n] S) (fun v S' => v = .bl false ∧ S' = S) X0 := by
    unfold F_is_line B_is_line
    rw [rn_runB]
    simp -dsimp
  obtain ⟨a, S', h, rfl, rfl⟩ := this.get
  exact h
theorem Rn.exc {α : Type} {r : Res α} {P : α → Sto → Prop} {X : XP} (h : Rn r (fun _ _ => False) X) : ∃ c vs S', r = .ex c vs S' ∧ X c vs S' := by
  cases r with
  | ok a S => exact False.elim h
  | ex c vs S => exact ⟨c, vs, S, rfl, h⟩
  | st => exact False.elim h
def fl : Val → Bool | .int i => decide (0 ≤ i) && decide (i < 2) | _ => false
theorem checked_bad {n : Nat} {gs : List Gt} {b : Val} {S : Sto} (h : Bad n b) (hn : n ≤ 400) : ∃ S2, F_Net__checked [netV n gs, b] S = .ex 2 [] S2 ∧ Ext S S2 := by
  have : Rn (F_Net__checked [netV n gs, b] S) (fun _ _ => False) (fun c vs S2 => c = 2 ∧ vs = [] ∧ Ext S S2) := by
    unfold F_Net__checked B_Net__checked
    rw [rn_runB]
    cases h with
    | lst xs => simp -dsimp; exact .refl _
    | len xs hx =>
      have hx' : ¬ (xs.length : Int) = n := by omega
      simp -dsimp [hx']
      exact .refl _
    | last bs u hb hl hu =>
      simp -dsimp [hl, show (bs.length : Int) + 1 = n by omega]
      refine eLc_map (f := fun x => x) (g := fun x => .bl (fl x)) (xs := bs.map .int ++ [u]) (S1 := S) (src := fun _ => True) (by rw [List.map_id']; rfl) (.refl _) (by have : sizeLine = 2 ^ 24 := rfl; simp; omega) (fun S' x => trivial) (fun c hc S' x => ⟨_, tgt_name, ?_⟩) fun S1 x1 => ?_
      · rcases List.mem_append.mp hc with hc | hc
        · obtain ⟨i, _, rfl⟩ := List.mem_map.mp hc
          simp -dsimp [wipeE, is_line_int, fl]
          exact .refl _
        · obtain rfl := List.mem_singleton.mp hc
          rcases hu with rfl | rfl | rfl
          · simp -dsimp [wipeE, is_line_int, fl]; exact .refl _
          · simp -dsimp [wipeE, is_line_bl, fl]; exact .refl _
          · simp -dsimp [wipeE, is_line_str, fl]; exact .refl _
      · have hf : fl u = false := by rcases hu with rfl | rfl | rfl <;> rfl
        have ha : (bs.map Val.int ++ [u]).all fl = false := by rw [List.all_append]; simp [hf]
        have hall : ∀ S, vAll [.lst ((bs.map Val.int ++ [u]).map fun x => Val.bl (fl x))] S = .ok (.bl false) S := fun S => by rw [v_all, ha]
        generalize ((bs.map Val.int ++ [u]).map fun x => Val.bl (fl x)) = L at *
        simp -dsimp [hall]
        exact x1
  obtain ⟨c, vs, S2, e, rfl, rfl, q⟩ := Rn.exc (P := fun _ _ => True) this
  exact ⟨S2, e, q⟩
theorem run_bad {n : Nat} {gs : List Gt} {b : Val} {S : Sto} (h : Bad n b) (hn : n ≤ 400) : ∃ S2, F_Net_run [netV n gs, b] S = .ex 2 [] S2 ∧ Ext S S2 := by
  obtain ⟨S1, e1, x1⟩ := checked_bad (gs := gs) (S := S) h hn
  have : Rn (F_Net_run [netV n gs, b] S) (fun _ _ => False) (fun c vs S2 => c = 2 ∧ vs = [] ∧ Ext S S2) := by
    unfold F_Net_run B_Net_run
    rw [rn_runB]
    simp -dsimp [e1]
    exact x1
  obtain ⟨c, vs, S2, e, rfl, rfl, q⟩ := Rn.exc (P := fun _ _ => True) this
  exact ⟨S2, e, q⟩
theorem back_bad {n : Nat} {gs : List Gt} {b : Val} {S : Sto} (h : Bad n b) (hn : n ≤ 400) : ∃ S2, F_Net_back [netV n gs, b] S = .ex 2 [] S2 ∧ Ext S S2 := by
  obtain ⟨S1, e1, x1⟩ := checked_bad (gs := gs) (S := S) h hn
  have : Rn (F_Net_back [netV n gs, b] S) (fun _ _ => False) (fun c vs S2 => c = 2 ∧ vs = [] ∧ Ext S S2) := by
    unfold F_Net_back B_Net_back
    rw [rn_runB]
    simp -dsimp [e1]
    exact x1
  obtain ⟨c, vs, S2, e, rfl, rfl, q⟩ := Rn.exc (P := fun _ _ => True) this
  exact ⟨S2, e, q⟩
theorem q_rr (S : Sto) : vEq (.str "run") (.str "run") S = .ok (.bl true) S := by rw [v_eqS (by decide +kernel) (by decide +kernel)]; rfl
theorem q_br (S : Sto) : vEq (.str "back") (.str "run") S = .ok (.bl false) S := by rw [v_eqS (by decide +kernel) (by decide +kernel)]; rfl
theorem suite_ok (x0 x1 x2 : Option Val) (S : Sto) : (sRet (eAnd (eIsErr 3 (eC (.cls 2)) true) (eAnd (eIsErr 3 (eC (.ty .ve)) true) (eNot (eIsErr 3 (eC (.cls 1)) false))))) [x0, x1, x2, some (.err 2 [])] S = .rt (.bl true) S := rfl
theorem suite_rt {i : Nat} {S : Sto} {v : Val} (h : noErr v = true) : suiteEnd i S (.rt v S) = .rt v S := by
  unfold suiteEnd; dsimp only; rw [if_pos ⟨h, rfl⟩]
theorem refused_run {n : Nat} {gs : List Gt} {b : Val} {S : Sto} (h : Bad n b) (hn : n ≤ 400) : ∃ S2, F__law_refused [netV n gs, b, .str "run"] S = .ok (.bl true) S2 ∧ Ext S S2 := by
  have : Rn (F__law_refused [netV n gs, b, .str "run"] S) (fun v S2 => v = .bl true ∧ Ext S S2) X0 := by
    obtain ⟨S1, e1, x1⟩ := run_bad (gs := gs) (S := S) h hn
    unfold F__law_refused B__law_refused
    rw [rn_runB, sn_seq, sn_try]
    simp -dsimp [q_rr, e1, List.lookup]
    rw [suite_ok]
    rw [suite_rt rfl]
    exact ⟨rfl, x1⟩
  obtain ⟨v, S2, e, rfl, q⟩ := this.get
  exact ⟨S2, e, q⟩
theorem refused_back {n : Nat} {gs : List Gt} {b : Val} {S : Sto} (h : Bad n b) (hn : n ≤ 400) : ∃ S2, F__law_refused [netV n gs, b, .str "back"] S = .ok (.bl true) S2 ∧ Ext S S2 := by
  have : Rn (F__law_refused [netV n gs, b, .str "back"] S) (fun v S2 => v = .bl true ∧ Ext S S2) X0 := by
    obtain ⟨S1, e1, x1⟩ := back_bad (gs := gs) (S := S) h hn
    unfold F__law_refused B__law_refused
    rw [rn_runB, sn_seq, sn_try]
    simp -dsimp [q_br, e1, List.lookup]
    rw [suite_ok]
    rw [suite_rt rfl]
    exact ⟨rfl, x1⟩
  obtain ⟨v, S2, e, rfl, q⟩ := this.get
  exact ⟨S2, e, q⟩
end K46

namespace K46
open PySem PySem.Spec L2 PM
noncomputable def restL : SM := (sSeq (sSet 3 (eCallN 4 F__law_gates (aCons (eVar 1) (aCons (eC (.int 0)) (aCons (eBin vMod (eBin vIx (eVar 1) (eC (.int 52))) (eC (.int 13))) (aCons (eVar 2) aNil)))))) (sSeq (sSet 4 (eBI (vList true) (aCons (eVar 3) aNil))) (sSeq (sSet 5 (eFrz (eMakeN 3 3 F_Net___init__ (aCons (eVar 2) (aCons (eVar 4) aNil))))) (sSeq (sDrop (eBM isLst vAppend (eVar 4) (aCons (eTup (aCons (eC (.str "turn")) (aCons (eTup aNil) (aCons (eC (.int 0)) aNil)))) aNil))) (sSeq (sDrop (eBM isLst vAppend (eMethN 1 3 F_Net_gates__bx (eVar 5) aNil) (aCons (eC (.int 0)) aNil))) (sSeq (sIf (tOrM (tNotM (tTru (eCallN 1 F__law_is_number (aCons (eAttr 3 0 (eVar 5)) aNil)))) (tOrM (PM.tB (eBin vNe (eAttr 3 0 (eVar 5)) (eVar 2))) (tOrM (PM.tB (eBin vNe (eMethN 1 3 F_Net_gates__bx (eVar 5) aNil) (eVar 3))) (tNotM (tTru (eBI vIsi (aCons (eMethN 1 3 F_Net_gates__bx (eVar 5) aNil) (aCons (eC (.ty .lst)) aNil)))))))) (sRet (eC (.bl false))) sNext) (sSeq (sSet 6 (eBI vTuple (aCons (eLc false (iRange1 (eVar 2)) (.name 9) tYesM (eBin vMod (eBin vFdiv (eBin vIx (eVar 1) (eBin (vAdd false) (eC (.int 30)) (eBin vMod (eVar 9) (eC (.int 20))))) (eBin (vAdd false) (eC (.int 1)) (eVar 9))) (eC (.int 2))) [9]) aNil))) (sSeq (sSet 7 (eMethN 2 3 F_Net_run (eVar 5) (aCons (eVar 6) aNil))) (sSeq (sIf (tOrM (tNotM (tTru (eBI vIsi (aCons (eVar 7) (aCons (eC (.ty .tup)) aNil))))) (tOrM (PM.tB (eBin vNe (eVar 7) (eCallN 2 F__law_taken (aCons (eVar 3) (aCons (eVar 6) aNil))))) (PM.tB (eBin vNe (eMethN 2 3 F_Net_back (eVar 5) (aCons (eVar 7) aNil)) (eVar 6))))) (sRet (eC (.bl false))) sNext) (sSeq (sIf (tOrM (PM.tB (eBin vNe (eMethN 2 3 F_Net_back (eVar 5) (aCons (eVar 6) aNil)) (eCallN 2 F__law_taken (aCons (eUn (vRevL false) (eVar 3)) (aCons (eVar 6) aNil))))) (PM.tB (eBin vNe (eMethN 2 3 F_Net_run (eVar 5) (aCons (eMethN 2 3 F_Net_back (eVar 5) (aCons (eVar 6) aNil)) aNil)) (eVar 6)))) (sRet (eC (.bl false))) sNext) (sSeq (sSet 8 (eBin vIx (eLst false (aCons (eBin (vAdd false) (eVar 6) (eTup (aCons (eC (.int 0)) aNil))) (aCons (eCut false (eVar 6) (oSome (eC (.int 1))) oNone) (aCons (eBin (vAdd false) (eCut false (eVar 6) oNone (oSome (eUn vNeg (eC (.int 1))))) (eTup (aCons (eC (.int 2)) aNil))) (aCons (eBin (vAdd false) (eCut false (eVar 6) oNone (oSome (eUn vNeg (eC (.int 1))))) (eTup (aCons (eC (.bl true)) aNil))) (aCons (eBI (vList false) (aCons (eVar 6) aNil)) (aCons (eBin (vAdd false) (eCut false (eVar 6) oNone (oSome (eUn vNeg (eC (.int 1))))) (eTup (aCons (eC (.str "0")) aNil))) (aCons (eTup aNil) aNil)))))))) (eBin vMod (eBin vIx (eVar 1) (eC (.int 53))) (eC (.int 7))))) (sRet (eAnd (eCallN 3 F__law_refused (aCons (eVar 5) (aCons (eVar 8) (aCons (eC (.str "run")) aNil)))) (eAnd (eCallN 3 F__law_refused (aCons (eVar 5) (aCons (eVar 8) (aCons (eC (.str "back")) aNil)))) (eBin vEq (eMethN 2 3 F_Net_run (eFrz (eMakeN 3 3 F_Net___init__ (aCons (eVar 2) (aCons (eLst false aNil) aNil)))) (aCons (eVar 6) aNil)) (eVar 6))))))))))))))))
theorem fold_law : B_law = (sSeq (sSet 1 (eCallN 2 F__law_draws (aCons (eVar 0) (aCons (eC (.int 60)) aNil)))) (sSeq (sSet 2 (eBin (vAdd false) (eC (.int 1)) (eBin vMod (eBin vIx (eVar 1) (eC (.int 50))) (eC (.int 8))))) (sSeq (sIf (PM.tB (eBin vEq (eBin vMod (eBin vIx (eVar 1) (eC (.int 51))) (eC (.int 12))) (eC (.int 0)))) (sSet 2 (eC (.int 400))) sNext) restL))) := rfl

def Gt.d : Gt → PyData
  | .turn cs a => .tuple [.str "turn", .tuple (cs.map fun (n : Nat) => PyData.int n), .int a]
  | .swap cs a b => .tuple [.str "swap", .tuple (cs.map fun (n : Nat) => PyData.int n), .int a, .int b]
theorem dats_nv (l : List Nat) : Val.dats (l.map nv) = some (l.map fun (n : Nat) => PyData.int n) := dats_map fun x _ => dat_int
theorem dat_nv (a : Nat) : (nv a).dat = some (.int a) := dat_int
theorem Gt.dat (g : Gt) : g.v.dat = some g.d := by
  cases g with
  | turn cs a =>
    unfold Gt.v Gt.d
    rw [dat_tup, dats_cons dat_str (dats_cons (d := .tuple (cs.map fun (n : Nat) => PyData.int n)) (by rw [dat_tup, dats_nv]; rfl) (dats_cons (dat_nv a) dats_nil))]; rfl
  | swap cs a b =>
    unfold Gt.v Gt.d
    rw [dat_tup, dats_cons dat_str (dats_cons (d := .tuple (cs.map fun (n : Nat) => PyData.int n)) (by rw [dat_tup, dats_nv]; rfl) (dats_cons (dat_nv a) (dats_cons (dat_nv b) dats_nil)))]; rfl
theorem Gt.lay (g : Gt) : PM.lay 3 g.d = true := by
  have hc : ∀ l : List Nat, PM.lay 2 (.tuple (l.map fun (n : Nat) => PyData.int n)) = true := fun l => lay_tuple (k := 1) fun d hd => by
    obtain ⟨n, _, rfl⟩ := List.mem_map.mp hd
    exact lay_int _
  cases g with
  | turn cs a =>
    refine lay_tuple (k := 2) fun d hd => ?_
    rcases List.mem_cons.mp hd with rfl | hd
    · exact lay_str (by decide +kernel)
    rcases List.mem_cons.mp hd with rfl | hd
    · exact hc cs
    · rw [List.mem_singleton.mp hd]; exact lay_int _
  | swap cs a b =>
    refine lay_tuple (k := 2) fun d hd => ?_
    rcases List.mem_cons.mp hd with rfl | hd
    · exact lay_str (by decide +kernel)
    rcases List.mem_cons.mp hd with rfl | hd
    · exact hc cs
    rcases List.mem_cons.mp hd with rfl | hd
    · exact lay_int _
    · rw [List.mem_singleton.mp hd]; exact lay_int _
theorem gs_dats (gs : List Gt) : Val.dats (gs.map Gt.v) = some (gs.map Gt.d) := dats_map fun g _ => g.dat
theorem gs_shaped (gs : List Gt) : SeqAt.shaped (.list (gs.map Gt.d)) = true := shaped_of (k := 4) (lay_list fun d hd => by
  obtain ⟨g, _, rfl⟩ := List.mem_map.mp hd
  exact g.lay) (by decide)
theorem ints_shaped (l : List Int) : SeqAt.shaped (.tuple (l.map .int)) = true := shaped_of (k := 1) (lay_tuple (k := 0) fun d hd => by
  obtain ⟨g, _, rfl⟩ := List.mem_map.mp hd
  exact lay_int _) (by decide)
theorem ne_bits (l : List Int) (S : Sto) : vNe (.tup (l.map .int)) (.tup (l.map .int)) S = .ok (.bl false) S :=
  vNe_same (d := .tuple (l.map .int)) ⟨by rw [datS_tup, dat_ints]; rfl, ints_shaped l⟩ (by rw [datS_tup, dat_ints]; rfl)
theorem eq_bits (l : List Int) (S : Sto) : vEq (.tup (l.map .int)) (.tup (l.map .int)) S = .ok (.bl true) S :=
  vEq_same (d := .tuple (l.map .int)) ⟨by rw [datS_tup, dat_ints]; rfl, ints_shaped l⟩ (by rw [datS_tup, dat_ints]; rfl)
theorem ne_gates {gs : List Gt} {k : Nat} {S : Sto} (h : S.objs k = some (.lst (gs.map Gt.v))) : vNe (.loc k) (.lst (gs.map Gt.v)) S = .ok (.bl false) S :=
  vNe_same (d := .list (gs.map Gt.d)) ⟨by rw [datS_loc h, gs_dats]; rfl, gs_shaped gs⟩ (by rw [datS_lst, gs_dats]; rfl)
theorem gates_bx {n : Nat} {gs : List Gt} {S : Sto} : F_Net_gates__bx [netV n gs] S = .ok (.loc S.next) (S.alloc (.lst (gs.map Gt.v))) := by
  have : Rn (F_Net_gates__bx [netV n gs] S) (fun v S2 => v = .loc S.next ∧ S2 = S.alloc (.lst (gs.map Gt.v))) X0 := by
    unfold F_Net_gates__bx B_Net_gates__bx
    rw [rn_runB]
    simp -dsimp
  obtain ⟨a, S', h, rfl, rfl⟩ := this.get
  exact h
theorem is_number (S : Sto) (n : Int) : F__law_is_number [.int n] S = .ok (.bl true) S := by
  have : Rn (F__law_is_number [.int n] S) (fun v S2 => v = .bl true ∧ S2 = S) X0 := by
    unfold F__law_is_number B__law_is_number
    rw [rn_runB]
    simp -dsimp
  obtain ⟨a, S', h, rfl, rfl⟩ := this.get
  exact h
def bitV (ds : List Int) (i : Nat) : Int := ga ds (30 + i % 20) / (1 + (i : Int)) % 2
theorem bits_ok {ds : List Int} {n : Nat} {x0 x3 x4 x5 x6 x7 x8 x9 : Option Val} {S : Sto} (g1 : dOk ds) (l1 : ds.length = 60) (hn2 : n ≤ 400) :
    Rn (eLc false (iRange1 (eVar 2)) (Tgt.name 9) tYesM (eBin vMod (eBin vFdiv (eBin vIx (eVar 1) (eBin (vAdd false) (eC (.int 30)) (eBin vMod (eVar 9) (eC (.int 20))))) (eBin (vAdd false) (eC (.int 1)) (eVar 9))) (eC (.int 2))) [9]
      [x0, some (.lst (ds.map .int)), some (.int n), x3, x4, x5, x6, x7, x8, x9] S) (fun v S2 => ∃ bs : List Int, v = .lst (bs.map .int) ∧ bs.length = n ∧ bOk bs) X0 := by
  have c1 : (n : Int) < 4611686018427387904 := by omega
  have aN : ∀ c : Nat, c < 60 → atI ds (c : Int) = some (ga ds c) := fun c hc => by
    rw [atI_n, List.getElem?_eq_getElem (by omega)]; unfold ga; rw [List.getElem?_eq_getElem (by omega)]; rfl
  have hln : (List.range n).length ≤ sizeLine := by rw [List.length_range]; have : sizeLine = 2 ^ 24 := rfl; omega
  have hit : ∀ S6, iRange1 (eVar 2) [x0, some (.lst (ds.map .int)), some (.int n), x3, x4, x5, x6, x7, x8, x9] S6 = .ok ⟨(List.range n).map fun (i : Nat) => Val.int (0 + (i : Int)), fun _ => True⟩ S6 := fun S6 => by
    have : Rn (iRange1 (eVar 2) [x0, some (.lst (ds.map .int)), some (.int n), x3, x4, x5, x6, x7, x8, x9] S6) (fun v S' => v = ⟨(List.range n).map fun (i : Nat) => Val.int (0 + (i : Int)), fun _ => True⟩ ∧ S' = S6) X0 := by
      simp -dsimp [c1]
      unfold rangeL; simp
    obtain ⟨v, S', e, rfl, rfl⟩ := this.get
    exact e
  with_reducible refine eLc_map (f := fun (i : Nat) => Val.int (0 + (i : Int))) (g := fun (i : Nat) => .int (bitV ds i)) (xs := List.range n) (src := fun _ => True) (S1 := S) ?hit (Ext.refl _) hln (fun S' x => trivial) ?_ ?_
  case hit => exact hit _
  · intro c hc S' x
    refine ⟨_, tgt_name, ?_⟩
    have hc := List.mem_range.mp hc
    have e30 : atI ds (30 + (c : Int) % 20) = some (ga ds (30 + c % 20)) := by rw [show (30 : Int) + (c : Int) % 20 = ((30 + c % 20 : Nat) : Int) by omega, aN _ (by omega)]
    have k1 : (0 : Int) < 1 + (c : Int) := by omega
    have k2 : (1 : Int) + (c : Int) < 1073741824 := by omega
    simp -dsimp [wipeE, e30, k1, k2]
    exact ⟨rfl, .refl _⟩
  · intro S7 x7
    have hbl : ((List.range n).map fun (i : Nat) => Val.int (bitV ds i)) = ((List.range n).map (bitV ds)).map .int := by rw [List.map_map]; rfl
    have hb : bOk ((List.range n).map (bitV ds)) := fun b hb => by
      obtain ⟨i, _, rfl⟩ := List.mem_map.mp hb
      unfold bitV; omega
    have hbn : ((List.range n).map (bitV ds)).length = n := by simp
    exact ⟨_, by rw [hbl], hbn, hb⟩
theorem giveUp_net {n k : Nat} {gs : List Gt} {S : Sto} (h : S.objs k = some (.ins 3 [.int n, .lst (gs.map Gt.v)])) : giveUp (.loc k) S = .ok (netV n gs) (S.drop k) := by
  unfold giveUp; simp only [h]; rfl
theorem al_at {S : Sto} {k : Nat} {o : Ob} (h : S.next = k) : (S.alloc o).objs k = some o := by subst h; exact alloc_at
theorem al_lst {S : Sto} {k : Nat} {xs : List Val} (h : S.next = k) : isLst (.loc k) (S.alloc (.lst xs)) = true := isLst_loc (al_at h)
theorem al_app {S : Sto} {k : Nat} {xs : List Val} {u : Val} (h : S.next = k) (hl : xs.length < sizeLine) : vAppend (.loc k) [u] (S.alloc (.lst xs)) = .ok .non ((S.alloc (.lst xs)).put k (.lst (xs ++ [u]))) := vAppend_at (al_at h) hl
theorem al_ne {S : Sto} {k : Nat} {gs : List Gt} (h : S.next = k) : vNe (.loc k) (.lst (gs.map Gt.v)) (S.alloc (.lst (gs.map Gt.v))) = .ok (.bl false) (S.alloc (.lst (gs.map Gt.v))) := ne_gates (al_at h)
theorem al_isi {S : Sto} {k : Nat} {xs : List Val} {n : Tg} (h : S.next = k) : vIsi [.loc k, .ty n] (S.alloc (.lst xs)) = .ok (.bl (isA .lst n)) (S.alloc (.lst xs)) := v_isi_loc (al_at h)
theorem law_holds (ns : List Int) (hns : ns.length ≤ 63) : ∃ S', F_law [.fz (ns.map Val.int)] S0 = .ok (.bl true) S' := by
  have : Rn (F_law [.fz (ns.map Val.int)] S0) (fun v _ => v = .bl true) X0 := by
    obtain ⟨ds, S1, e1, l1, g1, x1⟩ := draws_ok ns hns 60 (by decide) S0
    rw [show ((60 : Nat) : Int) = 60 from rfl] at e1
    have at_ : ∀ i : Nat, i < 60 → ∃ d, atI ds (i : Int) = some d ∧ 0 ≤ d ∧ d < 65537 := fun i hi => by
      obtain ⟨d, h1, h2⟩ := atI_mem (l := ds) (i := (i : Int)) (by omega) (by omega)
      exact ⟨d, h1, g1 d h2⟩
    obtain ⟨d50, a50, b50⟩ := at_ 50 (by decide)
    obtain ⟨d51, a51, b51⟩ := at_ 51 (by decide)
    rw [show ((50 : Nat) : Int) = 50 from rfl] at a50
    rw [show ((51 : Nat) : Int) = 51 from rfl] at a51
    have rest : ∀ n : Nat, 0 < n → n ≤ 400 → Sn (restL [some (.fz (ns.map .int)), some (.lst (ds.map .int)), some (.int n), none, none, none, none, none, none, none] S1)
        ⟨fun _ _ => False, fun v _ => v = .bl true, fun _ _ => False, fun _ _ => False, fun _ _ _ _ => False⟩ := by
      intro n hn hn2
      obtain ⟨d52, a52, b52⟩ := at_ 52 (by decide)
      obtain ⟨d53, a53, b53⟩ := at_ 53 (by decide)
      rw [show ((52 : Nat) : Int) = 52 from rfl] at a52
      rw [show ((53 : Nat) : Int) = 53 from rfl] at a53
      obtain ⟨gs, S2, e2, gl, gok, x2⟩ := gates_ok (a := 0) (m := (d52 % 13).toNat) (n := n) (S := S1) g1 (by omega) (by omega) hn hn2
      rw [show (((d52 % 13).toNat : Nat) : Int) = d52 % 13 by omega, show ((0 : Nat) : Int) = 0 from rfl] at e2
      unfold restL
      simp -dsimp [a52, e2]
      obtain ⟨S5, e5, x5, o5⟩ := init_ok (n := n) (gs := gs) (gv := .loc S2.next) (S := (S2.alloc (.lst (gs.map Gt.v))).alloc (.ins 3 [])) (k := S2.next + 1) alloc_at (Nat.lt_succ_self _) hn hn2 (by omega) gok
        (fun S' x => lstOf_ext x (by simp; omega) (by rw [alloc_ne (by simp)]; exact alloc_at)) (fun S' vs x => by
          refine lstOf_loc ?_
          rw [put_ne (by omega)]
          exact x.at_ (by simp; omega) (by rw [alloc_ne (by simp)]; exact alloc_at))
      have o6 : (S5.drop (S2.next + 1)).objs S2.next = some (.lst (gs.map Gt.v)) := by
        rw [drop_ne (by omega), x5.eq _ (by simp; omega) (by omega), alloc_ne (by simp)]; exact alloc_at
      have hap : ∀ {k : Nat} {S : Sto} {u : Val}, S.objs k = some (.lst (gs.map Gt.v)) → vAppend (.loc k) [u] S = .ok .non (S.put k (.lst (gs.map Gt.v ++ [u]))) := fun h => vAppend_at h (by have : sizeLine = 2 ^ 24 := rfl; simp; omega)
      have hap2 : ∀ {S : Sto} {k : Nat} {u : Val}, S.next = k → vAppend (.loc k) [u] (S.alloc (.lst (gs.map Gt.v))) = .ok .non ((S.alloc (.lst (gs.map Gt.v))).put k (.lst (gs.map Gt.v ++ [u]))) := fun h => hap (al_at h)
      simp -dsimp [e5, giveUp_net o5, isLst_loc o6, hap o6, gates_bx, al_lst, hap2, al_ne, al_isi, sizeLine, is_number]
      refine Rn.of (P := fun v S2 => ∃ bs : List Int, v = .lst (bs.map .int) ∧ bs.length = n ∧ bOk bs) ?_ ?_
      · with_reducible exact bits_ok g1 l1 hn2
      · rintro _ S7 ⟨bs, rfl, hbn, hb⟩
        have ch : ∀ {F : FM} {as : List Val} {v : Val}, (∀ S, ∃ S2, F as S = .ok v S2 ∧ Ext S S2) → ∃ f : Sto → Sto, ∀ S, F as S = .ok v (f S) := fun h => ⟨fun S => Classical.choose (h S), fun S => (Classical.choose_spec (h S)).1⟩
        have rok : ∀ g ∈ gs.reverse, g.ok n := fun g hg => gok g (List.mem_reverse.mp hg)
        obtain ⟨f1, h1⟩ := ch fun S => run_ok (S := S) hbn hn2 hb gok
        obtain ⟨f2, h2⟩ := ch fun S => law_taken_ok (S := S) hbn hn2 hb gok
        obtain ⟨f3, h3⟩ := ch fun S => back_ok (S := S) (bs := runG gs bs) (by rw [run_len]; exact hbn) hn2 (run_bits gok hbn hb) gok
        rw [run_back gok hbn] at h3
        obtain ⟨f4, h4⟩ := ch fun S => back_ok (S := S) hbn hn2 hb gok
        obtain ⟨f5, h5⟩ := ch fun S => law_taken_ok (S := S) hbn hn2 hb rok
        rw [List.map_reverse] at h5
        obtain ⟨f6, h6⟩ := ch fun S => run_ok (S := S) (bs := runG gs.reverse bs) (by rw [run_len]; exact hbn) hn2 (run_bits rok hbn hb) gok
        have rb := run_back rok hbn
        rw [List.reverse_reverse] at rb
        rw [rb] at h6
        obtain ⟨f7, h7⟩ := ch fun S => run_ok (gs := []) (S := S) hbn hn2 hb (fun _ h => by cases h)
        have hbl2 : bs.length ≤ 400 := by omega
        simp -dsimp [h1, h2, h3, h4, h5, h6, ne_bits, sizeLine, cut_but, a53]
        have c16 : bs.length ≤ 16777215 := by omega
        have c17 : bs.length ≤ 16777216 := by omega
        refine ⟨c16, c17, ?_⟩
        have hbd : bOk bs.dropLast := fun b hm => hb b (List.dropLast_subset _ hm)
        have hbdl : bs.dropLast.length + 1 = n := by rw [List.length_dropLast]; omega
        have hdm : (bs.map Val.int).dropLast = bs.dropLast.map Val.int := List.map_dropLast.symm
        have hbad : ∀ b ∈ [Val.tup (List.map Val.int bs ++ [Val.int 0]), Val.tup (List.map Val.int bs).tail, Val.tup ((List.map Val.int bs).dropLast ++ [Val.int 2]), Val.tup ((List.map Val.int bs).dropLast ++ [Val.bl true]), Val.lst (List.map Val.int bs),
              Val.tup ((List.map Val.int bs).dropLast ++ [Val.str (Str.ofString "0")]), Val.tup []], Bad n b := fun b hm => by
          rcases List.mem_cons.mp hm with rfl | hm
          · exact .len _ (by simp; omega)
          rcases List.mem_cons.mp hm with rfl | hm
          · exact .len _ (by simp; omega)
          rcases List.mem_cons.mp hm with rfl | hm
          · rw [hdm]; exact .last _ _ hbd hbdl (.inl rfl)
          rcases List.mem_cons.mp hm with rfl | hm
          · rw [hdm]; exact .last _ _ hbd hbdl (.inr (.inl rfl))
          rcases List.mem_cons.mp hm with rfl | hm
          · exact .lst _
          rcases List.mem_cons.mp hm with rfl | hm
          · rw [hdm]; exact .last _ _ hbd hbdl (.inr (.inr rfl))
          rw [List.mem_singleton.mp hm]
          exact .len _ (by simp; omega)
        obtain ⟨b, eb, hm⟩ := atI_mem (l := [Val.tup (List.map Val.int bs ++ [Val.int 0]), Val.tup (List.map Val.int bs).tail, Val.tup ((List.map Val.int bs).dropLast ++ [Val.int 2]), Val.tup ((List.map Val.int bs).dropLast ++ [Val.bl true]), Val.lst (List.map Val.int bs),
              Val.tup ((List.map Val.int bs).dropLast ++ [Val.str (Str.ofString "0")]), Val.tup []]) (i := d53 % 7) (by omega) (by simp; omega)
        have hB := hbad b hm
        obtain ⟨f8, h8⟩ := ch fun S => refused_run (gs := gs) (S := S) hB hn2
        obtain ⟨f9, h9⟩ := ch fun S => refused_back (gs := gs) (S := S) hB hn2
        rw [eb]
        simp -dsimp [h8, h9, sizeLine]
        generalize (f9 (f8 (f6 (f4 (f5 (f4 (f3 (f2 (f1 S7))))))))) = S9
        obtain ⟨S10, e10, _, o10⟩ := init_ok (n := n) (gs := []) (gv := .lst []) (S := S9.alloc (.ins 3 [])) (k := S9.next) alloc_at (Nat.lt_succ_self _) hn hn2 (by simp) (fun _ h => by cases h) (fun _ _ => rfl) (fun _ _ _ => rfl)
        rw [e10, rn_ok]
        refine ⟨rfl, ?_⟩
        rw [giveUp_net o10, rn_ok]
        simp -dsimp [h7]
        rw [show runG [] bs = bs from rfl, eq_bits, rn_ok]
        rfl
    unfold F_law
    rw [fold_law, rn_runB]
    simp -dsimp [e1, a50, a51]
    refine ⟨fun hc => ?_, fun hc => ?_⟩
    · exact (rest 400 (by decide) (by decide)).imp (fun _ _ h => h.elim) (fun _ _ h => h) (fun _ _ h => h) (fun _ _ h => h) (fun _ _ _ _ h => h.elim)
    · have := rest (1 + d50 % 8).toNat (by omega) (by omega)
      rw [show (((1 + d50 % 8).toNat : Nat) : Int) = 1 + d50 % 8 by omega] at this
      exact this.imp (fun _ _ h => h.elim) (fun _ _ h => h) (fun _ _ h => h) (fun _ _ h => h) (fun _ _ _ _ h => h.elim)
  obtain ⟨v, S', e, rfl⟩ := this.get
  exact ⟨S', e⟩
end K46

namespace K46
open PySem PySem.Spec L2 PM
theorem all_mk {l : PySem.W.OpenLaw} {w : World} {K : PySem.W.Frag} {h : Heap} {mg : Str → Option Value} {fa : Addr} (X : K.In h) (G : h.Ns mainGlobals mg) (hfa : mg "law" = some (.ref fa))
    {a_law_draws a_law_gates ais_line ais_gate aNet___init__ aNet__checked ataken aNet_run aNet_back a_law_refused aNet_gates a_law_is_number a_law_taken alaw c_BackError c_BadNet c_BadBits c_Net : Addr}
    {od__law_draws an__law_draws : Option Addr} {sl__law_draws : Array (Option Value)} {oc__law_draws kV__law_draws dc__law_draws pm__law_draws cd__law_draws ct__law_draws : Value}
    {od__law_gates an__law_gates : Option Addr} {sl__law_gates : Array (Option Value)} {oc__law_gates kV__law_gates dc__law_gates pm__law_gates cd__law_gates ct__law_gates : Value}
    {od_is_line an_is_line : Option Addr} {sl_is_line : Array (Option Value)} {oc_is_line kV_is_line dc_is_line pm_is_line cd_is_line ct_is_line : Value}
    {od_is_gate an_is_gate : Option Addr} {sl_is_gate : Array (Option Value)} {oc_is_gate kV_is_gate dc_is_gate pm_is_gate cd_is_gate ct_is_gate : Value}
    {od_Net___init__ an_Net___init__ : Option Addr} {sl_Net___init__ : Array (Option Value)} {oc_Net___init__ kV_Net___init__ dc_Net___init__ pm_Net___init__ cd_Net___init__ ct_Net___init__ : Value}
    {od_Net__checked an_Net__checked : Option Addr} {sl_Net__checked : Array (Option Value)} {oc_Net__checked kV_Net__checked dc_Net__checked pm_Net__checked cd_Net__checked ct_Net__checked : Value}
    {od_taken an_taken : Option Addr} {sl_taken : Array (Option Value)} {oc_taken kV_taken dc_taken pm_taken cd_taken ct_taken : Value}
    {od_Net_run an_Net_run : Option Addr} {sl_Net_run : Array (Option Value)} {oc_Net_run kV_Net_run dc_Net_run pm_Net_run cd_Net_run ct_Net_run : Value}
    {od_Net_back an_Net_back : Option Addr} {sl_Net_back : Array (Option Value)} {oc_Net_back kV_Net_back dc_Net_back pm_Net_back cd_Net_back ct_Net_back : Value}
    {od__law_refused an__law_refused : Option Addr} {sl__law_refused : Array (Option Value)} {oc__law_refused kV__law_refused dc__law_refused pm__law_refused cd__law_refused ct__law_refused : Value}
    {od_Net_gates an_Net_gates : Option Addr} {sl_Net_gates : Array (Option Value)} {oc_Net_gates kV_Net_gates dc_Net_gates pm_Net_gates cd_Net_gates ct_Net_gates : Value}
    {od__law_is_number an__law_is_number : Option Addr} {sl__law_is_number : Array (Option Value)} {oc__law_is_number kV__law_is_number dc__law_is_number pm__law_is_number cd__law_is_number ct__law_is_number : Value}
    {od__law_taken an__law_taken : Option Addr} {sl__law_taken : Array (Option Value)} {oc__law_taken kV__law_taken dc__law_taken pm__law_taken cd__law_taken ct__law_taken : Value}
    {od_law an_law : Option Addr} {sl_law : Array (Option Value)} {oc_law kV_law dc_law pm_law cd_law ct_law : Value}
    {t_MOST_GATES : Tok}
    {t_MOST_LINES : Tok}
    (aC_Net : PySem.W.nsIn K mainGlobals "Net" = some (some (.ref c_Net)))
    (aC_BackError : PySem.W.nsIn K mainGlobals "BackError" = some (some (.ref c_BackError)))
    (aC_BadNet : PySem.W.nsIn K mainGlobals "BadNet" = some (some (.ref c_BadNet)))
    (aC_BadBits : PySem.W.nsIn K mainGlobals "BadBits" = some (some (.ref c_BadBits)))
    (a__law_draws : PySem.W.nsIn K mainGlobals "_law_draws" = some (some (.ref a_law_draws)))
    (l__law_draws : K.lookup a_law_draws = some ⟨oc__law_draws, od__law_draws, .func (PySem.W.fnOf "_law_draws" "_law_draws" (defArgs s__law_draws) (defBody s__law_draws) (defScope s__law_draws) .none kV__law_draws dc__law_draws pm__law_draws an__law_draws cd__law_draws ct__law_draws), sl__law_draws⟩)
    (c__law_draws : PySem.W.codeIn K cd__law_draws "_law_draws" = true)
    (k__law_draws : PySem.W.keepIn K (.ref a_law_draws) = true)
    (a__law_gates : PySem.W.nsIn K mainGlobals "_law_gates" = some (some (.ref a_law_gates)))
    (l__law_gates : K.lookup a_law_gates = some ⟨oc__law_gates, od__law_gates, .func (PySem.W.fnOf "_law_gates" "_law_gates" (defArgs s__law_gates) (defBody s__law_gates) (defScope s__law_gates) .none kV__law_gates dc__law_gates pm__law_gates an__law_gates cd__law_gates ct__law_gates), sl__law_gates⟩)
    (c__law_gates : PySem.W.codeIn K cd__law_gates "_law_gates" = true)
    (k__law_gates : PySem.W.keepIn K (.ref a_law_gates) = true)
    (a_is_line : PySem.W.nsIn K mainGlobals "is_line" = some (some (.ref ais_line)))
    (l_is_line : K.lookup ais_line = some ⟨oc_is_line, od_is_line, .func (PySem.W.fnOf "is_line" "is_line" (defArgs s_is_line) (defBody s_is_line) (defScope s_is_line) .none kV_is_line dc_is_line pm_is_line an_is_line cd_is_line ct_is_line), sl_is_line⟩)
    (c_is_line : PySem.W.codeIn K cd_is_line "is_line" = true)
    (k_is_line : PySem.W.keepIn K (.ref ais_line) = true)
    (a_is_gate : PySem.W.nsIn K mainGlobals "is_gate" = some (some (.ref ais_gate)))
    (l_is_gate : K.lookup ais_gate = some ⟨oc_is_gate, od_is_gate, .func (PySem.W.fnOf "is_gate" "is_gate" (defArgs s_is_gate) (defBody s_is_gate) (defScope s_is_gate) .none kV_is_gate dc_is_gate pm_is_gate an_is_gate cd_is_gate ct_is_gate), sl_is_gate⟩)
    (c_is_gate : PySem.W.codeIn K cd_is_gate "is_gate" = true)
    (k_is_gate : PySem.W.keepIn K (.ref ais_gate) = true)
    (a_Net___init__ : PySem.W.findIn K (.ref c_Net) "__init__" = some (some (.ref aNet___init__)))
    (i_Net___init__ : PySem.W.isFn K (.ref aNet___init__) = true)
    (l_Net___init__ : K.lookup aNet___init__ = some ⟨oc_Net___init__, od_Net___init__, .func (PySem.W.fnOf "__init__" "Net.__init__" (defArgs s_Net___init__) (defBody s_Net___init__) (defScope s_Net___init__) .none kV_Net___init__ dc_Net___init__ pm_Net___init__ an_Net___init__ cd_Net___init__ ct_Net___init__), sl_Net___init__⟩)
    (c_Net___init__ : PySem.W.codeIn K cd_Net___init__ "Net.__init__" = true)
    (k_Net___init__ : PySem.W.keepIn K (.ref aNet___init__) = true)
    (a_Net__checked : PySem.W.findIn K (.ref c_Net) "_checked" = some (some (.ref aNet__checked)))
    (i_Net__checked : PySem.W.isFn K (.ref aNet__checked) = true)
    (l_Net__checked : K.lookup aNet__checked = some ⟨oc_Net__checked, od_Net__checked, .func (PySem.W.fnOf "_checked" "Net._checked" (defArgs s_Net__checked) (defBody s_Net__checked) (defScope s_Net__checked) .none kV_Net__checked dc_Net__checked pm_Net__checked an_Net__checked cd_Net__checked ct_Net__checked), sl_Net__checked⟩)
    (c_Net__checked : PySem.W.codeIn K cd_Net__checked "Net._checked" = true)
    (k_Net__checked : PySem.W.keepIn K (.ref aNet__checked) = true)
    (a_taken : PySem.W.nsIn K mainGlobals "taken" = some (some (.ref ataken)))
    (l_taken : K.lookup ataken = some ⟨oc_taken, od_taken, .func (PySem.W.fnOf "taken" "taken" (defArgs s_taken) (defBody s_taken) (defScope s_taken) .none kV_taken dc_taken pm_taken an_taken cd_taken ct_taken), sl_taken⟩)
    (c_taken : PySem.W.codeIn K cd_taken "taken" = true)
    (k_taken : PySem.W.keepIn K (.ref ataken) = true)
    (a_Net_run : PySem.W.findIn K (.ref c_Net) "run" = some (some (.ref aNet_run)))
    (i_Net_run : PySem.W.isFn K (.ref aNet_run) = true)
    (l_Net_run : K.lookup aNet_run = some ⟨oc_Net_run, od_Net_run, .func (PySem.W.fnOf "run" "Net.run" (defArgs s_Net_run) (defBody s_Net_run) (defScope s_Net_run) .none kV_Net_run dc_Net_run pm_Net_run an_Net_run cd_Net_run ct_Net_run), sl_Net_run⟩)
    (c_Net_run : PySem.W.codeIn K cd_Net_run "Net.run" = true)
    (k_Net_run : PySem.W.keepIn K (.ref aNet_run) = true)
    (a_Net_back : PySem.W.findIn K (.ref c_Net) "back" = some (some (.ref aNet_back)))
    (i_Net_back : PySem.W.isFn K (.ref aNet_back) = true)
    (l_Net_back : K.lookup aNet_back = some ⟨oc_Net_back, od_Net_back, .func (PySem.W.fnOf "back" "Net.back" (defArgs s_Net_back) (defBody s_Net_back) (defScope s_Net_back) .none kV_Net_back dc_Net_back pm_Net_back an_Net_back cd_Net_back ct_Net_back), sl_Net_back⟩)
    (c_Net_back : PySem.W.codeIn K cd_Net_back "Net.back" = true)
    (k_Net_back : PySem.W.keepIn K (.ref aNet_back) = true)
    (a__law_refused : PySem.W.nsIn K mainGlobals "_law_refused" = some (some (.ref a_law_refused)))
    (l__law_refused : K.lookup a_law_refused = some ⟨oc__law_refused, od__law_refused, .func (PySem.W.fnOf "_law_refused" "_law_refused" (defArgs s__law_refused) (defBody s__law_refused) (defScope s__law_refused) .none kV__law_refused dc__law_refused pm__law_refused an__law_refused cd__law_refused ct__law_refused), sl__law_refused⟩)
    (c__law_refused : PySem.W.codeIn K cd__law_refused "_law_refused" = true)
    (k__law_refused : PySem.W.keepIn K (.ref a_law_refused) = true)
    (a_Net_gates : PySem.W.findIn K (.ref c_Net) "gates" = some (some (.ref aNet_gates)))
    (i_Net_gates : PySem.W.isFn K (.ref aNet_gates) = true)
    (l_Net_gates : K.lookup aNet_gates = some ⟨oc_Net_gates, od_Net_gates, .func (PySem.W.fnOf "gates" "Net.gates" (defArgs s_Net_gates) (defBody s_Net_gates) (defScope s_Net_gates) .none kV_Net_gates dc_Net_gates pm_Net_gates an_Net_gates cd_Net_gates ct_Net_gates), sl_Net_gates⟩)
    (c_Net_gates : PySem.W.codeIn K cd_Net_gates "Net.gates" = true)
    (k_Net_gates : PySem.W.keepIn K (.ref aNet_gates) = true)
    (a__law_is_number : PySem.W.nsIn K mainGlobals "_law_is_number" = some (some (.ref a_law_is_number)))
    (l__law_is_number : K.lookup a_law_is_number = some ⟨oc__law_is_number, od__law_is_number, .func (PySem.W.fnOf "_law_is_number" "_law_is_number" (defArgs s__law_is_number) (defBody s__law_is_number) (defScope s__law_is_number) .none kV__law_is_number dc__law_is_number pm__law_is_number an__law_is_number cd__law_is_number ct__law_is_number), sl__law_is_number⟩)
    (c__law_is_number : PySem.W.codeIn K cd__law_is_number "_law_is_number" = true)
    (k__law_is_number : PySem.W.keepIn K (.ref a_law_is_number) = true)
    (a__law_taken : PySem.W.nsIn K mainGlobals "_law_taken" = some (some (.ref a_law_taken)))
    (l__law_taken : K.lookup a_law_taken = some ⟨oc__law_taken, od__law_taken, .func (PySem.W.fnOf "_law_taken" "_law_taken" (defArgs s__law_taken) (defBody s__law_taken) (defScope s__law_taken) .none kV__law_taken dc__law_taken pm__law_taken an__law_taken cd__law_taken ct__law_taken), sl__law_taken⟩)
    (c__law_taken : PySem.W.codeIn K cd__law_taken "_law_taken" = true)
    (k__law_taken : PySem.W.keepIn K (.ref a_law_taken) = true)
    (a_law : PySem.W.nsIn K mainGlobals "law" = some (some (.ref alaw)))
    (l_law : K.lookup alaw = some ⟨oc_law, od_law, .func (PySem.W.fnOf "law" "law" (defArgs s_law) (defBody s_law) (defScope s_law) .none kV_law dc_law pm_law an_law cd_law ct_law), sl_law⟩)
    (c_law : PySem.W.codeIn K cd_law "law" = true)
    (k_law : PySem.W.keepIn K (.ref alaw) = true)
    (pg_Net : PySem.W.plainGet K c_Net Str.empty = true)
    (hd_Net : PySem.W.hasDictIn K c_Net = true)
    (po_Net : PySem.W.plainOver K c_Net = true)
    (sa_Net : PySem.W.findIn K (.ref c_Net) "__setattr__" = some (some (.builtin "object.__setattr__")))
    (mk_Net : PySem.W.makesIn K c_Net = true)
    (kc_Net : PySem.W.keepIn K (.ref c_Net) = true)
    (n_Net_0 : PySem.W.findIn K (.ref c_Net) "lines" = some none)
    (n_Net_1 : PySem.W.findIn K (.ref c_Net) "_gates" = some none)
    (q_BackError : PySem.W.excIn K c_BackError [.type "ValueError", .type "Exception", .type "BaseException", .type "object"] "ValueError.__new__" = true)
    (kx_BackError : PySem.W.keepIn K (.ref c_BackError) = true)
    (be_BackError : PySem.W.subIn K (.ref c_BackError) (.type "BaseException") = some true)
    (ty_BackError : PySem.W.typeIn K (.ref c_BackError) = some (.type "type"))
    (q_BadNet : PySem.W.excIn K c_BadNet [.type "ValueError", .type "Exception", .type "BaseException", .type "object"] "ValueError.__new__" = true)
    (kx_BadNet : PySem.W.keepIn K (.ref c_BadNet) = true)
    (be_BadNet : PySem.W.subIn K (.ref c_BadNet) (.type "BaseException") = some true)
    (ty_BadNet : PySem.W.typeIn K (.ref c_BadNet) = some (.type "type"))
    (q_BadBits : PySem.W.excIn K c_BadBits [.type "ValueError", .type "Exception", .type "BaseException", .type "object"] "ValueError.__new__" = true)
    (kx_BadBits : PySem.W.keepIn K (.ref c_BadBits) = true)
    (be_BadBits : PySem.W.subIn K (.ref c_BadBits) (.type "BaseException") = some true)
    (ty_BadBits : PySem.W.typeIn K (.ref c_BadBits) = some (.type "type"))
    (x_BadBits_BackError : PySem.W.exmOne K (.ref c_BadBits) (.ref c_BackError) = some true)
    (ehg_BadBits : PySem.W.findIn K (.ref c_BadBits) "__getattribute__" = some (some (.builtin "BaseException.__getattribute__")))
    (ehk_BadBits : PySem.W.findIn K (.ref c_BadBits) "__getattr__" = some none)
    (ehs_BadBits : PySem.W.subIn K (.ref c_BadBits) (.type "BaseException") = some true)
    (ehd_BadBits : PySem.W.hasDictIn K c_BadBits = true)
    (eha_BadBits : PySem.W.findIn K (.ref c_BadBits) "__class__" = some (some (.builtin "object.__class__")))
    (ehm_BadBits : PySem.W.mroIn K c_BadBits (.type "object") = some true)
    (ehn : PySem.W.specialIn K (.builtin "object.__class__") "__get__" = some (some (.builtin "getset_descriptor.__get__")))
    (eht : PySem.W.takesIn K (.builtin "object.__class__") = some true)
    (ki_BadBits_BadBits : PySem.W.kitOne K (.ref c_BadBits) (.ref c_BadBits) = some true)
    (ki_BadBits_BadNet : PySem.W.kitOne K (.ref c_BadBits) (.ref c_BadNet) = some false)
    (ki_BadBits_ValueError : PySem.W.kitOne K (.ref c_BadBits) (.type "ValueError") = some true)
    (z_ValueError : PySem.W.nsIn K mainGlobals "ValueError" = some none)
    (z_abs : PySem.W.nsIn K mainGlobals "abs" = some none)
    (z_all : PySem.W.nsIn K mainGlobals "all" = some none)
    (z_bool : PySem.W.nsIn K mainGlobals "bool" = some none)
    (z_int : PySem.W.nsIn K mainGlobals "int" = some none)
    (z_isinstance : PySem.W.nsIn K mainGlobals "isinstance" = some none)
    (z_len : PySem.W.nsIn K mainGlobals "len" = some none)
    (z_list : PySem.W.nsIn K mainGlobals "list" = some none)
    (z_range : PySem.W.nsIn K mainGlobals "range" = some none)
    (z_reversed : PySem.W.nsIn K mainGlobals "reversed" = some none)
    (z_sorted : PySem.W.nsIn K mainGlobals "sorted" = some none)
    (z_tuple : PySem.W.nsIn K mainGlobals "tuple" = some none)
    (n_MOST_GATES : PySem.W.nsIn K mainGlobals "MOST_GATES" = some (some (.int 100000 t_MOST_GATES)))
    (n_MOST_LINES : PySem.W.nsIn K mainGlobals "MOST_LINES" = some (some (.int 400 t_MOST_LINES)))
    (hlaw : ∀ ns : List Int, ns.length ≤ 63 → ∃ S', F_law [.fz (ns.map Val.int)] S0 = .ok (.bl true) S') :
    ∃ fd : FuncData, (∀ (s : Shared) (v : Value), BindsTo s fd ⟨[v], []⟩ [("_law_script", v)]) ∧ ∀ base : Heap, K.In base → base.Ns mainGlobals mg → FnOk l.prog w K mg base (L2.CX l.prog w) 5 fa fd ["_law_script"] (spLaw K) := by
  have e := hfa.symm.trans (PySem.W.mg_of X G a_law)
  cases e
  let A : Ad := { _law_draws := a_law_draws, fd__law_draws := PySem.W.fnOf "_law_draws" "_law_draws" (defArgs s__law_draws) (defBody s__law_draws) (defScope s__law_draws) .none kV__law_draws dc__law_draws pm__law_draws an__law_draws cd__law_draws ct__law_draws, _law_gates := a_law_gates, fd__law_gates := PySem.W.fnOf "_law_gates" "_law_gates" (defArgs s__law_gates) (defBody s__law_gates) (defScope s__law_gates) .none kV__law_gates dc__law_gates pm__law_gates an__law_gates cd__law_gates ct__law_gates, is_line := ais_line, fd_is_line := PySem.W.fnOf "is_line" "is_line" (defArgs s_is_line) (defBody s_is_line) (defScope s_is_line) .none kV_is_line dc_is_line pm_is_line an_is_line cd_is_line ct_is_line, is_gate := ais_gate, fd_is_gate := PySem.W.fnOf "is_gate" "is_gate" (defArgs s_is_gate) (defBody s_is_gate) (defScope s_is_gate) .none kV_is_gate dc_is_gate pm_is_gate an_is_gate cd_is_gate ct_is_gate, Net___init__ := aNet___init__, fd_Net___init__ := PySem.W.fnOf "__init__" "Net.__init__" (defArgs s_Net___init__) (defBody s_Net___init__) (defScope s_Net___init__) .none kV_Net___init__ dc_Net___init__ pm_Net___init__ an_Net___init__ cd_Net___init__ ct_Net___init__, Net__checked := aNet__checked, fd_Net__checked := PySem.W.fnOf "_checked" "Net._checked" (defArgs s_Net__checked) (defBody s_Net__checked) (defScope s_Net__checked) .none kV_Net__checked dc_Net__checked pm_Net__checked an_Net__checked cd_Net__checked ct_Net__checked, taken := ataken, fd_taken := PySem.W.fnOf "taken" "taken" (defArgs s_taken) (defBody s_taken) (defScope s_taken) .none kV_taken dc_taken pm_taken an_taken cd_taken ct_taken, Net_run := aNet_run, fd_Net_run := PySem.W.fnOf "run" "Net.run" (defArgs s_Net_run) (defBody s_Net_run) (defScope s_Net_run) .none kV_Net_run dc_Net_run pm_Net_run an_Net_run cd_Net_run ct_Net_run, Net_back := aNet_back, fd_Net_back := PySem.W.fnOf "back" "Net.back" (defArgs s_Net_back) (defBody s_Net_back) (defScope s_Net_back) .none kV_Net_back dc_Net_back pm_Net_back an_Net_back cd_Net_back ct_Net_back, _law_refused := a_law_refused, fd__law_refused := PySem.W.fnOf "_law_refused" "_law_refused" (defArgs s__law_refused) (defBody s__law_refused) (defScope s__law_refused) .none kV__law_refused dc__law_refused pm__law_refused an__law_refused cd__law_refused ct__law_refused, Net_gates := aNet_gates, fd_Net_gates := PySem.W.fnOf "gates" "Net.gates" (defArgs s_Net_gates) (defBody s_Net_gates) (defScope s_Net_gates) .none kV_Net_gates dc_Net_gates pm_Net_gates an_Net_gates cd_Net_gates ct_Net_gates, _law_is_number := a_law_is_number, fd__law_is_number := PySem.W.fnOf "_law_is_number" "_law_is_number" (defArgs s__law_is_number) (defBody s__law_is_number) (defScope s__law_is_number) .none kV__law_is_number dc__law_is_number pm__law_is_number an__law_is_number cd__law_is_number ct__law_is_number, _law_taken := a_law_taken, fd__law_taken := PySem.W.fnOf "_law_taken" "_law_taken" (defArgs s__law_taken) (defBody s__law_taken) (defScope s__law_taken) .none kV__law_taken dc__law_taken pm__law_taken an__law_taken cd__law_taken ct__law_taken, law := fa, fd_law := PySem.W.fnOf "law" "law" (defArgs s_law) (defBody s_law) (defScope s_law) .none kV_law dc_law pm_law an_law cd_law ct_law, c_BackError := c_BackError, c_BadNet := c_BadNet, c_BadBits := c_BadBits, c_Net := c_Net }
  have Z : Tx K mg A := {
    F__law_draws := fun_mk (st := s__law_draws) l__law_draws c__law_draws k__law_draws,
    b__law_draws := (fun_mk (st := s__law_draws) l__law_draws c__law_draws k__law_draws).binds (ps := ["_law_script", "_law_many"]) fun _ _ _ _ _ _ us hl => match us, hl with | [_, _], _ => rfl,
    g__law_draws := PySem.W.mg_of X G a__law_draws,
    F__law_gates := fun_mk (st := s__law_gates) l__law_gates c__law_gates k__law_gates,
    b__law_gates := (fun_mk (st := s__law_gates) l__law_gates c__law_gates k__law_gates).binds (ps := ["_law_draws_here", "_law_at", "_law_many", "_law_lines"]) fun _ _ _ _ _ _ us hl => match us, hl with | [_, _, _, _], _ => rfl,
    g__law_gates := PySem.W.mg_of X G a__law_gates,
    F_is_line := fun_mk (st := s_is_line) l_is_line c_is_line k_is_line,
    b_is_line := (fun_mk (st := s_is_line) l_is_line c_is_line k_is_line).binds (ps := ["value", "lines"]) fun _ _ _ _ _ _ us hl => match us, hl with | [_, _], _ => rfl,
    g_is_line := PySem.W.mg_of X G a_is_line,
    F_is_gate := fun_mk (st := s_is_gate) l_is_gate c_is_gate k_is_gate,
    b_is_gate := (fun_mk (st := s_is_gate) l_is_gate c_is_gate k_is_gate).binds (ps := ["gate", "lines"]) fun _ _ _ _ _ _ us hl => match us, hl with | [_, _], _ => rfl,
    g_is_gate := PySem.W.mg_of X G a_is_gate,
    F_Net___init__ := fun_mk (st := s_Net___init__) l_Net___init__ c_Net___init__ k_Net___init__,
    b_Net___init__ := (fun_mk (st := s_Net___init__) l_Net___init__ c_Net___init__ k_Net___init__).binds (ps := ["self", "lines", "gates"]) fun _ _ _ _ _ _ us hl => match us, hl with | [_, _, _], _ => rfl,
    F_Net__checked := fun_mk (st := s_Net__checked) l_Net__checked c_Net__checked k_Net__checked,
    b_Net__checked := (fun_mk (st := s_Net__checked) l_Net__checked c_Net__checked k_Net__checked).binds (ps := ["self", "bits"]) fun _ _ _ _ _ _ us hl => match us, hl with | [_, _], _ => rfl,
    m_Net__checked := ⟨a_Net__checked, i_Net__checked, k_Net__checked⟩,
    F_taken := fun_mk (st := s_taken) l_taken c_taken k_taken,
    b_taken := (fun_mk (st := s_taken) l_taken c_taken k_taken).binds (ps := ["gate", "bits"]) fun _ _ _ _ _ _ us hl => match us, hl with | [_, _], _ => rfl,
    g_taken := PySem.W.mg_of X G a_taken,
    F_Net_run := fun_mk (st := s_Net_run) l_Net_run c_Net_run k_Net_run,
    b_Net_run := (fun_mk (st := s_Net_run) l_Net_run c_Net_run k_Net_run).binds (ps := ["self", "bits"]) fun _ _ _ _ _ _ us hl => match us, hl with | [_, _], _ => rfl,
    m_Net_run := ⟨a_Net_run, i_Net_run, k_Net_run⟩,
    F_Net_back := fun_mk (st := s_Net_back) l_Net_back c_Net_back k_Net_back,
    b_Net_back := (fun_mk (st := s_Net_back) l_Net_back c_Net_back k_Net_back).binds (ps := ["self", "bits"]) fun _ _ _ _ _ _ us hl => match us, hl with | [_, _], _ => rfl,
    m_Net_back := ⟨a_Net_back, i_Net_back, k_Net_back⟩,
    F__law_refused := fun_mk (st := s__law_refused) l__law_refused c__law_refused k__law_refused,
    b__law_refused := (fun_mk (st := s__law_refused) l__law_refused c__law_refused k__law_refused).binds (ps := ["_law_net", "_law_bits", "_law_word"]) fun _ _ _ _ _ _ us hl => match us, hl with | [_, _, _], _ => rfl,
    g__law_refused := PySem.W.mg_of X G a__law_refused,
    F_Net_gates := fun_mk (st := s_Net_gates) l_Net_gates c_Net_gates k_Net_gates,
    b_Net_gates := (fun_mk (st := s_Net_gates) l_Net_gates c_Net_gates k_Net_gates).binds (ps := ["self"]) fun _ _ _ _ _ _ us hl => match us, hl with | [_], _ => rfl,
    m_Net_gates := ⟨a_Net_gates, i_Net_gates, k_Net_gates⟩,
    F__law_is_number := fun_mk (st := s__law_is_number) l__law_is_number c__law_is_number k__law_is_number,
    b__law_is_number := (fun_mk (st := s__law_is_number) l__law_is_number c__law_is_number k__law_is_number).binds (ps := ["_law_value"]) fun _ _ _ _ _ _ us hl => match us, hl with | [_], _ => rfl,
    g__law_is_number := PySem.W.mg_of X G a__law_is_number,
    F__law_taken := fun_mk (st := s__law_taken) l__law_taken c__law_taken k__law_taken,
    b__law_taken := (fun_mk (st := s__law_taken) l__law_taken c__law_taken k__law_taken).binds (ps := ["_law_gates_here", "_law_bits"]) fun _ _ _ _ _ _ us hl => match us, hl with | [_, _], _ => rfl,
    g__law_taken := PySem.W.mg_of X G a__law_taken,
    F_law := fun_mk (st := s_law) l_law c_law k_law,
    b_law := (fun_mk (st := s_law) l_law c_law k_law).binds (ps := ["_law_script"]) fun _ _ _ _ _ _ us hl => match us, hl with | [_], _ => rfl,
    g_law := PySem.W.mg_of X G a_law,
    O_Net := ⟨rfl, ⟨pg_Net, hd_Net, po_Net, sa_Net⟩, (by show (["lines", "_gates"] : List Str).Nodup; decide +kernel), (all_c n_Net_0 (all_c n_Net_1 all_n)), (by show (["lines", "_gates"] : List Str).length < 1000; decide)⟩,
    g_Net := PySem.W.mg_of X G aC_Net,
    M_Net := ⟨mk_Net, a_Net___init__, i_Net___init__, kc_Net⟩,
    E_BackError := ⟨rfl, rfl, PySem.W.mg_of X G aC_BackError, q_BackError, kx_BackError, be_BackError, ty_BackError⟩,
    E_BadNet := ⟨rfl, rfl, PySem.W.mg_of X G aC_BadNet, q_BadNet, kx_BadNet, be_BadNet, ty_BadNet⟩,
    E_BadBits := ⟨rfl, rfl, PySem.W.mg_of X G aC_BadBits, q_BadBits, kx_BadBits, be_BadBits, ty_BadBits⟩,
    x_BadBits_BackError := x_BadBits_BackError,
    xc_BadBits := ⟨ehg_BadBits, ehk_BadBits, ehs_BadBits, ehd_BadBits, eha_BadBits, ehn, eht, ehm_BadBits⟩,
    ki_BadBits_BadBits := ki_BadBits_BadBits,
    ki_BadBits_BadNet := ki_BadBits_BadNet,
    ki_BadBits_ValueError := ki_BadBits_ValueError,
    z_ValueError := PySem.W.mg_none_of X G z_ValueError,
    z_abs := PySem.W.mg_none_of X G z_abs,
    z_all := PySem.W.mg_none_of X G z_all,
    z_bool := PySem.W.mg_none_of X G z_bool,
    z_int := PySem.W.mg_none_of X G z_int,
    z_isinstance := PySem.W.mg_none_of X G z_isinstance,
    z_len := PySem.W.mg_none_of X G z_len,
    z_list := PySem.W.mg_none_of X G z_list,
    z_range := PySem.W.mg_none_of X G z_range,
    z_reversed := PySem.W.mg_none_of X G z_reversed,
    z_sorted := PySem.W.mg_none_of X G z_sorted,
    z_tuple := PySem.W.mg_none_of X G z_tuple,
    k_MOST_GATES := ⟨t_MOST_GATES, PySem.W.mg_of X G n_MOST_GATES⟩,
    k_MOST_LINES := ⟨t_MOST_LINES, PySem.W.mg_of X G n_MOST_LINES⟩ }
  exact ⟨A.fd_law, fun s v => .of_eq rfl, fun base _ _ => law_end (ok_law (P := l.prog) (w := w) (base := base) Z) hlaw⟩

end K46
open PySem PySem.W PyProof.Rows
set_option maxHeartbeats 0 in
theorem PySem.Challenge.cw_backstair_k46_nets_run_both_ways_holds : PySem.Challenge.rw_backstair_k46_nets_run_both_ways.Holds := by
  w_on; o_law; k_head; (case hw => w_witness2)
  k_fill
  refine L2.walk_of (l := PySem.Challenge.rw_backstair_k46_nets_run_both_ways) (n := 63) (k := 5) (x := "_law_script") (CX := fun w => L2.CX PySem.Challenge.rw_backstair_k46_nets_run_both_ways.prog w) (sp := fun w => PM.spLaw _) rfl (by decide) rfl ⟨rfl, by decide, by decide⟩ (fun w h Y => PySem.W.kIn_of Y) ?F (fun _ _ a ns hl _ hS => ⟨a, ns, rfl, hS, hl, fun _ => rfl⟩) (fun _ _ _ _ _ h => PM.cx_false h)
  case F =>
    intro w mg fa h KX G hmg
    refine' K46.all_mk KX G hmg ?aC_Net ?aC_BackError ?aC_BadNet ?aC_BadBits ?a__law_draws ?l__law_draws ?c__law_draws ?k__law_draws ?a__law_gates ?l__law_gates ?c__law_gates ?k__law_gates ?a_is_line ?l_is_line ?c_is_line ?k_is_line ?a_is_gate ?l_is_gate ?c_is_gate ?k_is_gate ?a_Net___init__ ?i_Net___init__ ?l_Net___init__ ?c_Net___init__ ?k_Net___init__ ?a_Net__checked ?i_Net__checked ?l_Net__checked ?c_Net__checked ?k_Net__checked ?a_taken ?l_taken ?c_taken ?k_taken ?a_Net_run ?i_Net_run ?l_Net_run ?c_Net_run ?k_Net_run ?a_Net_back ?i_Net_back ?l_Net_back ?c_Net_back ?k_Net_back ?a__law_refused ?l__law_refused ?c__law_refused ?k__law_refused ?a_Net_gates ?i_Net_gates ?l_Net_gates ?c_Net_gates ?k_Net_gates ?a__law_is_number ?l__law_is_number ?c__law_is_number ?k__law_is_number ?a__law_taken ?l__law_taken ?c__law_taken ?k__law_taken ?a_law ?l_law ?c_law ?k_law ?pg_Net ?hd_Net ?po_Net ?sa_Net ?mk_Net ?kc_Net ?n_Net_0 ?n_Net_1 ?q_BackError ?kx_BackError ?be_BackError ?ty_BackError ?q_BadNet ?kx_BadNet ?be_BadNet ?ty_BadNet ?q_BadBits ?kx_BadBits ?be_BadBits ?ty_BadBits ?x_BadBits_BackError ?ehg_BadBits ?ehk_BadBits ?ehs_BadBits ?ehd_BadBits ?eha_BadBits ?ehm_BadBits ?ehn ?eht ?ki_BadBits_BadBits ?ki_BadBits_BadNet ?ki_BadBits_ValueError ?z_ValueError ?z_abs ?z_all ?z_bool ?z_int ?z_isinstance ?z_len ?z_list ?z_range ?z_reversed ?z_sorted ?z_tuple ?n_MOST_GATES ?n_MOST_LINES K46.law_holds
    (case aC_Net => k_is)
    (case aC_BackError => k_is)
    (case aC_BadNet => k_is)
    (case aC_BadBits => k_is)
    (case a__law_draws => k_is)
    (case l__law_draws => k_is)
    (case c__law_draws => k_is)
    (case k__law_draws => k_is)
    (case a__law_gates => k_is)
    (case l__law_gates => k_is)
    (case c__law_gates => k_is)
    (case k__law_gates => k_is)
    (case a_is_line => k_is)
    (case l_is_line => k_is)
    (case c_is_line => k_is)
    (case k_is_line => k_is)
    (case a_is_gate => k_is)
    (case l_is_gate => k_is)
    (case c_is_gate => k_is)
    (case k_is_gate => k_is)
    (case a_Net___init__ => k_is)
    (case i_Net___init__ => k_is)
    (case l_Net___init__ => k_is)
    (case c_Net___init__ => k_is)
    (case k_Net___init__ => k_is)
    (case a_Net__checked => k_is)
    (case i_Net__checked => k_is)
    (case l_Net__checked => k_is)
    (case c_Net__checked => k_is)
    (case k_Net__checked => k_is)
    (case a_taken => k_is)
    (case l_taken => k_is)
    (case c_taken => k_is)
    (case k_taken => k_is)
    (case a_Net_run => k_is)
    (case i_Net_run => k_is)
    (case l_Net_run => k_is)
    (case c_Net_run => k_is)
    (case k_Net_run => k_is)
    (case a_Net_back => k_is)
    (case i_Net_back => k_is)
    (case l_Net_back => k_is)
    (case c_Net_back => k_is)
    (case k_Net_back => k_is)
    (case a__law_refused => k_is)
    (case l__law_refused => k_is)
    (case c__law_refused => k_is)
    (case k__law_refused => k_is)
    (case a_Net_gates => k_is)
    (case i_Net_gates => k_is)
    (case l_Net_gates => k_is)
    (case c_Net_gates => k_is)
    (case k_Net_gates => k_is)
    (case a__law_is_number => k_is)
    (case l__law_is_number => k_is)
    (case c__law_is_number => k_is)
    (case k__law_is_number => k_is)
    (case a__law_taken => k_is)
    (case l__law_taken => k_is)
    (case c__law_taken => k_is)
    (case k__law_taken => k_is)
    (case a_law => k_is)
    (case l_law => k_is)
    (case c_law => k_is)
    (case k_law => k_is)
    (case pg_Net => k_is)
    (case hd_Net => k_is)
    (case po_Net => k_is)
    (case sa_Net => k_is)
    (case mk_Net => k_is)
    (case kc_Net => k_is)
    (case n_Net_0 => k_is)
    (case n_Net_1 => k_is)
    (case q_BackError => first | k_is | k_exc)
    (case kx_BackError => k_is)
    (case be_BackError => k_is)
    (case ty_BackError => k_is)
    (case q_BadNet => first | k_is | k_exc)
    (case kx_BadNet => k_is)
    (case be_BadNet => k_is)
    (case ty_BadNet => k_is)
    (case q_BadBits => first | k_is | k_exc)
    (case kx_BadBits => k_is)
    (case be_BadBits => k_is)
    (case ty_BadBits => k_is)
    (case x_BadBits_BackError => kts_exm)
    (case ehg_BadBits => k_is)
    (case ehk_BadBits => k_is)
    (case ehs_BadBits => k_is)
    (case ehd_BadBits => k_is)
    (case eha_BadBits => k_is)
    (case ehm_BadBits => k_is)
    (case ehn => k_is)
    (case eht => k_is)
    (case ki_BadBits_BadBits => kit_is)
    (case ki_BadBits_BadNet => kit_is)
    (case ki_BadBits_ValueError => kit_is)
    (case z_ValueError => k_is)
    (case z_abs => k_is)
    (case z_all => k_is)
    (case z_bool => k_is)
    (case z_int => k_is)
    (case z_isinstance => k_is)
    (case z_len => k_is)
    (case z_list => k_is)
    (case z_range => k_is)
    (case z_reversed => k_is)
    (case z_sorted => k_is)
    (case z_tuple => k_is)
    (case n_MOST_GATES => k_is)
    (case n_MOST_LINES => k_is)
