import PyProof.Rows.All
import Wide.All
import OpenK.AllK
import Wide.FinOn
import HandS.ForMost
import HandS.Exc
import HandS.TupAny
import HandS.Style
import KE.KEqNest
import PyProof.NeKinds
import HandS.More
import HandS.Flow
import HandS.RaiseMore
import HandS.IsInst
import HandS.Small
import HandS.Defaults
import HandS.Property
import HandS.HeadWalk
import HandS.HeadEnd
import HandS.HeadHook2
import HandS.Codes
import HandS.Head0
import HandS.Head1
import HandS.Head2
import PySem.Challenge.RW_duedeeds_k02_words_and_numbers
set_option Elab.async false
set_option linter.all false
set_option maxRecDepth 100000
set_option maxHeartbeats 4000000
/-! En0: data, mobile objects, the ghost heap, how they lie in the layer's heap. -/
namespace En
open PySem PySem.Spec PyProof.Rows L2

/-- plain data, and names of what is stored -/
inductive Dat where
  | non | bl (b : Bool) | int (i : Int) | str (x : Str)
  | tup (xs : List Dat) | lst (xs : List Dat) | dct (kvs : List (Key × Dat))
  | obj (c : Nat) (fs : List (Str × Dat)) | err (c : Nat) (fs : List (Str × Dat))
  | ref (n : Nat) | fn (f : Nat) | cls (c : Nat) | ty (n : String)
  /- a list that is not ours (the script) -/
  | scr (xs : List Dat)
/-- what may change: an own object of one name, or one of the store -/
inductive Mob where
  | lst (xs : List Dat) | dct (kvs : List (Key × Dat)) | ins (c : Nat) (fs : List (Str × Dat))
def Mob.dat : Mob → Dat
  | .lst xs => .lst xs
  | .dct k => .dct k
  | .ins c fs => .obj c fs
inductive Slt where
  | no | val (d : Dat) | own (o : Mob)
/-- a result: data; an own object that no name has; the own object of a name -/
inductive Rv where
  | val (d : Dat) | own (o : Mob) | bor (i : Nat)
structure Stt where
  env : List Slt
  sto : List Mob
inductive Out (α : Type) where
  | ok (a : α) (s : Stt) | exc (x : Dat) (s : Stt) | stuck
abbrev Ac (α : Type) := Stt → Out α
def Ac.ret {α : Type} (a : α) : Ac α := fun s => .ok a s
def Ac.stk {α : Type} : Ac α := fun _ => .stuck
def Out.bind {α β : Type} (o : Out α) (f : α → Ac β) : Out β := match o with
  | .ok a s => f a s
  | .exc x s => .exc x s
  | .stuck => .stuck
def Ac.bind {α β : Type} (m : Ac α) (f : α → Ac β) : Ac β := fun s => (m s).bind f
instance : Monad Ac where
  pure := Ac.ret
  bind := Ac.bind
def Ac.get : Ac Stt := fun s => .ok s s
def Ac.opt {α : Type} : Option α → Ac α
  | some a => Ac.ret a
  | none => Ac.stk

/-! ### the world: what the top has left; the ghost: what is frozen, where the store's objects lie -/
structure Wd where
  K : PySem.W.Frag
  ca : Nat → Addr
  fa : Nat → Addr
structure Gh where
  F : Hp
  ρ : Nat → Addr
  n : Nat
structure Gh.Le (g g' : Gh) : Prop where
  F : ∀ b o, g.F b = some o → g'.F b = some o
  n : g.n ≤ g'.n
  ρ : ∀ k, k < g.n → g'.ρ k = g.ρ k
theorem Gh.Le.refl (g : Gh) : g.Le g := ⟨fun _ _ h => h, Nat.le_refl _, fun _ _ => rfl⟩
theorem Gh.Le.trans {a b c : Gh} (h : a.Le b) (h' : b.Le c) : a.Le c :=
  ⟨fun _ _ e => h'.F _ _ (h.F _ _ e), Nat.le_trans h.n h'.n, fun k hk => (h'.ρ k (Nat.lt_of_lt_of_le hk h.n)).trans (h.ρ k hk)⟩

mutual
inductive R (W : Wd) (g : Gh) : Dat → V → Prop
  | non : R W g .non .non
  | bl (b : Bool) : R W g (.bl b) (.bl b)
  | int (i : Int) : R W g (.int i) (.int i)
  | str (x : Str) : R W g (.str x) (.str x)
  | tup {a : Addr} {xs : List V} {ds : List Dat} : SqT W.K g.F a xs → Rs W g ds xs → R W g (.tup ds) (.ref a)
  | lst {a : Addr} {xs : List V} {ds : List Dat} : g.F a = some (.lst xs) → Rs W g ds xs → R W g (.lst ds) (.ref a)
  | dct {a : Addr} {xs : List (Key × V)} {ds : List (Key × Dat)} : g.F a = some (.dK xs) → Rk W g ds xs → R W g (.dct ds) (.ref a)
  | obj {a dx : Addr} {c : Nat} {fs : List (Str × V)} {ds : List (Str × Dat)} : g.F a = some (.ins (W.ca c) dx fs) → Rf W g ds fs → R W g (.obj c ds) (.ref a)
  | ref {n : Nat} : n < g.n → R W g (.ref n) (.ref (g.ρ n))
  | fn (f : Nat) : R W g (.fn f) (.ref (W.fa f))
  | cls (c : Nat) : R W g (.cls c) (.ref (W.ca c))
  | ty (n : String) : R W g (.ty n) (.ty n)
  | scr {a : Addr} {xs : List V} {ds : List Dat} : SqL W.K g.F a xs → Rs W g ds xs → R W g (.scr ds) (.ref a)
inductive Rs (W : Wd) (g : Gh) : List Dat → List V → Prop
  | nil : Rs W g [] []
  | cons {d : Dat} {v : V} {ds : List Dat} {vs : List V} : R W g d v → Rs W g ds vs → Rs W g (d :: ds) (v :: vs)
inductive Rk (W : Wd) (g : Gh) : List (Key × Dat) → List (Key × V) → Prop
  | nil : Rk W g [] []
  | cons {k : Key} {d : Dat} {v : V} {ds : List (Key × Dat)} {vs : List (Key × V)} : R W g d v → Rk W g ds vs → Rk W g ((k, d) :: ds) ((k, v) :: vs)
inductive Rf (W : Wd) (g : Gh) : List (Str × Dat) → List (Str × V) → Prop
  | nil : Rf W g [] []
  | cons {k : Str} {d : Dat} {v : V} {ds : List (Str × Dat)} {vs : List (Str × V)} : R W g d v → Rf W g ds vs → Rf W g ((k, d) :: ds) ((k, v) :: vs)
end
theorem sqT_mono {K : PySem.W.Frag} {H H' : Hp} {a : Addr} {xs : List V} (e : ∀ b o, H b = some o → H' b = some o) (h : SqT K H a xs) : SqT K H' a xs := by
  rcases h with (h | ⟨o, h⟩) | h
  · exact .inl (.inl (e _ _ h))
  · exact .inl (.inr ⟨o, e _ _ h⟩)
  · exact .inr h
theorem sqL_mono {K : PySem.W.Frag} {H H' : Hp} {a : Addr} {xs : List V} (e : ∀ b o, H b = some o → H' b = some o) (h : SqL K H a xs) : SqL K H' a xs := by
  rcases h with (h | ⟨o, h⟩) | h
  · exact .inl (.inl (e _ _ h))
  · exact .inl (.inr ⟨o, e _ _ h⟩)
  · exact .inr h
section
variable {W : Wd} {g g' : Gh} (l : g.Le g')
include l
mutual
theorem R.mono : ∀ {d : Dat} {v : V}, R W g d v → R W g' d v
  | _, _, .non => .non
  | _, _, .bl b => .bl b
  | _, _, .int i => .int i
  | _, _, .str x => .str x
  | _, _, .tup h r => .tup (sqT_mono l.F h) (Rs.mono r)
  | _, _, .lst h r => .lst (l.F _ _ h) (Rs.mono r)
  | _, _, .dct h r => .dct (l.F _ _ h) (Rk.mono r)
  | _, _, .obj h r => .obj (l.F _ _ h) (Rf.mono r)
  | _, _, .ref h => by
    rw [← l.ρ _ h]
    exact .ref (Nat.lt_of_lt_of_le h l.n)
  | _, _, .fn f => .fn f
  | _, _, .cls c => .cls c
  | _, _, .ty n => .ty n
  | _, _, .scr h r => .scr (sqL_mono l.F h) (Rs.mono r)
theorem Rs.mono : ∀ {ds : List Dat} {vs : List V}, Rs W g ds vs → Rs W g' ds vs
  | _, _, .nil => .nil
  | _, _, .cons r t => .cons (R.mono r) (Rs.mono t)
theorem Rk.mono : ∀ {ds : List (Key × Dat)} {vs : List (Key × V)}, Rk W g ds vs → Rk W g' ds vs
  | _, _, .nil => .nil
  | _, _, .cons r t => .cons (R.mono r) (Rk.mono t)
theorem Rf.mono : ∀ {ds : List (Str × Dat)} {vs : List (Str × V)}, Rf W g ds vs → Rf W g' ds vs
  | _, _, .nil => .nil
  | _, _, .cons r t => .cons (R.mono r) (Rf.mono t)
end
end
section
variable {W : Wd} {g : Gh}
theorem Rs.length : ∀ {ds : List Dat} {vs : List V}, Rs W g ds vs → ds.length = vs.length
  | _, _, .nil => rfl
  | _, _, .cons _ t => congrArg Nat.succ (Rs.length t)
theorem Rk.length : ∀ {ds : List (Key × Dat)} {vs : List (Key × V)}, Rk W g ds vs → ds.length = vs.length
  | _, _, .nil => rfl
  | _, _, .cons _ t => congrArg Nat.succ (Rk.length t)
theorem Rf.length : ∀ {ds : List (Str × Dat)} {vs : List (Str × V)}, Rf W g ds vs → ds.length = vs.length
  | _, _, .nil => rfl
  | _, _, .cons _ t => congrArg Nat.succ (Rf.length t)
theorem Rs.get : ∀ {ds : List Dat} {vs : List V} {i : Nat} {d : Dat}, Rs W g ds vs → ds[i]? = some d → ∃ v, vs[i]? = some v ∧ R W g d v
  | _, _, _, _, .nil, e => by simp at e
  | _, _, 0, _, .cons r _, e => by simp at e; subst e; exact ⟨_, rfl, r⟩
  | _, _, i + 1, d, .cons _ t, e => by
    obtain ⟨v, h1, h2⟩ := Rs.get (i := i) (d := d) t (by simpa using e)
    exact ⟨v, by simpa using h1, h2⟩
theorem Rs.getV : ∀ {ds : List Dat} {vs : List V} {i : Nat} {v : V}, Rs W g ds vs → vs[i]? = some v → ∃ d, ds[i]? = some d ∧ R W g d v
  | _, _, _, _, .nil, e => by simp at e
  | _, _, 0, _, .cons r _, e => by simp at e; subst e; exact ⟨_, rfl, r⟩
  | _, _, i + 1, d, .cons _ t, e => by
    obtain ⟨v, h1, h2⟩ := Rs.getV (i := i) (v := d) t (by simpa using e)
    exact ⟨v, by simpa using h1, h2⟩
theorem Rs.append : ∀ {ds es : List Dat} {vs us : List V}, Rs W g ds vs → Rs W g es us → Rs W g (ds ++ es) (vs ++ us)
  | _, _, _, _, .nil, s => s
  | _, _, _, _, .cons r t, s => .cons r (Rs.append t s)
theorem Rs.take : ∀ {ds : List Dat} {vs : List V} (n : Nat), Rs W g ds vs → Rs W g (ds.take n) (vs.take n)
  | _, _, 0, _ => .nil
  | _, _, _ + 1, .nil => .nil
  | _, _, n + 1, .cons r t => .cons r (Rs.take n t)
theorem Rs.drop : ∀ {ds : List Dat} {vs : List V} (n : Nat), Rs W g ds vs → Rs W g (ds.drop n) (vs.drop n)
  | _, _, 0, r => r
  | _, _, _ + 1, .nil => .nil
  | _, _, n + 1, .cons _ t => Rs.drop n t
theorem Rs.set {d : Dat} {v : V} (r : R W g d v) : ∀ {ds : List Dat} {vs : List V} (i : Nat), Rs W g ds vs → Rs W g (ds.set i d) (vs.set i v)
  | _, _, _, .nil => .nil
  | _, _, 0, .cons _ t => .cons r t
  | _, _, i + 1, .cons q t => .cons q (Rs.set r i t)
theorem Rs.reverse : ∀ {ds : List Dat} {vs : List V}, Rs W g ds vs → Rs W g ds.reverse vs.reverse
  | _, _, .nil => .nil
  | _, _, .cons r t => by
    rw [List.reverse_cons, List.reverse_cons]
    exact (Rs.reverse t).append (.cons r .nil)
theorem Rs.rep {ds : List Dat} {vs : List V} (h : Rs W g ds vs) : ∀ k : Nat, Rs W g (List.replicate k ds).flatten (List.replicate k vs).flatten
  | 0 => .nil
  | k + 1 => h.append (Rs.rep h k)
theorem Rs.dropLast {ds : List Dat} {vs : List V} (h : Rs W g ds vs) : Rs W g ds.dropLast vs.dropLast := by
  rw [List.dropLast_eq_take, List.dropLast_eq_take, h.length]
  exact h.take _
theorem Rs.eraseIdx : ∀ {ds : List Dat} {vs : List V} (i : Nat), Rs W g ds vs → Rs W g (ds.eraseIdx i) (vs.eraseIdx i)
  | _, _, _, .nil => .nil
  | _, _, 0, .cons _ t => t
  | _, _, i + 1, .cons q t => .cons q (Rs.eraseIdx i t)
theorem Rf.lookup : ∀ {ds : List (Str × Dat)} {vs : List (Str × V)} {f : Str} {d : Dat}, Rf W g ds vs → ds.lookup f = some d → ∃ v, vs.lookup f = some v ∧ R W g d v
  | _, _, _, _, .nil, e => by simp at e
  | _, _, f, d, .cons (k := k) r t, e => by
    rw [List.lookup_cons] at e ⊢
    by_cases h : (f == k) = true
    · rw [h] at e ⊢
      cases e
      exact ⟨_, rfl, r⟩
    · rw [Bool.not_eq_true] at h
      rw [h] at e ⊢
      exact Rf.lookup t e
theorem Rf.none : ∀ {ds : List (Str × Dat)} {vs : List (Str × V)} {f : Str}, Rf W g ds vs → ds.lookup f = Option.none → vs.lookup f = Option.none
  | _, _, _, .nil, _ => rfl
  | _, _, f, .cons (k := k) r t, e => by
    rw [List.lookup_cons] at e ⊢
    by_cases h : (f == k) = true
    · rw [h] at e
      cases e
    · rw [Bool.not_eq_true] at h
      rw [h] at e ⊢
      exact Rf.none t e
/-- a field is put -/
def putFd (f : Str) (v : Dat) : List (Str × Dat) → List (Str × Dat)
  | [] => [(f, v)]
  | p :: r => if p.1 = f then (f, v) :: r else p :: putFd f v r
end
end En
set_option maxHeartbeats 4000000
/-! En1: the relation of a state of ours with the layer's heap and slots, and how it goes on. -/
namespace En
open PySem PySem.Spec PyProof.Rows L2

def RO (W : Wd) (g : Gh) : Mob → HO → Prop
  | .lst ds, .lst vs => Rs W g ds vs
  | .dct ds, .dK vs => Rk W g ds vs
  | .ins c ds, .ins C _ vs => C = W.ca c ∧ Rf W g ds vs
  | _, _ => False
theorem RO.mono {W : Wd} {g g' : Gh} (l : g.Le g') {o : Mob} {ho : HO} (h : RO W g o ho) : RO W g' o ho := by
  cases o <;> cases ho <;> first | exact False.elim h | skip
  · exact Rs.mono l h
  · exact Rk.mono l h
  · exact ⟨h.1, Rf.mono l h.2⟩
/-- the slot's own object -/
def OwnAt (env : List Slt) (i : Nat) : Prop := ∃ o, env[i]? = some (.own o)
structure Rel (W : Wd) (g : Gh) (P : Hp) (s : Stt) (σ : L2.St) (H : Hp) : Prop where
  fz : ∀ b o, g.F b = some o → H b = some o
  pr : ∀ b o, P b = some o → H b = some o ∧ g.F b = none ∧ ∀ k, k < g.n → g.ρ k ≠ b
  len : s.env.length = σ.length
  n : s.sto.length = g.n
  sto : ∀ (k : Nat) (o : Mob), s.sto[k]? = some o → ∃ ho, H (g.ρ k) = some ho ∧ RO W g o ho
  inj : ∀ j k, j < g.n → k < g.n → g.ρ j = g.ρ k → j = k
  stf : ∀ k, k < g.n → g.F (g.ρ k) = none
  slv : ∀ (i : Nat) (d : Dat), s.env[i]? = some (.val d) → ∃ v, σ[i]? = some (some v) ∧ R W g d v
  slo : ∀ (i : Nat) (o : Mob), s.env[i]? = some (.own o) → ∃ a ho, σ[i]? = some (some (.ref a)) ∧ H a = some ho ∧ RO W g o ho ∧ g.F a = none ∧ P a = none ∧ ∀ k, k < g.n → g.ρ k ≠ a
  sld : ∀ (i j : Nat) (a : Addr), OwnAt s.env i → OwnAt s.env j → σ[i]? = some (some (.ref a)) → σ[j]? = some (some (.ref a)) → i = j

/-- a result's value -/
def RvR (W : Wd) (g : Gh) (P : Hp) (s : Stt) (σ : L2.St) (H : Hp) : Rv → V → Prop
  | .val d, v => R W g d v
  | .own o, v => ∃ a ho, v = .ref a ∧ H a = some ho ∧ RO W g o ho ∧ g.F a = none ∧ P a = none ∧ (∀ k, k < g.n → g.ρ k ≠ a) ∧ ∀ (i : Nat), OwnAt s.env i → σ[i]? ≠ some (some (.ref a))
  | .bor i, v => σ[i]? = some (some v)
section
variable {W : Wd} {g : Gh} {P : Hp} {s : Stt} {σ : L2.St} {H : Hp}
/-- less is protected -/
theorem Rel.weak {P' : Hp} (r : Rel W g P s σ H) (h : ∀ b o, P' b = some o → P b = some o) (h0 : ∀ b, P b = none → P' b = none) : Rel W g P' s σ H :=
  ⟨r.fz, fun b o e => r.pr b o (h b o e), r.len, r.n, r.sto, r.inj, r.stf, r.slv, fun i o e => by
    obtain ⟨a, ho, e1, e2, e3, e4, e5, e6⟩ := r.slo i o e
    exact ⟨a, ho, e1, e2, e3, e4, h0 a e5, e6⟩, r.sld⟩
theorem up_le {P : Hp} {a : Addr} {ho : HO} (h : P a = none) : ∀ b o, P b = some o → (upd P a ho) b = some o := fun b o e => by
  rw [upd_ne (ne_of_none e h)]
  exact e
theorem up_none {P : Hp} {a : Addr} {ho : HO} : ∀ b, (upd P a ho) b = none → P b = none := fun b e => by
  by_cases h : b = a
  · rw [h, upd_same] at e
    cases e
  · rw [upd_ne h] at e
    exact e
theorem Rel.unprot {a : Addr} {ho : HO} (h : P a = none) (r : Rel W g (upd P a ho) s σ H) : Rel W g P s σ H := r.weak (up_le h) up_none
/-- an own result is protected -/
theorem Rel.prot {o : Mob} {a : Addr} {ho : HO} (r : Rel W g P s σ H) (hH : H a = some ho) (hF : g.F a = none) (hP : P a = none) (hn : ∀ k, k < g.n → g.ρ k ≠ a) (hs : ∀ (i : Nat), OwnAt s.env i → σ[i]? ≠ some (some (.ref a))) : Rel W g (upd P a ho) s σ H :=
  ⟨r.fz, fun b o e => by
    by_cases hb : b = a
    · rw [hb, upd_same] at e
      rw [hb]
      cases e
      exact ⟨hH, hF, hn⟩
    · rw [upd_ne hb] at e
      exact r.pr b o e, r.len, r.n, r.sto, r.inj, r.stf, r.slv, fun i o e => by
    obtain ⟨b, hb, e1, e2, e3, e4, e5, e6⟩ := r.slo i o e
    refine ⟨b, hb, e1, e2, e3, e4, ?_, e6⟩
    rw [upd_ne]
    · exact e5
    · intro z
      rw [z] at e1
      exact hs i ⟨o, e⟩ e1, r.sld⟩
/-- what is protected of a result -/
def prt (P H : Hp) : Rv → V → Hp
  | .own _, .ref a => (match H a with
    | some ho => upd P a ho
    | none => P)
  | _, _ => P
theorem Rel.prot' {rv : Rv} {v : V} (r : Rel W g P s σ H) (q : RvR W g P s σ H rv v) : Rel W g (prt P H rv v) s σ H := by
  cases rv with
  | val d => exact r
  | bor i => exact r
  | own o =>
    obtain ⟨a, ho, rfl, hH, _, hF, hP, hn, hs⟩ := q
    unfold prt
    simp only [hH]
    exact r.prot (o := o) hH hF hP hn hs
/-- behind another evaluation the protected result is as it was -/
theorem RvR.go {g' : Gh} {s' : Stt} {H' : Hp} {rv : Rv} {v : V} (q : RvR W g P s σ H rv v) (l : g.Le g') (r : Rel W g' (prt P H rv v) s' σ H') : RvR W g' P s' σ H' rv v ∧ Rel W g' P s' σ H' := by
  cases rv with
  | val d => exact ⟨R.mono l q, r⟩
  | bor i => exact ⟨q, r⟩
  | own o =>
    obtain ⟨a, ho, rfl, hH, hR, hF, hP, hn, hs⟩ := q
    unfold prt at r
    simp only [hH] at r
    obtain ⟨h1, h2, h3⟩ := r.pr a ho upd_same
    refine ⟨⟨a, ho, rfl, h1, RO.mono l hR, h2, hP, h3, fun i hi z => ?_⟩, r.unprot hP⟩
    obtain ⟨o', ho'⟩ := hi
    obtain ⟨b, hb, e1, e2, e3, e4, e5, e6⟩ := r.slo i o' ho'
    rw [z] at e1
    cases e1
    rw [upd_same] at e5
    cases e5
/-! new objects -/
theorem Rel.newF {p : Addr} (r : Rel W g P s σ H) (h : H p = none) : g.F p = none ∧ P p = none ∧ (∀ k, k < g.n → g.ρ k ≠ p) ∧ ∀ (i : Nat), OwnAt s.env i → σ[i]? ≠ some (some (.ref p)) := by
  refine ⟨?_, ?_, fun k hk z => ?_, fun i ⟨o, e⟩ z => ?_⟩
  · cases q : g.F p with
    | none => rfl
    | some o =>
      rw [r.fz p o q] at h
      cases h
  · cases q : P p with
    | none => rfl
    | some o =>
      rw [(r.pr p o q).1] at h
      cases h
  · have hk' : k < s.sto.length := by
      rw [r.n]
      exact hk
    obtain ⟨ho, e, _⟩ := r.sto k s.sto[k] (List.getElem?_eq_getElem hk')
    rw [z, h] at e
    cases e
  · obtain ⟨a, ho, e1, e2, _⟩ := r.slo i o e
    rw [z] at e1
    cases e1
    rw [h] at e2
    cases e2
theorem Rel.laid {p : Addr} {ho : HO} (r : Rel W g P s σ H) (h : H p = none) : Rel W g P s σ (upd H p ho) := by
  have up : ∀ b o, H b = some o → (upd H p ho) b = some o := fun b o e => by
    rw [upd_ne (ne_of_none e h)]
    exact e
  refine ⟨fun b o e => up b o (r.fz b o e), fun b o e => ⟨up b o (r.pr b o e).1, (r.pr b o e).2⟩, r.len, r.n, fun k o e => ?_, r.inj, r.stf, r.slv, fun i o e => ?_, r.sld⟩
  · obtain ⟨q, e1, e2⟩ := r.sto k o e
    exact ⟨q, up _ _ e1, e2⟩
  · obtain ⟨a, q, e1, e2, e3⟩ := r.slo i o e
    exact ⟨a, q, e1, up _ _ e2, e3⟩
/-- a new own object -/
theorem Rel.newOwn {p : Addr} {ho : HO} {o : Mob} (r : Rel W g P s σ H) (h : H p = none) (q : RO W g o ho) : Rel W g P s σ (upd H p ho) ∧ RvR W g P s σ (upd H p ho) (.own o) (.ref p) := by
  obtain ⟨h1, h2, h3, h4⟩ := r.newF h
  exact ⟨r.laid h, p, ho, rfl, upd_same, q, h1, h2, h3, h4⟩
/-- the frozen grows -/
def Gh.fz (g : Gh) (p : Addr) (o : HO) : Gh := { g with F := upd g.F p o }
theorem Gh.le_fz {g : Gh} {p : Addr} {o : HO} (h : g.F p = none) : g.Le (g.fz p o) :=
  ⟨fun b u e => by
    show upd g.F p o b = some u
    rw [upd_ne (ne_of_none e h)]
    exact e, Nat.le_refl _, fun _ _ => rfl⟩
/-- an object that nothing of ours holds is frozen -/
theorem Rel.freeze {a : Addr} {ho : HO} (r : Rel W g P s σ H) (hH : H a = some ho) (hF : g.F a = none) (hP : P a = none) (hn : ∀ k, k < g.n → g.ρ k ≠ a) (hs : ∀ (i : Nat), OwnAt s.env i → σ[i]? ≠ some (some (.ref a))) : Rel W (g.fz a ho) P s σ H := by
  have l : g.Le (g.fz a ho) := Gh.le_fz hF
  refine ⟨fun b o e => ?_, fun b o e => ?_, r.len, r.n, fun k o e => ?_, r.inj, fun k hk => ?_, fun i d e => ?_, fun i o e => ?_, r.sld⟩
  · have e' : upd g.F a ho b = some o := e
    by_cases hb : b = a
    · rw [hb, upd_same] at e'
      cases e'
      rw [hb]
      exact hH
    · rw [upd_ne hb] at e'
      exact r.fz b o e'
  · obtain ⟨h1, h2, h3⟩ := r.pr b o e
    refine ⟨h1, ?_, h3⟩
    show upd g.F a ho b = none
    rw [upd_ne (ne_of_none e hP)]
    exact h2
  · obtain ⟨q, e1, e2⟩ := r.sto k o e
    exact ⟨q, e1, RO.mono l e2⟩
  · show upd g.F a ho (g.ρ k) = none
    rw [upd_ne (hn k hk)]
    exact r.stf k hk
  · obtain ⟨v, e1, e2⟩ := r.slv i d e
    exact ⟨v, e1, R.mono l e2⟩
  · obtain ⟨b, q, e1, e2, e3, e4, e5, e6⟩ := r.slo i o e
    refine ⟨b, q, e1, e2, RO.mono l e3, ?_, e5, e6⟩
    show upd g.F a ho b = none
    rw [upd_ne]
    · exact e4
    · intro z
      rw [z] at e1
      exact hs i ⟨o, e⟩ e1
theorem RO.frz {a : Addr} {ho : HO} {o : Mob} (hF : g.F a = none) (q : RO W g o ho) : R W (g.fz a ho) o.dat (.ref a) := by
  have l : g.Le (g.fz a ho) := Gh.le_fz hF
  have e : (g.fz a ho).F a = some ho := upd_same
  cases o <;> cases ho <;> first | exact False.elim q | skip
  · exact .lst e (Rs.mono l q)
  · exact .dct e (Rk.mono l q)
  · obtain ⟨rfl, h2⟩ := q
    exact .obj e (Rf.mono l h2)
/-- a new tuple -/
theorem Rel.newTup {p : Addr} {ds : List Dat} {vs : List V} (r : Rel W g P s σ H) (h : H p = none) (q : Rs W g ds vs) :
    g.Le (g.fz p (.tup vs)) ∧ Rel W (g.fz p (.tup vs)) P s σ (upd H p (.tup vs)) ∧ R W (g.fz p (.tup vs)) (.tup ds) (.ref p) := by
  obtain ⟨h1, h2, h3, h4⟩ := r.newF h
  have l : g.Le (g.fz p (.tup vs)) := Gh.le_fz h1
  have e : (g.fz p (.tup vs)).F p = some (.tup vs) := upd_same
  exact ⟨l, (r.laid h).freeze upd_same h1 h2 h3 h4, .tup (.inl (.inl e)) (Rs.mono l q)⟩

/-! an own slot becomes data -/
theorem getE_set {α : Type} {l : List α} {i j : Nat} {x y : α} (h : (l.set i x)[j]? = some y) : (i = j ∧ y = x) ∨ (i ≠ j ∧ l[j]? = some y) := by
  by_cases e : i = j
  · subst e
    by_cases hl : i < l.length
    · rw [List.getElem?_set_self hl] at h
      cases h
      exact .inl ⟨rfl, rfl⟩
    · rw [List.getElem?_eq_none (by simpa using hl)] at h
      cases h
  · rw [List.getElem?_set_ne e] at h
    exact .inr ⟨e, h⟩
theorem Rel.slotVal {i : Nat} {d : Dat} {v : V} (r : Rel W g P s σ H) (hv : σ[i]? = some (some v)) (q : R W g d v) : Rel W g P { s with env := s.env.set i (.val d) } σ H := by
  have ow : ∀ {j : Nat} {o : Mob}, (s.env.set i (.val d))[j]? = some (.own o) → s.env[j]? = some (.own o) := fun {j o} e => by
    rcases getE_set e with ⟨_, e2⟩ | ⟨_, e2⟩
    · cases e2
    · exact e2
  refine ⟨r.fz, r.pr, by simpa using r.len, r.n, r.sto, r.inj, r.stf, fun j d' e => ?_, fun j o e => r.slo j o (ow e), fun j k a ⟨o, e⟩ ⟨o', e'⟩ => r.sld j k a ⟨o, ow e⟩ ⟨o', ow e'⟩⟩
  rcases getE_set e with ⟨e1, e2⟩ | ⟨_, e2⟩
  · cases e2
    rw [← e1]
    exact ⟨v, hv, q⟩
  · exact r.slv j d' e2
/-- a slot is forgotten -/
theorem Rel.slotNo {i : Nat} (r : Rel W g P s σ H) : Rel W g P { s with env := s.env.set i .no } σ H := by
  have ow : ∀ {j : Nat} {x : Slt}, (s.env.set i .no)[j]? = some x → x ≠ .no → s.env[j]? = some x := fun {j x} e h => by
    rcases getE_set e with ⟨_, e2⟩ | ⟨_, e2⟩
    · exact absurd e2 h
    · exact e2
  exact ⟨r.fz, r.pr, by simpa using r.len, r.n, r.sto, r.inj, r.stf, fun j d' e => r.slv j d' (ow e (fun z => nomatch z)), fun j o e => r.slo j o (ow e (fun z => nomatch z)), fun j k a ⟨o, e⟩ ⟨o', e'⟩ => r.sld j k a ⟨o, ow e (fun z => nomatch z)⟩ ⟨o', ow e' (fun z => nomatch z)⟩⟩

/-! data of a result -/
def toVal (rv : Rv) : Ac Dat := fun s => match rv with
  | .val d => .ok d s
  | .own o => .ok o.dat s
  | .bor i => match s.env[i]? with
    | some (.own o) => .ok o.dat { s with env := s.env.set i (.val o.dat) }
    | some (.val d) => .ok d s
    | _ => .stuck
theorem toVal_ok {rv : Rv} {v : V} {d : Dat} {s' : Stt} (r : Rel W g P s σ H) (q : RvR W g P s σ H rv v) (e : toVal rv s = .ok d s') : ∃ g', g.Le g' ∧ Rel W g' P s' σ H ∧ R W g' d v := by
  cases rv with
  | val d' =>
    cases e
    exact ⟨g, .refl g, r, q⟩
  | own o =>
    cases e
    obtain ⟨a, ho, rfl, hH, hR, hF, hP, hn, hs⟩ := q
    exact ⟨_, Gh.le_fz hF, r.freeze hH hF hP hn hs, hR.frz hF⟩
  | bor i =>
    have q' : σ[i]? = some (some v) := q
    unfold toVal at e
    cases h : s.env[i]? with
    | none =>
      simp only [h] at e
      cases e
    | some x =>
      cases x with
      | no =>
        simp only [h] at e
        cases e
      | val d' =>
        simp only [h] at e
        cases e
        obtain ⟨v', e1, e2⟩ := r.slv i d h
        rw [q'] at e1
        cases e1
        exact ⟨g, .refl g, r, e2⟩
      | own o =>
        simp only [h] at e
        cases e
        obtain ⟨a, ho, e1, e2, e3, e4, e5, e6⟩ := r.slo i o h
        rw [q'] at e1
        cases e1
        have r1 : Rel W g P { s with env := s.env.set i .no } σ H := r.slotNo
        have r2 := r1.freeze e2 e4 e5 e6 fun j ⟨o', ho'⟩ z => by
          rcases getE_set ho' with ⟨_, z2⟩ | ⟨z1, z2⟩
          · cases z2
          · exact z1 (r.sld i j a ⟨o, h⟩ ⟨o', z2⟩ q' z)
        refine ⟨_, Gh.le_fz e4, ?_, e3.frz e4⟩
        have r3 := r2.slotVal (i := i) q' (e3.frz e4)
        simpa using r3
theorem toVal_ne {rv : Rv} {s s' : Stt} {x : Dat} : toVal rv s ≠ .exc x s' := by
  unfold toVal
  intro e
  split at e
  · cases e
  · cases e
  · split at e <;> cases e

/-! looking at a result -/
inductive Vw where
  | dt (d : Dat) | mb (o : Mob)
def Vw.of (s : Stt) : Dat → Option Vw
  | .ref n => (s.sto[n]?).map .mb
  | d => some (.dt d)
def look (s : Stt) : Rv → Option Vw
  | .val d => Vw.of s d
  | .own o => some (.mb o)
  | .bor i => match s.env[i]? with
    | some (.own o) => some (.mb o)
    | some (.val d) => Vw.of s d
    | _ => none
/-- what a look says of the value -/
def VwR (W : Wd) (g : Gh) (H : Hp) : Vw → V → Prop
  | .dt d, v => R W g d v
  | .mb o, v => ∃ a ho, v = .ref a ∧ H a = some ho ∧ RO W g o ho
theorem Vw.of_ok {d : Dat} {v : V} {w : Vw} (r : Rel W g P s σ H) (q : R W g d v) (e : Vw.of s d = some w) : VwR W g H w v := by
  cases d with
  | ref n =>
    cases q with
    | ref hn =>
      have e' : (s.sto[n]?).map Vw.mb = some w := e
      cases h : s.sto[n]? with
      | none =>
        rw [h] at e'
        cases e'
      | some o =>
        rw [h] at e'
        cases e'
        obtain ⟨ho, e1, e2⟩ := r.sto n o h
        exact ⟨_, ho, rfl, e1, e2⟩
  | _ =>
    cases e
    exact q
theorem look_ok {rv : Rv} {v : V} {w : Vw} (r : Rel W g P s σ H) (q : RvR W g P s σ H rv v) (e : look s rv = some w) : VwR W g H w v := by
  cases rv with
  | val d => exact Vw.of_ok r q e
  | own o =>
    cases e
    obtain ⟨a, ho, rfl, hH, hR, _⟩ := q
    exact ⟨a, ho, rfl, hH, hR⟩
  | bor i =>
    have q' : σ[i]? = some (some v) := q
    unfold look at e
    cases h : s.env[i]? with
    | none =>
      simp only [h] at e
      cases e
    | some x =>
      cases x with
      | no =>
        simp only [h] at e
        cases e
      | val d =>
        simp only [h] at e
        obtain ⟨v', e1, e2⟩ := r.slv i d h
        rw [q'] at e1
        cases e1
        exact Vw.of_ok r e2 e
      | own o =>
        simp only [h] at e
        cases e
        obtain ⟨a, ho, e1, e2, e3, _⟩ := r.slo i o h
        rw [q'] at e1
        cases e1
        exact ⟨a, ho, rfl, e2, e3⟩
/-- what lists are read of -/
def Vw.lst : Vw → Option (List Dat)
  | .dt (.lst xs) => some xs
  | .mb (.lst xs) => some xs
  | _ => none
def Vw.tup : Vw → Option (List Dat)
  | .dt (.tup xs) => some xs
  | _ => none
def Vw.dct : Vw → Option (List (Key × Dat))
  | .dt (.dct xs) => some xs
  | .mb (.dct xs) => some xs
  | _ => none
theorem VwR.lst {w : Vw} {v : V} {xs : List Dat} (r : Rel W g P s σ H) (q : VwR W g H w v) (e : w.lst = some xs) : ∃ a vs, v = .ref a ∧ H a = some (.lst vs) ∧ Rs W g xs vs := by
  cases w with
  | dt d =>
    cases d <;> first | cases e | skip
    cases q with
    | lst h1 h2 => exact ⟨_, _, rfl, r.fz _ _ h1, h2⟩
  | mb o =>
    cases o <;> first | cases e | skip
    obtain ⟨a, ho, rfl, h1, h2⟩ := q
    cases ho <;> first | exact False.elim h2 | skip
    exact ⟨a, _, rfl, h1, h2⟩
theorem VwR.dct {w : Vw} {v : V} {xs : List (Key × Dat)} (r : Rel W g P s σ H) (q : VwR W g H w v) (e : w.dct = some xs) : ∃ a vs, v = .ref a ∧ H a = some (.dK vs) ∧ Rk W g xs vs := by
  cases w with
  | dt d =>
    cases d <;> first | cases e | skip
    cases q with
    | dct h1 h2 => exact ⟨_, _, rfl, r.fz _ _ h1, h2⟩
  | mb o =>
    cases o <;> first | cases e | skip
    obtain ⟨a, ho, rfl, h1, h2⟩ := q
    cases ho <;> first | exact False.elim h2 | skip
    exact ⟨a, _, rfl, h1, h2⟩
theorem R.tupH {v : V} {xs : List Dat} (r : Rel W g P s σ H) (q : R W g (.tup xs) v) : ∃ a vs, v = .ref a ∧ SqT W.K H a vs ∧ Rs W g xs vs := by
  cases q with
  | tup h1 h2 => exact ⟨_, _, rfl, sqT_mono r.fz h1, h2⟩
theorem VwR.tup {w : Vw} {v : V} {xs : List Dat} (r : Rel W g P s σ H) (q : VwR W g H w v) (e : w.tup = some xs) : ∃ a vs, v = .ref a ∧ SqT W.K H a vs ∧ Rs W g xs vs := by
  cases w with
  | dt d =>
    cases d <;> first | cases e | skip
    exact R.tupH r q
  | mb o => cases o <;> cases e
end
end En
set_option maxHeartbeats 4000000
/-! En2: the small language, what it does. -/
namespace En
open PySem PySem.Spec PyProof.Rows L2

inductive BOp where
  | add | sub | mul | fdiv | mod | pow
  deriving DecidableEq
inductive COp where
  | eq | ne | lt | le | gt | ge | isin | notin | is | isnot
  deriving DecidableEq
/-- methods of built-in types -/
inductive Mt where
  | append | pop | extend | upper | split | join | get | replace
  deriving DecidableEq
/-- built-in functions and classes that are called -/
inductive Bi where
  | len | tuple | list | str | int | repr | all | any | isi
  deriving DecidableEq
inductive Flw where
  | nx | rt (r : Rv) | bk | ct

/-- what isinstance says of classes -/
structure Tab where
  isaC : Nat → Nat → Option Bool
  isaT : Nat → String → Option Bool
  isaN : String → Nat → Option Bool
inductive Cou where
  | ok (r : Rv) (sto : List Mob) | exc (x : Dat) (sto : List Mob) | stuck

/-! ### operations -/
def Ac.guard (b : Bool) : Ac Unit := if b then Ac.ret () else Ac.stk
/- == -/
mutual
def eqD : Dat → Dat → Option Bool
  | .non, d => (match d with | .non => some true | .bl _ => some false | .int _ => some false | .str _ => some false | .tup _ => some false | .lst _ => some false | _ => none)
  | .bl a, d => (match d with | .bl b => some (a == b) | .int j => some ((if a then 1 else 0) == j) | .non => some false | .str _ => some false | .tup _ => some false | .lst _ => some false | _ => none)
  | .int i, d => (match d with | .int j => some (i == j) | .bl b => some (i == (if b then 1 else 0)) | .non => some false | .str _ => some false | .tup _ => some false | .lst _ => some false | _ => none)
  | .str x, d => (match d with | .str y => some (x == y) | .non => some false | .bl _ => some false | .int _ => some false | .tup _ => some false | .lst _ => some false | _ => none)
  | .tup xs, d => (match d with | .tup ys => eqL xs ys | .non => some false | .bl _ => some false | .int _ => some false | .str _ => some false | .lst _ => some false | _ => none)
  | .lst xs, d => (match d with | .lst ys => (if xs.length = ys.length then eqL xs ys else some false) | .non => some false | .bl _ => some false | .int _ => some false | .str _ => some false | .tup _ => some false | _ => none)
  | _, _ => none
def eqL : List Dat → List Dat → Option Bool
  | [], [] => some true
  | [], _ :: _ => some false
  | _ :: _, [] => some false
  | x :: xs, y :: ys => match eqD x y, eqL xs ys with
    | some a, some b => some (a && b)
    | _, _ => none
end
/- how deep -/
mutual
def depD : Dat → Nat
  | .tup xs => depL xs + 1
  | .lst xs => depL xs + 1
  | _ => 0
def depL : List Dat → Nat
  | [] => 0
  | x :: xs => max (depD x) (depL xs)
end
def Vw.dat : Vw → Option Dat
  | .dt d => some d
  | .mb (.lst xs) => some (.lst xs)
  | _ => none
def Vw.eq (w w' : Vw) : Option Bool := match w.dat, w'.dat with
  | some d, some e => if depD d ≤ 60 then eqD d e else none
  | _, _ => none
def Vw.seq (w : Vw) : Option (List Dat) := match w.lst with
  | some xs => some xs
  | none => w.tup
/-- x in (items) -/
def inL (x : Dat) : List Dat → Option Bool
  | [] => some false
  | y :: r => match eqD y x, inL x r with
    | some a, some b => some (a || b)
    | _, _ => none
def kyD : Dat → Option Key
  | .int i => some (.inl i)
  | .str x => some (.inr x)
  | _ => none
def keyD : Key → Dat
  | .inl i => .int i
  | .inr x => .str x
def getK (kvs : List (Key × Dat)) (k : Key) : Option Dat := (kvs.find? fun kv => decide (kv.1 = k)).map (·.2)
def putD (kvs : List (Key × Dat)) (k : Key) (v : Dat) : List (Key × Dat) :=
  if (kvs.any fun kv => decide (kv.1 = k)) then kvs.map fun kv => if kv.1 = k then (kv.1, v) else kv else kvs ++ [(k, v)]
def Vw.isin (w x : Vw) : Option Bool := match w.seq, x with
  | some xs, .dt d => if depL xs ≤ 60 then inL d xs else none
  | none, .dt (.str c) => (match w with
    | .dt (.str z) => (match c.cps.toList with
      | [k] => some (decide (k ∈ z.cps.toList))
      | _ => none)
    | _ => (match w.dct with
      | some kvs => some (getK kvs (.inr c)).isSome
      | none => none))
  | none, .dt (.int i) => (match w.dct with
      | some kvs => some (getK kvs (.inl i)).isSome
      | none => none)
  | _, _ => none
def Vw.truth : Vw → Option Bool
  | .dt .non => some false
  | .dt (.bl b) => some b
  | .dt (.int i) => some (i != 0)
  | .dt (.str x) => if x.length ≤ sizeLine then some ((x.length : Int) != 0) else none
  | w => match w.seq with
    | some xs => some (!xs.isEmpty)
    | none => match w.dct with
      | some kvs => some (!kvs.isEmpty)
      | none => none
def Vw.len : Vw → Option Nat
  | .dt (.str x) => if x.length ≤ sizeLine then some x.length else none
  | w => match w.seq with
    | some xs => some xs.length
    | none => match w.dct with
      | some kvs => some kvs.length
      | none => none
def mulOk (i j : Int) : Bool := (decide (-(2 ^ 64) < i) && decide (i < 2 ^ 64)) || (decide (-(2 ^ 64) < j) && decide (j < 2 ^ 64))
def binI : BOp → Int → Int → Option Int
  | .add, i, j => some (i + j)
  | .sub, i, j => some (i - j)
  | .mul, i, j => if mulOk i j then some (i * j) else none
  | .fdiv, i, j => if 0 < j ∧ j < 1073741824 then some (i / j) else none
  | .mod, i, j => if 0 < j then some (i % j) else none
  | .pow, i, j => if 0 ≤ j ∧ j ≤ 1000000 ∧ i.natAbs < 2 ^ 64 then some (i ^ j.toNat) else none
def repOk (n : Nat) (k : Int) : Bool := decide (-(2 ^ 63) ≤ k) && (decide (k < 2 ^ 63) && decide (n * k.toNat ≤ sizeLine))
def Vw.bin (op : BOp) (w w' : Vw) : Option Rv := match op, w, w' with
  | op, .dt (.int i), .dt (.int j) => (binI op i j).map fun k => .val (.int k)
  | .add, .dt (.str a), .dt (.str b) => if a.length + b.length ≤ sizeLine then some (.val (.str (a ++ b))) else none
  | .add, .dt (.tup a), .dt (.tup b) => if a.length + b.length ≤ sizeLine then some (.val (.tup (a ++ b))) else none
  | .add, .dt (.scr a), .mb (.lst b) => if a.length + b.length ≤ sizeLine then some (.own (.lst (a ++ b))) else none
  | .add, w, w' => (match w.lst, w'.lst with
    | some a, some b => if a.length + b.length ≤ sizeLine then some (.own (.lst (a ++ b))) else none
    | _, _ => none)
  | .mul, w, .dt (.int k) => (match w.lst with
    | some a => if repOk a.length k then some (.own (.lst (List.replicate k.toNat a).flatten)) else none
    | none => none)
  | _, _, _ => none
def Vw.isNon : Vw → Bool
  | .dt .non => true
  | _ => false
def Vw.cmp (op : COp) (w w' : Vw) : Option Bool := match op, w, w' with
  | .eq, w, w' => w.eq w'
  | .ne, w, w' => (w.eq w').map not
  | .lt, .dt (.int i), .dt (.int j) => some (decide (i < j))
  | .le, .dt (.int i), .dt (.int j) => some (decide (i ≤ j))
  | .gt, .dt (.int i), .dt (.int j) => some (decide (j < i))
  | .ge, .dt (.int i), .dt (.int j) => some (decide (j ≤ i))
  | .lt, .dt (.str i), .dt (.str j) => some (decide (i.cps.toList < j.cps.toList))
  | .le, .dt (.str i), .dt (.str j) => some (!decide (j.cps.toList < i.cps.toList))
  | .isin, w, w' => w'.isin w
  | .notin, w, w' => (w'.isin w).map not
  | .is, .dt (.bl a), .dt (.bl b) => some (decide (a = b))
  | .is, w, .dt .non => some w.isNon
  | .isnot, .dt (.bl a), .dt (.bl b) => some (!decide (a = b))
  | .isnot, w, .dt .non => some (!w.isNon)
  | _, _, _ => none
def cutD (xs : List Dat) (lo hi : Option Int) : List Dat := (xs.drop (HT.sIx xs.length 0 lo)).take (HT.sIx xs.length xs.length hi - HT.sIx xs.length 0 lo)
def Vw.slc (w : Vw) (lo hi : Option Int) : Option Rv := match w with
  | .dt (.str x) => if x.length ≤ sizeLine then some (.val (.str (cutS x lo hi))) else none
  | .dt (.tup xs) => some (.val (.tup (cutD xs lo hi)))
  | w => (match w.lst with
    | some xs => some (.own (.lst (cutD xs lo hi)))
    | none => none)
def Vw.sub (w i : Vw) : Option Dat := match w, i with
  | .dt (.str x), .dt (.int k) => if x.length ≤ sizeLine then (atI x.cps.toList k).map fun c => .str ⟨#[c]⟩ else none
  | w, .dt (.int k) => (match w.seq with
    | some xs => atI xs k
    | none => (match w.dct with
      | some kvs => getK kvs (.inl k)
      | none => none))
  | w, .dt (.str k) => (match w.dct with
      | some kvs => getK kvs (.inr k)
      | none => none)
  | _, _ => none
/- data as the library's own pure data, for repr -/
mutual
def pdD : Dat → Option PyData
  | .non => some .none
  | .bl b => some (.bool b)
  | .int i => some (.int i)
  | .str x => some (.str x)
  | .tup xs => (pdL xs).map .tuple
  | .lst xs => (pdL xs).map .list
  | _ => none
def pdL : List Dat → Option (List PyData)
  | [] => some []
  | x :: xs => match pdD x, pdL xs with
    | some a, some b => some (a :: b)
    | _, _ => none
end
def Vw.pd : Vw → Option PyData
  | .dt d => pdD d
  | .mb (.lst xs) => (pdL xs).map .list
  | _ => none
/-- repr: of what is showable, no deeper than 64 -/
def reprOf (p : PyData) : Option Str := if p.showable && (decide (p.depth ≤ 64) && decide (p.shown.length ≤ sizeLine)) then some p.shown else none
def strsOf : List Dat → Option (List Str)
  | [] => some []
  | .str x :: r => (strsOf r).map (x :: ·)
  | _ => none
def blsOf : List Dat → Option (List Bool)
  | [] => some []
  | .bl x :: r => (blsOf r).map (x :: ·)
  | _ => none
/-- the built-in type of a value -/
def Vw.tyn : Vw → Option String
  | .dt .non => some "NoneType"
  | .dt (.bl _) => some "bool"
  | .dt (.int _) => some "int"
  | .dt (.str _) => some "str"
  | .dt (.tup _) => some "tuple"
  | .dt (.lst _) => some "list"
  | .dt (.dct _) => some "dict"
  | .mb (.lst _) => some "list"
  | .mb (.dct _) => some "dict"
  | _ => none
def Vw.cls : Vw → Option Nat
  | .dt (.obj c _) => some c
  | .mb (.ins c _) => some c
  | _ => none
def tyNames : List String := ["bool", "int", "str", "tuple", "list", "dict"]
/-- isinstance of built-in types -/
def tyIs (a b : String) : Option Bool := if a = "bool" ∧ b = "int" then some true else if b ∈ tyNames then some (decide (a = b)) else none
def isaV (T : Tab) (w : Vw) : Dat → Option Bool
  | .ty n => (match w.tyn with
    | some t => tyIs t n
    | none => w.cls.bind fun c => T.isaT c n)
  | .cls c' => (match w.tyn with
    | some t => T.isaN t c'
    | none => w.cls.bind fun c => T.isaC c c')
  | _ => none
def Vw.bi (T : Tab) : Bi → Vw → List Dat → Option Rv
  | .len, w, [] => w.len.map fun n => .val (.int n)
  | .tuple, w, [] => (match w.lst with
    | some xs => some (.val (.tup xs))
    | none => w.tup.map fun xs => .val (.tup xs))
  | .list, w, [] => w.seq.map fun xs => .own (.lst xs)
  | .str, .dt (.str x), [] => some (.val (.str x))
  | .str, .dt (.int i), [] => if i.natAbs.log2 < 1920 then some (.val (.str (toString i))) else none
  | .repr, w, [] => (w.pd.bind reprOf).map fun x => .val (.str x)
  | .all, w, [] => (w.lst.bind blsOf).map fun bs => .val (.bl (bs.all id))
  | .any, w, [] => (w.lst.bind blsOf).map fun bs => .val (.bl (bs.any id))
  | .isi, w, [c] => (isaV T w c).map fun b => .val (.bl b)
  | _, _, _ => none
/-- methods of built-in types: the receiver's type; what it is then (if it changes), the answer -/
def joinLen (a : Str) (ys : List Str) : Nat := (ys.map (·.length)).sum + ys.length * a.length
def Vw.kind : Vw → Option String
  | .dt (.str _) => some "str"
  | .mb (.lst _) => some "list"
  | .mb (.dct _) => some "dict"
  | .dt (.dct _) => some "dict"
  | _ => none
def mtTy : Mt → String
  | .append => "list"
  | .pop => "list"
  | .extend => "list"
  | .upper => "str"
  | .split => "str"
  | .join => "str"
  | .replace => "str"
  | .get => "dict"
def Dat.seq : Dat → Option (List Dat)
  | .lst xs => some xs
  | .tup xs => some xs
  | _ => none
abbrev MtV := Vw → List Dat → Option (Option Mob × Rv)
def mAppend : MtV
  | .mb (.lst xs), [d] => if xs.length < sizeLine then some (some (.lst (xs ++ [d])), .val .non) else none
  | _, _ => none
def mPop : MtV
  | .mb (.lst xs), [] => (xs[xs.length - 1]?).map fun y => (some (.lst xs.dropLast), .val y)
  | _, _ => none
def mExtend : MtV
  | .mb (.lst xs), [.lst ys] => if xs.length + ys.length ≤ sizeLine then some (some (.lst (xs ++ ys)), .val .non) else none
  | _, _ => none
def mUpper : MtV
  | .dt (.str x), [] => if x.length ≤ 5592405 then some (none, .val (.str (Txt.upper x))) else none
  | _, _ => none
def mSplit : MtV
  | .dt (.str x), [.str y] => if (y.length == 0) = false ∧ x.length + 2 ≤ sizeLine then some (none, .own (.lst ((Txt.split x y).map .str))) else none
  | _, _ => none
def mJoin : MtV
  | .dt (.str x), [d] => (match d.seq.bind strsOf with
    | some ys => if joinLen x ys ≤ 16777216 then some (none, .val (.str (Txt.join x ys))) else none
    | none => none)
  | _, _ => none
def mReplace : MtV
  | _, _ => none
def mGet : MtV
  | w, [k] => (match w.dct, kyD k with
    | some kvs, some ky => some (none, .val ((getK kvs ky).getD .non))
    | _, _ => none)
  | w, [k, d] => (match w.dct, kyD k with
    | some kvs, some ky => some (none, .val ((getK kvs ky).getD d))
    | _, _ => none)
  | _, _ => none
def mthV : Mt → MtV
  | .append => mAppend
  | .pop => mPop
  | .extend => mExtend
  | .upper => mUpper
  | .split => mSplit
  | .join => mJoin
  | .replace => mReplace
  | .get => mGet

/-! ### the state's changes -/
def setSlot (i : Nat) (x : Slt) : Ac Unit := fun s => .ok () { s with env := s.env.set i x }
/-- the object of a result becomes o -/
def setMob (r : Rv) (o : Mob) : Ac Unit := fun s => match r with
  | .bor i => (match s.env[i]? with
    | some (.own _) => .ok () { s with env := s.env.set i (.own o) }
    | some (.val (.ref n)) => if n < s.sto.length then .ok () { s with sto := s.sto.set n o } else .stuck
    | _ => .stuck)
  | .val (.ref n) => if n < s.sto.length then .ok () { s with sto := s.sto.set n o } else .stuck
  | _ => .stuck
def lookA (r : Rv) : Ac Vw := fun s => match look s r with
  | some w => .ok w s
  | none => .stuck
def seqA {α β : Type} (f : α → Ac β) : List α → Ac (List β)
  | [] => Ac.ret []
  | a :: r => (f a).bind fun b => (seqA f r).bind fun bs => Ac.ret (b :: bs)
def Vw.fld (w : Vw) (f : Str) : Option Dat := match w with
  | .dt (.obj _ fs) => fs.lookup f
  | .dt (.err _ fs) => fs.lookup f
  | .mb (.ins _ fs) => fs.lookup f
  | _ => none
def signs (x : Str) : List Dat := x.cps.toList.map fun c => .str ⟨#[c]⟩
def intsD (lo : Int) (n : Nat) : List Dat := (List.range n).map fun (i : Nat) => .int (lo + i)
def rngOk (i : Int) : Bool := decide (-(2 ^ 62) ≤ i) && decide (i < 2 ^ 62)
def rngD : List Dat → Option (List Dat)
  | [.int j] => if rngOk j then some (intsD 0 j.toNat) else none
  | [.int i, .int j] => if rngOk i && rngOk j then some (intsD i (j - i).toNat) else none
  | _ => none
def enumD (k : Nat) : List Dat → List Dat
  | [] => []
  | d :: r => .tup [.int k, d] :: enumD (k + 1) r
def walkD : Dat → Option (List Dat)
  | .lst xs => some xs
  | .tup xs => some xs
  | .str x => some (signs x)
  | _ => none
def optA {α β : Type} (f : α → Ac β) : Option α → Ac (Option β)
  | none => Ac.ret none
  | some a => (f a).bind fun b => Ac.ret (some b)
def intA : Rv → Ac Int := fun r => (lookA r).bind fun w => match w with
  | .dt (.int i) => Ac.ret i
  | _ => Ac.stk
def mthK (m : Mt) (x : Rv) (ds : List Dat) : Ac Rv := (lookA x).bind fun w => (Ac.opt (mthV m w ds)).bind fun p => match p.1 with
  | some o => (setMob x o).bind fun _ => Ac.ret p.2
  | none => Ac.ret p.2
end En
set_option maxHeartbeats 4000000
/-! En3: readings of actions, one behind another. -/
namespace En
open PySem PySem.Spec PyProof.Rows L2

theorem peDyn {X : Cx} {e : Expr} {t : TE} (h : ∀ σ H Q, t σ H Q → ∃ u, PE X e u ∧ u σ H Q) : PE X e t := ⟨fun pins s σ H Q I q => by
  obtain ⟨u, p, r⟩ := h σ H Q q
  exact p.run pins s σ H Q I r⟩
theorem peImp {X : Cx} {e : Expr} {t u : TE} (p : PE X e u) (h : ∀ σ H Q, t σ H Q → u σ H Q) : PE X e t   := peDyn fun σ H Q q => ⟨u, p, h σ H Q q⟩
theorem paImp {X : Cx} {e : List Expr} {t u : TA} (p : PA X e u) (h : ∀ σ H Q, t σ H Q → u σ H Q) : PA X e t := ⟨fun pos pins s σ H Q I q => p.run pos pins s σ H Q I (h σ H Q q)⟩
theorem ptImp {X : Cx} {e : Expr} {t u : TT} (p : PT X e u) (h : ∀ σ H Q, t σ H Q → u σ H Q) : PT X e t := ⟨fun pins s σ H Q I q => p.run pins s σ H Q I (h σ H Q q)⟩
theorem pwImp {X : Cx} {e : Expr} {t u : TT} (p : PW X e u) (h : ∀ σ H Q, t σ H Q → u σ H Q) : PW X e t := ⟨fun wh pins s σ H Q I q => p.run wh pins s σ H Q I (h σ H Q q)⟩
theorem psDyn {X : Cx} {e : Stmt} {t : TS} (h : ∀ D σ H, t D σ H → ∃ u, PS X e u ∧ u D σ H) : PS X e t := ⟨fun pins s σ H D I q => by
  obtain ⟨u, p, r⟩ := h D σ H q
  exact p.run pins s σ H D I r⟩
theorem psImp {X : Cx} {e : Stmt} {t u : TS} (p : PS X e u) (h : ∀ D σ H, t D σ H → u D σ H) : PS X e t := psDyn fun D σ H q => ⟨u, p, h D σ H q⟩
theorem pssImp {X : Cx} {e : List Stmt} {t u : TS} (p : PSs X e u) (h : ∀ D σ H, t D σ H → u D σ H) : PSs X e t := ⟨fun pins s σ H D I q => p.run pins s σ H D I (h D σ H q)⟩

/-- an exception's value: its class, its own dict, frozen -/
def XR (W : Wd) (g : Gh) (x : Dat) (cls : Value) (d : Option Addr) : Prop := ∃ c fs dx vs, x = .err c fs ∧ cls = .ref (W.ca c) ∧ d = some dx ∧ g.F dx = some (.xd vs) ∧ Rf W g fs vs
section
variable (W : Wd) (wx : WX)
/-- behind an action: σ stands -/
def Post {α : Type} (g : Gh) (P : Hp) (σ : L2.St) (o : Out α) (K : α → Stt → Gh → Hp → Prop) : Prop := match o with
  | .ok a s => ∀ g' H', g.Le g' → Rel W g' P s σ H' → K a s g' H'
  | .exc x s => ∀ g' H' cls d, g.Le g' → Rel W g' P s σ H' → XR W g' x cls d → wx cls d σ H'
  | .stuck => False
/-- a kind of results: how they lie, what of them is protected -/
structure RR (β γ : Type) where
  rel : Gh → Hp → Stt → L2.St → Hp → β → γ → Prop
  prt : Hp → Hp → β → γ → Hp
  up : ∀ {g : Gh} {P : Hp} {s : Stt} {σ : L2.St} {H : Hp} {b : β} {v : γ}, Rel W g P s σ H → rel g P s σ H b v → Rel W g (prt P H b v) s σ H ∧ (∀ a o, P a = some o → prt P H b v a = some o) ∧ ∀ a, prt P H b v a = none → P a = none
  go : ∀ {g g' : Gh} {P : Hp} {s s' : Stt} {σ : L2.St} {H H' : Hp} {b : β} {v : γ}, rel g P s σ H b v → g.Le g' → Rel W g' (prt P H b v) s' σ H' → rel g' P s' σ H' b v
  weak : ∀ {g : Gh} {P P' : Hp} {s : Stt} {σ : L2.St} {H : Hp} {b : β} {v : γ}, rel g P' s σ H b v → (∀ a, P' a = none → P a = none) → rel g P s σ H b v
/-- the reading of an action -/
def tX {β γ : Type} (B : RR W β γ) (m : Ac β) : L2.St → Hp → (γ → Hp → Prop) → Prop := fun σ H Q =>
  ∃ g P s, Rel W g P s σ H ∧ Post W wx g P σ (m s) fun b s' g' H' => ∀ v, B.rel g' P s' σ H' b v → Q v H'
end
section
variable {W : Wd} {wx : WX} {g g' : Gh} {P P' : Hp} {s : Stt} {σ : L2.St} {H : Hp}
theorem Post.mono {α : Type} {o : Out α} {K K' : α → Stt → Gh → Hp → Prop} (h : Post W wx g P σ o K) (hK : ∀ a s g' H', g.Le g' → Rel W g' P s σ H' → K a s g' H' → K' a s g' H') : Post W wx g P σ o K' := by
  cases o with
  | ok a s => exact fun g' H' l r => hK a s g' H' l r (h g' H' l r)
  | exc x s => exact h
  | stuck => exact h
theorem Post.le {α : Type} {o : Out α} {K : α → Stt → Gh → Hp → Prop} (h : Post W wx g P σ o K) (l : g.Le g') : Post W wx g' P σ o K := by
  cases o with
  | ok a s => exact fun g2 H' l2 r => h g2 H' (l.trans l2) r
  | exc x s => exact fun g2 H' cls d l2 r x => h g2 H' cls d (l.trans l2) r x
  | stuck => exact h
theorem Post.under {α : Type} {o : Out α} {K : α → Stt → Gh → Hp → Prop} (h : Post W wx g P σ o K) (h1 : ∀ a o, P a = some o → P' a = some o) (h2 : ∀ a, P' a = none → P a = none) : Post W wx g P' σ o K := by
  cases o with
  | ok a s => exact fun g2 H' l r => h g2 H' l (r.weak h1 h2)
  | exc x s => exact fun g2 H' cls d l r x => h g2 H' cls d l (r.weak h1 h2) x
  | stuck => exact h
theorem Post.bindE {α β : Type} {m : Ac α} {f : α → Ac β} {K : β → Stt → Gh → Hp → Prop} (h : Post W wx g P σ (m.bind f s) K) : Post W wx g P σ (m s) fun a s1 g1 H1 => Post W wx g1 P σ (f a s1) K := by
  unfold Ac.bind at h
  cases e : m s with
  | ok a s1 =>
    rw [e] at h
    exact fun g1 H1 l r => Post.le h l
  | exc x s1 =>
    rw [e] at h
    exact h
  | stuck =>
    rw [e] at h
    exact h
/-- an end at once -/
theorem Post.now {α : Type} {o : Out α} {a : α} {K : α → Stt → Gh → Hp → Prop} (h : Post W wx g P σ o K) (r : Rel W g P s σ H) (e : o = .ok a s) : K a s g H := by
  subst e
  exact h g H (.refl g) r
end
section
variable {W : Wd}
def rvK : RR W Rv V where
  rel := RvR W
  prt := prt
  up := fun {g P s σ H b v} r q => by
    refine ⟨r.prot' q, ?_⟩
    cases b with
    | val d => exact ⟨fun _ _ h => h, fun _ h => h⟩
    | bor i => exact ⟨fun _ _ h => h, fun _ h => h⟩
    | own o =>
      obtain ⟨a, ho, rfl, hH, hR, hF, hP, hn, hs⟩ := q
      unfold prt
      simp only [hH]
      exact ⟨up_le hP, up_none⟩
  go := fun q l r => (q.go l r).1
  weak := fun {g P P' s σ H b v} q h => by
    cases b with
    | val d => exact q
    | bor i => exact q
    | own o =>
      obtain ⟨a, ho, e, hH, hR, hF, hP, hn, hs⟩ := q
      exact ⟨a, ho, e, hH, hR, hF, h a hP, hn, hs⟩
def dtK : RR W Dat V where
  rel := fun g _ _ _ _ d v => R W g d v
  prt := fun P _ _ _ => P
  up := fun r _ => ⟨r, fun _ _ h => h, fun _ h => h⟩
  go := fun q l _ => R.mono l q
  weak := fun q _ => q
def dsK : RR W (List Dat) (List V) where
  rel := fun g _ _ _ _ d v => Rs W g d v
  prt := fun P _ _ _ => P
  up := fun r _ => ⟨r, fun _ _ h => h, fun _ h => h⟩
  go := fun q l _ => Rs.mono l q
  weak := fun q _ => q
/-- a plain answer -/
def eqK (α : Type) : RR W α α where
  rel := fun _ _ _ _ _ a b => a = b
  prt := fun P _ _ _ => P
  up := fun r _ => ⟨r, fun _ _ h => h, fun _ h => h⟩
  go := fun q _ _ => q
  weak := fun q _ => q
end
end En
set_option maxHeartbeats 4000000
/-! En4: operators, comparisons, by values. -/
namespace En
open PySem PySem.Spec PyProof.Rows L2
section
variable {W : Wd} {wx : WX}
/-- two actions, then a third that knows both answers -/
def fin2 {β γ β' γ' δ ε : Type} (W : Wd) (wx : WX) (A : RR W β γ) (B : RR W β' γ') (C : RR W δ ε) (k : β → β' → Ac δ) (σ : L2.St) (v : γ) (u : γ') (H : Hp) (Q : ε → Hp → Prop) : Prop :=
  ∃ g P s x y, Rel W g P s σ H ∧ A.rel g P s σ H x v ∧ B.rel g P s σ H y u ∧ Post W wx g P σ (k x y s) fun c s' g' H' => ∀ w, C.rel g' P s' σ H' c w → Q w H'
def fin1 {β γ δ ε : Type} (W : Wd) (wx : WX) (A : RR W β γ) (C : RR W δ ε) (k : β → Ac δ) (σ : L2.St) (v : γ) (H : Hp) (Q : ε → Hp → Prop) : Prop :=
  ∃ g P s x, Rel W g P s σ H ∧ A.rel g P s σ H x v ∧ Post W wx g P σ (k x s) fun c s' g' H' => ∀ w, C.rel g' P s' σ H' c w → Q w H'
theorem tX_bind2 {β γ β' γ' δ ε : Type} {A : RR W β γ} {B : RR W β' γ'} {C : RR W δ ε} {ma : Ac β} {mb : Ac β'} {k : β → β' → Ac δ} {σ : L2.St} {H : Hp} {Q : ε → Hp → Prop}
    (h : tX W wx C (ma.bind fun x => mb.bind fun y => k x y) σ H Q) : tX W wx A ma σ H fun v H1 => tX W wx B mb σ H1 fun u H2 => fin2 W wx A B C k σ v u H2 Q := by
  obtain ⟨g, P, s, r, p⟩ := h
  refine ⟨g, P, s, r, (Post.bindE p).mono fun x s1 g1 H1 l1 r1 p1 v hv => ?_⟩
  obtain ⟨r2, u2, w2⟩ := A.up r1 hv
  refine ⟨g1, A.prt P H1 x v, s1, r2, ((Post.bindE p1).under u2 w2).mono fun y s2 g2 H2 l2 r3 p2 u hu => ?_⟩
  exact ⟨g2, P, s2, x, y, r3.weak u2 w2, A.go hv l2 r3, B.weak hu w2, p2⟩
theorem tX_bind1 {β γ δ ε : Type} {A : RR W β γ} {C : RR W δ ε} {ma : Ac β} {k : β → Ac δ} {σ : L2.St} {H : Hp} {Q : ε → Hp → Prop}
    (h : tX W wx C (ma.bind k) σ H Q) : tX W wx A ma σ H fun v H1 => fin1 W wx A C k σ v H1 Q := by
  obtain ⟨g, P, s, r, p⟩ := h
  refine ⟨g, P, s, r, (Post.bindE p).mono fun x s1 g1 H1 l1 r1 p1 v hv => ?_⟩
  exact ⟨g1, P, s1, x, r1, hv, p1⟩
/-- a look -/
theorem Post.lookE {g : Gh} {P : Hp} {σ : L2.St} {s : Stt} {β : Type} {x : Rv} {k : Vw → Ac β} {K : β → Stt → Gh → Hp → Prop} (h : Post W wx g P σ ((lookA x).bind k s) K) : ∃ w, look s x = some w ∧ Post W wx g P σ (k w s) K := by
  unfold Ac.bind lookA at h
  cases e : look s x with
  | none =>
    simp only [e] at h
    exact h.elim
  | some w =>
    simp only [e] at h
    exact ⟨w, rfl, h⟩
theorem Post.optE {g : Gh} {P : Hp} {σ : L2.St} {s : Stt} {β : Type} {o : Option β} {K : β → Stt → Gh → Hp → Prop} (h : Post W wx g P σ (Ac.opt o s) K) : ∃ b, o = some b ∧ Post W wx g P σ (.ok b s) K := by
  cases o with
  | none => exact h.elim
  | some b => exact ⟨b, rfl, h⟩

/-! inversions -/
section
variable {g : Gh} {v : V}
theorem R.intE {i : Int} (h : R W g (.int i) v) : v = .int i := by cases h; rfl
theorem R.strE {i : Str} (h : R W g (.str i) v) : v = .str i := by cases h; rfl
theorem R.blE {i : Bool} (h : R W g (.bl i) v) : v = .bl i := by cases h; rfl
theorem R.nonE (h : R W g .non v) : v = .non := by cases h; rfl
end
def BOp.py : BOp → Operator
  | .add => .Add
  | .sub => .Sub
  | .mul => .Mult
  | .fdiv => .FloorDiv
  | .mod => .Mod
  | .pow => .Pow
theorem mulOk_ok {i j : Int} (h : mulOk i j = true) : CMul i j := by
  unfold mulOk at h
  simp only [Bool.or_eq_true, Bool.and_eq_true, decide_eq_true_eq] at h
  exact h
theorem repOk_ok {n : Nat} {k : Int} (h : repOk n k = true) : -(2 ^ 63) ≤ k ∧ k < 2 ^ 63 ∧ n * k.toNat ≤ sizeLine := by
  unfold repOk at h
  simp only [Bool.and_eq_true, decide_eq_true_eq] at h
  exact h
/-- two lists, whoever holds them -/
def rCatS (K : PySem.W.Frag) : R2 := fun x y H Q => ∃ l b xs zs, x = .ref l ∧ y = .ref b ∧ SqL K H l xs ∧ SqL K H b zs ∧ xs.length + zs.length ≤ sizeLine ∧ ∀ p, H p = none → Q (.ref p) (upd H p (.lst (xs ++ zs)))
theorem op_catS {X : Cx} : OpR X (binaryOp .Add) (rCatS X.K) := by
  intro pins s σ H x y v u Q I rx ry h
  obtain ⟨l, b, xs, zs, rfl, rfl, hH, hB, hz, q⟩ := h
  cases rx
  cases ry
  obtain ⟨its, r, pl, z⟩ := I.list hH
  obtain ⟨its2, r2, pl2, z2⟩ := I.list hB
  obtain ⟨⟨cls, dd, data, sl⟩, ho, hc, n, hd⟩ := pl.isList
  obtain ⟨⟨cls2, dd2, data2, sl2⟩, ho2, hc2, n2, hd2⟩ := pl2.isList
  simp only at hc hd hc2 hd2
  subst hc hd hc2 hd2
  have e : its.toArray ++ its2.toArray = (its ++ its2).toArray := by simp
  have l1 := r.length
  have l2 := r2.length
  refine concat_meets ⟨_, ho, rfl⟩ ⟨_, ho2, rfl⟩ noFill_list_add seq_list_add PySem.F.slot_list_add PySem.F.entry_list_add (PySem.F.args_list_add_2 _ _) (list_addW l b its.toArray its2.toArray n n2 dd dd2 sl sl2 (by simp only [List.size_toArray]; omega)) ⟨ho, ho2, ?_⟩
  rw [e]
  exact ⟨.ref _, _, I.lnew (t' := s.toks) (r.append r2) (by rw [List.length_append]; omega), rfl, q _ I.fresh⟩
def binK (op : BOp) (x y : Rv) : Ac Rv := (lookA x).bind fun w => (lookA y).bind fun w' => Ac.opt (w.bin op w')
/-- a op b, by values -/
def rBin (W : Wd) (wx : WX) (op : BOp) : R2 := fun v u H Q => ∃ σ, fin2 W wx rvK rvK rvK (binK op) σ v u H Q
theorem op_bin {X : Cx} (hK : X.K = W.K) (op : BOp) : OpR X (binaryOp op.py) (rBin W wx op) := by
  intro pins s σ H x y v u Q I rx ry h
  obtain ⟨σ', g, P, st, a, b, r, ra, rb, p1⟩ := h
  obtain ⟨w, e1, p2⟩ := Post.lookE p1
  obtain ⟨w', e2, p3⟩ := Post.lookE p2
  obtain ⟨rv, e3, p⟩ := Post.optE p3
  clear p1 p2 p3
  have q1 := look_ok r ra e1
  have q2 := look_ok r rb e2
  -- an int that comes out
  have int : ∀ k, rv = .val (.int k) → Q (.int k) H := fun k e => by
    subst e
    exact p g H (.refl g) r _ (R.int k)
  have lists : ∀ {xs ys : List Dat}, w.lst = some xs → w'.lst = some ys → xs.length + ys.length ≤ sizeLine → rv = .own (.lst (xs ++ ys)) → ∃ l b zs us, x = .ref l ∧ y = .ref b ∧ H l = some (.lst zs) ∧ H b = some (.lst us) ∧ zs.length + us.length ≤ sizeLine ∧ ∀ p, H p = none → Q (.ref p) (upd H p (.lst (zs ++ us))) := fun {xs ys} h1 h2 h3 e => by
    subst e
    obtain ⟨l, zs, f1, f2, f3⟩ := q1.lst r h1
    obtain ⟨b, us, k1, k2, k3⟩ := q2.lst r h2
    refine ⟨l, b, zs, us, f1, k1, f2, k2, by rw [← f3.length, ← k3.length]; exact h3, fun pp hp => ?_⟩
    obtain ⟨n1, n2⟩ := r.newOwn (o := .lst (xs ++ ys)) (ho := .lst (zs ++ us)) hp (f3.append k3)
    exact p g _ (.refl g) n1 _ n2
  clear e1 e2
  unfold Vw.bin at e3
  split at e3
  · rename_i i j
    obtain rfl := R.intE q1
    obtain rfl := R.intE q2
    cases hk : binI op i j with
    | none =>
      rw [hk] at e3
      cases e3
    | some k =>
      rw [hk] at e3
      have qk := int k (Option.some.inj e3).symm
      cases op with
      | add =>
        cases hk
        exact op_add pins s σ H _ _ v u Q I rx ry ⟨i, j, rfl, rfl, qk⟩
      | sub =>
        cases hk
        exact op_sub pins s σ H _ _ v u Q I rx ry ⟨i, j, rfl, rfl, qk⟩
      | mul =>
        unfold binI at hk
        simp only at hk
        split at hk
        · cases hk
          exact op_mul pins s σ H _ _ v u Q I rx ry ⟨i, j, rfl, rfl, mulOk_ok (by assumption), qk⟩
        · cases hk
      | fdiv =>
        unfold binI at hk
        simp only at hk
        split at hk
        · cases hk
          exact op_fdiv pins s σ H _ _ v u Q I rx ry ⟨i, j, rfl, rfl, by assumption, qk⟩
        · cases hk
      | mod =>
        unfold binI at hk
        simp only at hk
        split at hk
        · cases hk
          exact op_mod pins s σ H _ _ v u Q I rx ry ⟨i, j, rfl, rfl, by assumption, qk⟩
        · cases hk
      | pow =>
        unfold binI at hk
        simp only at hk
        split at hk
        · cases hk
          exact op_pow pins s σ H _ _ v u Q I rx ry ⟨i, j, rfl, rfl, by assumption, qk⟩
        · cases hk
  · rename_i i j
    obtain rfl := R.strE q1
    obtain rfl := R.strE q2
    split at e3
    · cases e3
      exact op_add_str pins s σ H _ _ v u Q I rx ry ⟨i, j, rfl, rfl, by assumption, p g H (.refl g) r _ (R.str _)⟩
    · cases e3
  · rename_i i j
    split at e3
    · rename_i hz
      cases e3
      obtain ⟨l, zs, f1, f2, f3⟩ := R.tupH r q1
      obtain ⟨b, us, k1, k2, k3⟩ := R.tupH r q2
      rw [← hK] at f2 k2
      refine op_catA pins s σ H _ _ v u Q I rx ry ⟨l, b, zs, us, f1, k1, f2, k2, by rw [← f3.length, ← k3.length]; exact hz, fun e => ?_, fun _ e => ?_, fun _ _ pp hp => ?_⟩
      · subst e
        cases f3
        rw [k1] at q2
        exact p g H (.refl g) r _ q2
      · subst e
        cases k3
        rw [f1] at q1
        rw [List.append_nil] at p
        exact p g H (.refl g) r _ q1
      · obtain ⟨n1, n2, n3⟩ := r.newTup hp (f3.append k3)
        exact p _ _ n1 n2 _ n3
    · cases e3
  · split at e3
    · rename_i hz
      cases e3
      cases q1 with
      | scr f1 f2 =>
        obtain ⟨b, ho, rfl, k1, k2⟩ := q2
        cases ho <;> first | exact False.elim k2 | skip
        rename_i us
        have k3 : Rs W g _ us := k2
        refine op_catS pins s σ H _ _ v u Q I rx ry ⟨_, b, _, us, rfl, rfl, by rw [hK]; exact sqL_mono r.fz f1, SqL.of k1, by rw [← f2.length, ← k3.length]; exact hz, fun pp hp => ?_⟩
        obtain ⟨n1, n2⟩ := r.newOwn (o := .lst _) (ho := .lst _) hp (f2.append k3)
        exact p g _ (.refl g) n1 _ n2
    · cases e3
  · split at e3
    · rename_i h1 h2
      split at e3
      · rename_i hz
        cases e3
        exact op_cat pins s σ H _ _ v u Q I rx ry (lists h1 h2 hz rfl)
      · cases e3
    · cases e3
  · split at e3
    · rename_i h1
      split at e3
      · rename_i hz
        cases e3
        obtain rfl := R.intE q2
        obtain ⟨z1, z2, z3⟩ := repOk_ok hz
        obtain ⟨l, zs, f1, f2, f3⟩ := q1.lst r h1
        refine op_rep pins s σ H _ _ v u Q I rx ry ⟨l, _, zs, f1, rfl, f2, z1, z2, by rw [← f3.length]; exact z3, fun pp hp => ?_⟩
        obtain ⟨n1, n2⟩ := r.newOwn (o := .lst _) (ho := .lst _) hp (f3.rep _)
        exact p g _ (.refl g) n1 _ n2
      · cases e3
    · cases e3
  · cases e3
end
end En
set_option maxHeartbeats 4000000
/-! En5: == and in, over data at any depth. (the three tables are printed by a program) -/
namespace En
open PySem PySem.Spec PyProof.Rows L2
/-- what == is not asked of here -/
def opaq : Dat → Bool
  | .non => false
  | .bl _ => false
  | .int _ => false
  | .str _ => false
  | .tup _ => false
  | .lst _ => false
  | _ => true
theorem eqD_opaqL {d e : Dat} (h : opaq d = true) : eqD d e = none := by
  cases d <;> first | (exact absurd h Bool.false_ne_true) | (cases e <;> rfl)
theorem eqD_opaqR {d e : Dat} (h : opaq d = true) : eqD e d = none := by
  cases d <;> first | (exact absurd h Bool.false_ne_true) | (cases e <;> rfl)
/- how data lies in a heap, as == sees it -/
mutual
inductive Lk (h : Heap) : Dat → Value → Prop
  | non : Lk h .non .none
  | bl (b : Bool) : Lk h (.bl b) (.bool b)
  | int (i : Int) (t : Tok) : Lk h (.int i) (.int i t)
  | str (x : Str) (t : Tok) : Lk h (.str x) (.str x t)
  | tup {a : Addr} {items : List Value} {ds : List Dat} : h.IsTuple a items.toArray → LkL h ds items → Lk h (.tup ds) (.ref a)
  | lst {a : Addr} {items : List Value} {ds : List Dat} : h.IsList a items.toArray → LkL h ds items → Lk h (.lst ds) (.ref a)
  | opq {d : Dat} {u : Value} : opaq d = true → Lk h d u
inductive LkL (h : Heap) : List Dat → List Value → Prop
  | nil : LkL h [] []
  | cons {d : Dat} {u : Value} {ds : List Dat} {us : List Value} : Lk h d u → LkL h ds us → LkL h (d :: ds) (u :: us)
end
theorem LkL.length {h : Heap} : ∀ {ds : List Dat} {us : List Value}, LkL h ds us → ds.length = us.length
  | _, _, .nil => rfl
  | _, _, .cons _ t => congrArg Nat.succ (LkL.length t)
/-- of two kinds, or scalars -/
def mix : Dat → Dat → Bool
  | .tup _, .tup _ => false
  | .lst _, .lst _ => false
  | _, _ => true
theorem eqAt_mix {A : Around} {s : Shared} (hu : A.units < cLine) : ∀ {d e : Dat} {u v : Value} {b : Bool}, Lk s.heap d u → Lk s.heap e v → mix d e = true → eqD d e = some b → SeqAt.EqAt A s u v b
  | _, _, _, _, _, .non, .non, _, h => by cases (show some _ = some _ from h); exact SeqAt.EqAt.same _
  | _, _, _, _, _, .non, .bl _, _, h => by cases (show some _ = some _ from h); exact SeqAt.EqAt.none_bool _
  | _, _, _, _, _, .non, .int _ _, _, h => by cases (show some _ = some _ from h); exact SeqAt.EqAt.none_int _ _
  | _, _, _, _, _, .non, .str _ _, _, h => by cases (show some _ = some _ from h); exact SeqAt.EqAt.none_str _ _
  | _, _, _, _, _, .non, .tup t2 _, _, h => by cases (show some _ = some _ from h); exact SeqAt.EqAt.none_tuple t2 hu
  | _, _, _, _, _, .non, .lst t2 _, _, h => by cases (show some _ = some _ from h); exact SeqAt.EqAt.none_list t2 hu
  | _, _, _, _, _, .bl _, .non, _, h => by cases (show some _ = some _ from h); exact SeqAt.EqAt.bool_none _
  | _, _, _, _, _, .bl _, .bl _, _, h => by cases (show some _ = some _ from h); exact SeqAt.EqAt.bool_bool _ _
  | _, _, _, _, _, .bl _, .int _ _, _, h => by cases (show some _ = some _ from h); exact SeqAt.EqAt.bool_int _ _ _
  | _, _, _, _, _, .bl _, .str _ _, _, h => by cases (show some _ = some _ from h); exact SeqAt.EqAt.bool_str _ _ _
  | _, _, _, _, _, .bl _, .tup t2 _, _, h => by cases (show some _ = some _ from h); exact SeqAt.EqAt.bool_tuple _ t2 hu
  | _, _, _, _, _, .bl _, .lst t2 _, _, h => by cases (show some _ = some _ from h); exact SeqAt.EqAt.bool_list _ t2 hu
  | _, _, _, _, _, .int _ _, .non, _, h => by cases (show some _ = some _ from h); exact SeqAt.EqAt.int_none _ _
  | _, _, _, _, _, .int _ _, .bl _, _, h => by cases (show some _ = some _ from h); exact SeqAt.EqAt.int_bool _ _ _
  | _, _, _, _, _, .int _ _, .int _ _, _, h => by cases (show some _ = some _ from h); exact SeqAt.EqAt.int_int _ _ _ _
  | _, _, _, _, _, .int _ _, .str _ _, _, h => by cases (show some _ = some _ from h); exact SeqAt.EqAt.int_str _ _ _ _
  | _, _, _, _, _, .int _ _, .tup t2 _, _, h => by cases (show some _ = some _ from h); exact SeqAt.EqAt.int_tuple _ _ t2 hu
  | _, _, _, _, _, .int _ _, .lst t2 _, _, h => by cases (show some _ = some _ from h); exact SeqAt.EqAt.int_list _ _ t2 hu
  | _, _, _, _, _, .str _ _, .non, _, h => by cases (show some _ = some _ from h); exact SeqAt.EqAt.str_none _ _
  | _, _, _, _, _, .str _ _, .bl _, _, h => by cases (show some _ = some _ from h); exact SeqAt.EqAt.str_bool _ _ _
  | _, _, _, _, _, .str _ _, .int _ _, _, h => by cases (show some _ = some _ from h); exact SeqAt.EqAt.str_int _ _ _ _
  | _, _, _, _, _, .str _ _, .str _ _, _, h => by cases (show some _ = some _ from h); exact SeqAt.EqAt.str_str _ _ _ _
  | _, _, _, _, _, .str _ _, .tup t2 _, _, h => by cases (show some _ = some _ from h); exact SeqAt.EqAt.str_tuple _ _ t2 hu
  | _, _, _, _, _, .str _ _, .lst t2 _, _, h => by cases (show some _ = some _ from h); exact SeqAt.EqAt.str_list _ _ t2 hu
  | _, _, _, _, _, .tup t1 _, .non, _, h => by cases (show some _ = some _ from h); exact SeqAt.EqAt.tuple_none t1 hu
  | _, _, _, _, _, .tup t1 _, .bl _, _, h => by cases (show some _ = some _ from h); exact SeqAt.EqAt.tuple_bool _ t1 hu
  | _, _, _, _, _, .tup t1 _, .int _ _, _, h => by cases (show some _ = some _ from h); exact SeqAt.EqAt.tuple_int _ _ t1 hu
  | _, _, _, _, _, .tup t1 _, .str _ _, _, h => by cases (show some _ = some _ from h); exact SeqAt.EqAt.tuple_str _ _ t1 hu
  | _, _, _, _, _, .tup t1 _, .lst t2 _, _, h => by cases (show some _ = some _ from h); exact SeqAt.EqAt.tuple_list t1 t2 hu
  | _, _, _, _, _, .lst t1 _, .non, _, h => by cases (show some _ = some _ from h); exact SeqAt.EqAt.list_none t1 hu
  | _, _, _, _, _, .lst t1 _, .bl _, _, h => by cases (show some _ = some _ from h); exact SeqAt.EqAt.list_bool _ t1 hu
  | _, _, _, _, _, .lst t1 _, .int _ _, _, h => by cases (show some _ = some _ from h); exact SeqAt.EqAt.list_int _ _ t1 hu
  | _, _, _, _, _, .lst t1 _, .str _ _, _, h => by cases (show some _ = some _ from h); exact SeqAt.EqAt.list_str _ _ t1 hu
  | _, _, _, _, _, .lst t1 _, .tup t2 _, _, h => by cases (show some _ = some _ from h); exact SeqAt.EqAt.list_tuple t1 t2 hu
  | _, _, _, _, _, .tup _ _, .tup _ _, h, _ => by cases h
  | _, _, _, _, _, .lst _ _, .lst _ _, h, _ => by cases h
  | _, _, _, _, _, .opq o, _, _, h => by rw [eqD_opaqL o] at h; cases h
  | _, _, _, _, _, _, .opq o, _, h => by rw [eqD_opaqR o] at h; cases h
theorem rcAt_mix {A : Around} {s : Shared} (hu : A.units < cLine) : ∀ {d e : Dat} {u v : Value} {b : Bool}, Lk s.heap d u → Lk s.heap e v → mix d e = true → eqD d e = some b → SeqAt.RcAt A s u v b
  | _, _, _, _, _, .non, .non, _, h => by cases (show some _ = some _ from h); exact SeqAt.RcAt.none_none
  | _, _, _, _, _, .non, .bl _, _, h => by cases (show some _ = some _ from h); exact SeqAt.RcAt.none_bool _
  | _, _, _, _, _, .non, .int _ _, _, h => by cases (show some _ = some _ from h); exact SeqAt.RcAt.none_int _ _
  | _, _, _, _, _, .non, .str _ _, _, h => by cases (show some _ = some _ from h); exact SeqAt.RcAt.none_str _ _
  | _, _, _, _, _, .non, .tup t2 _, _, h => by cases (show some _ = some _ from h); exact SeqAt.RcAt.none_tuple t2 hu
  | _, _, _, _, _, .non, .lst t2 _, _, h => by cases (show some _ = some _ from h); exact SeqAt.RcAt.none_list t2 hu
  | _, _, _, _, _, .bl _, .non, _, h => by cases (show some _ = some _ from h); exact SeqAt.RcAt.bool_none _
  | _, _, _, _, _, .bl _, .bl _, _, h => by cases (show some _ = some _ from h); exact SeqAt.RcAt.bool_bool _ _
  | _, _, _, _, _, .bl _, .int _ _, _, h => by cases (show some _ = some _ from h); exact SeqAt.RcAt.bool_int _ _ _
  | _, _, _, _, _, .bl _, .str _ _, _, h => by cases (show some _ = some _ from h); exact SeqAt.RcAt.bool_str _ _ _
  | _, _, _, _, _, .bl _, .tup t2 _, _, h => by cases (show some _ = some _ from h); exact SeqAt.RcAt.bool_tuple _ t2 hu
  | _, _, _, _, _, .bl _, .lst t2 _, _, h => by cases (show some _ = some _ from h); exact SeqAt.RcAt.bool_list _ t2 hu
  | _, _, _, _, _, .int _ _, .non, _, h => by cases (show some _ = some _ from h); exact SeqAt.RcAt.int_none _ _
  | _, _, _, _, _, .int _ _, .bl _, _, h => by cases (show some _ = some _ from h); exact SeqAt.RcAt.int_bool _ _ _
  | _, _, _, _, _, .int _ _, .int _ _, _, h => by cases (show some _ = some _ from h); exact SeqAt.RcAt.int_int _ _ _ _
  | _, _, _, _, _, .int _ _, .str _ _, _, h => by cases (show some _ = some _ from h); exact SeqAt.RcAt.int_str _ _ _ _
  | _, _, _, _, _, .int _ _, .tup t2 _, _, h => by cases (show some _ = some _ from h); exact SeqAt.RcAt.int_tuple _ _ t2 hu
  | _, _, _, _, _, .int _ _, .lst t2 _, _, h => by cases (show some _ = some _ from h); exact SeqAt.RcAt.int_list _ _ t2 hu
  | _, _, _, _, _, .str _ _, .non, _, h => by cases (show some _ = some _ from h); exact SeqAt.RcAt.str_none _ _
  | _, _, _, _, _, .str _ _, .bl _, _, h => by cases (show some _ = some _ from h); exact SeqAt.RcAt.str_bool _ _ _
  | _, _, _, _, _, .str _ _, .int _ _, _, h => by cases (show some _ = some _ from h); exact SeqAt.RcAt.str_int _ _ _ _
  | _, _, _, _, _, .str _ _, .str _ _, _, h => by cases (show some _ = some _ from h); exact SeqAt.RcAt.str_str _ _ _ _
  | _, _, _, _, _, .str _ _, .tup t2 _, _, h => by cases (show some _ = some _ from h); exact SeqAt.RcAt.str_tuple _ _ t2 hu
  | _, _, _, _, _, .str _ _, .lst t2 _, _, h => by cases (show some _ = some _ from h); exact SeqAt.RcAt.str_list _ _ t2 hu
  | _, _, _, _, _, .tup t1 _, .non, _, h => by cases (show some _ = some _ from h); exact SeqAt.RcAt.tuple_none t1 hu
  | _, _, _, _, _, .tup t1 _, .bl _, _, h => by cases (show some _ = some _ from h); exact SeqAt.RcAt.tuple_bool _ t1 hu
  | _, _, _, _, _, .tup t1 _, .int _ _, _, h => by cases (show some _ = some _ from h); exact SeqAt.RcAt.tuple_int _ _ t1 hu
  | _, _, _, _, _, .tup t1 _, .str _ _, _, h => by cases (show some _ = some _ from h); exact SeqAt.RcAt.tuple_str _ _ t1 hu
  | _, _, _, _, _, .tup t1 _, .lst t2 _, _, h => by cases (show some _ = some _ from h); exact SeqAt.RcAt.tuple_list t1 t2 hu
  | _, _, _, _, _, .lst t1 _, .non, _, h => by cases (show some _ = some _ from h); exact SeqAt.RcAt.list_none t1 hu
  | _, _, _, _, _, .lst t1 _, .bl _, _, h => by cases (show some _ = some _ from h); exact SeqAt.RcAt.list_bool _ t1 hu
  | _, _, _, _, _, .lst t1 _, .int _ _, _, h => by cases (show some _ = some _ from h); exact SeqAt.RcAt.list_int _ _ t1 hu
  | _, _, _, _, _, .lst t1 _, .str _ _, _, h => by cases (show some _ = some _ from h); exact SeqAt.RcAt.list_str _ _ t1 hu
  | _, _, _, _, _, .lst t1 _, .tup t2 _, _, h => by cases (show some _ = some _ from h); exact SeqAt.RcAt.list_tuple t1 t2 hu
  | _, _, _, _, _, .tup _ _, .tup _ _, h, _ => by cases h
  | _, _, _, _, _, .lst _ _, .lst _ _, h, _ => by cases h
  | _, _, _, _, _, .opq o, _, _, h => by rw [eqD_opaqL o] at h; cases h
  | _, _, _, _, _, _, .opq o, _, h => by rw [eqD_opaqR o] at h; cases h
theorem neAt_mix {A : Around} {s : Shared} (hu : A.units < cLine) : ∀ {d e : Dat} {u v : Value} {b : Bool}, Lk s.heap d u → Lk s.heap e v → mix d e = true → eqD d e = some b → SeqAt.RcNeAt A s u v (!b)
  | _, _, _, _, _, .non, .non, _, h => by cases (show some _ = some _ from h); exact SeqAt.RcNeAt.none_none
  | _, _, _, _, _, .non, .bl _, _, h => by cases (show some _ = some _ from h); exact SeqAt.RcNeAt.none_bool _
  | _, _, _, _, _, .non, .int _ _, _, h => by cases (show some _ = some _ from h); exact SeqAt.RcNeAt.none_int _ _
  | _, _, _, _, _, .non, .str _ _, _, h => by cases (show some _ = some _ from h); exact SeqAt.RcNeAt.none_str _ _
  | _, _, _, _, _, .non, .tup t2 _, _, h => by cases (show some _ = some _ from h); exact SeqAt.RcNeAt.none_tuple t2 hu
  | _, _, _, _, _, .non, .lst t2 _, _, h => by cases (show some _ = some _ from h); exact SeqAt.RcNeAt.none_list t2 hu
  | _, _, _, _, _, .bl _, .non, _, h => by cases (show some _ = some _ from h); exact SeqAt.RcNeAt.bool_none _
  | _, _, _, _, _, .bl _, .bl _, _, h => by cases (show some _ = some _ from h); exact SeqAt.RcNeAt.bool_bool _ _
  | _, _, _, _, _, .bl _, .int _ _, _, h => by cases (show some _ = some _ from h); exact SeqAt.RcNeAt.bool_int _ _ _
  | _, _, _, _, _, .bl _, .str _ _, _, h => by cases (show some _ = some _ from h); exact SeqAt.RcNeAt.bool_str _ _ _
  | _, _, _, _, _, .bl _, .tup t2 _, _, h => by cases (show some _ = some _ from h); exact SeqAt.RcNeAt.bool_tuple _ t2 hu
  | _, _, _, _, _, .bl _, .lst t2 _, _, h => by cases (show some _ = some _ from h); exact SeqAt.RcNeAt.bool_list _ t2 hu
  | _, _, _, _, _, .int _ _, .non, _, h => by cases (show some _ = some _ from h); exact SeqAt.RcNeAt.int_none _ _
  | _, _, _, _, _, .int _ _, .bl _, _, h => by cases (show some _ = some _ from h); exact SeqAt.RcNeAt.int_bool _ _ _
  | _, _, _, _, _, .int _ _, .int _ _, _, h => by cases (show some _ = some _ from h); exact SeqAt.RcNeAt.int_int _ _ _ _
  | _, _, _, _, _, .int _ _, .str _ _, _, h => by cases (show some _ = some _ from h); exact SeqAt.RcNeAt.int_str _ _ _ _
  | _, _, _, _, _, .int _ _, .tup t2 _, _, h => by cases (show some _ = some _ from h); exact SeqAt.RcNeAt.int_tuple _ _ t2 hu
  | _, _, _, _, _, .int _ _, .lst t2 _, _, h => by cases (show some _ = some _ from h); exact SeqAt.RcNeAt.int_list _ _ t2 hu
  | _, _, _, _, _, .str _ _, .non, _, h => by cases (show some _ = some _ from h); exact SeqAt.RcNeAt.str_none _ _
  | _, _, _, _, _, .str _ _, .bl _, _, h => by cases (show some _ = some _ from h); exact SeqAt.RcNeAt.str_bool _ _ _
  | _, _, _, _, _, .str _ _, .int _ _, _, h => by cases (show some _ = some _ from h); exact SeqAt.RcNeAt.str_int _ _ _ _
  | _, _, _, _, _, .str _ _, .str _ _, _, h => by cases (show some _ = some _ from h); exact SeqAt.RcNeAt.str_str _ _ _ _
  | _, _, _, _, _, .str _ _, .tup t2 _, _, h => by cases (show some _ = some _ from h); exact SeqAt.RcNeAt.str_tuple _ _ t2 hu
  | _, _, _, _, _, .str _ _, .lst t2 _, _, h => by cases (show some _ = some _ from h); exact SeqAt.RcNeAt.str_list _ _ t2 hu
  | _, _, _, _, _, .tup t1 _, .non, _, h => by cases (show some _ = some _ from h); exact SeqAt.RcNeAt.tuple_none t1 hu
  | _, _, _, _, _, .tup t1 _, .bl _, _, h => by cases (show some _ = some _ from h); exact SeqAt.RcNeAt.tuple_bool _ t1 hu
  | _, _, _, _, _, .tup t1 _, .int _ _, _, h => by cases (show some _ = some _ from h); exact SeqAt.RcNeAt.tuple_int _ _ t1 hu
  | _, _, _, _, _, .tup t1 _, .str _ _, _, h => by cases (show some _ = some _ from h); exact SeqAt.RcNeAt.tuple_str _ _ t1 hu
  | _, _, _, _, _, .tup t1 _, .lst t2 _, _, h => by cases (show some _ = some _ from h); exact SeqAt.RcNeAt.tuple_list t1 t2 hu
  | _, _, _, _, _, .lst t1 _, .non, _, h => by cases (show some _ = some _ from h); exact SeqAt.RcNeAt.list_none t1 hu
  | _, _, _, _, _, .lst t1 _, .bl _, _, h => by cases (show some _ = some _ from h); exact SeqAt.RcNeAt.list_bool _ t1 hu
  | _, _, _, _, _, .lst t1 _, .int _ _, _, h => by cases (show some _ = some _ from h); exact SeqAt.RcNeAt.list_int _ _ t1 hu
  | _, _, _, _, _, .lst t1 _, .str _ _, _, h => by cases (show some _ = some _ from h); exact SeqAt.RcNeAt.list_str _ _ t1 hu
  | _, _, _, _, _, .lst t1 _, .tup t2 _, _, h => by cases (show some _ = some _ from h); exact SeqAt.RcNeAt.list_tuple t1 t2 hu
  | _, _, _, _, _, .tup _ _, .tup _ _, h, _ => by cases h
  | _, _, _, _, _, .lst _ _, .lst _ _, h, _ => by cases h
  | _, _, _, _, _, .opq o, _, _, h => by rw [eqD_opaqL o] at h; cases h
  | _, _, _, _, _, _, .opq o, _, h => by rw [eqD_opaqR o] at h; cases h

theorem isTup_inj {h : Heap} {a : Addr} {xs ys : List Value} (p : h.IsTuple a xs.toArray) (q : h.IsTuple a ys.toArray) : xs = ys := by
  obtain ⟨o, e, _, n, d⟩ := p
  obtain ⟨o', e', _, n', d'⟩ := q
  rw [e] at e'
  cases e'
  rw [d] at d'
  injection d' with d1 _
  simpa using congrArg Array.toList d1
theorem isList_inj {h : Heap} {a : Addr} {xs ys : List Value} (p : h.IsList a xs.toArray) (q : h.IsList a ys.toArray) : xs = ys := by
  obtain ⟨o, e, _, n, d⟩ := p
  obtain ⟨o', e', _, n', d'⟩ := q
  rw [e] at e'
  cases e'
  rw [d] at d'
  injection d' with d1 _
  simpa using congrArg Array.toList d1
theorem list_not_tup {h : Heap} {a : Addr} {xs ys : Array Value} (p : h.IsList a xs) (q : h.IsTuple a ys) : False := by
  obtain ⟨o, e, c, _⟩ := p
  obtain ⟨o', e', c', _⟩ := q
  rw [e] at e'
  cases e'
  rw [c] at c'
  exact absurd c' (by decide)
mutual
theorem Lk.same {h : Heap} : ∀ {d e : Dat} {u : Value} {b : Bool}, Lk h d u → Lk h e u → eqD d e = some b → b = true
  | _, _, _, _, .opq o, _, z => by rw [eqD_opaqL o] at z; cases z
  | _, _, _, _, _, .opq o, z => by rw [eqD_opaqR o] at z; cases z
  | _, _, _, _, .non, .non, z => by cases z; rfl
  | _, _, _, _, .bl b, .bl _, z => by cases (show some (b == b) = some _ from z); simp
  | _, _, _, _, .int i t, .int _ _, z => by cases (show some (i == i) = some _ from z); simp
  | _, _, _, _, .str x t, .str _ _, z => by cases (show some (x == x) = some _ from z); simp
  | _, _, _, _, .tup p1 p2, .tup q1 q2, z => by
    obtain rfl := isTup_inj p1 q1
    exact LkL.same p2 q2 z
  | _, _, _, _, .lst (ds := ds) p1 p2, .lst (ds := es) q1 q2, z => by
    obtain rfl := isList_inj p1 q1
    have z' : (if ds.length = es.length then eqL ds es else some false) = some _ := z
    rw [if_pos (p2.length.trans q2.length.symm)] at z'
    exact LkL.same p2 q2 z'
  | _, _, _, _, .tup p1 p2, .lst q1 q2, _ => (list_not_tup q1 p1).elim
  | _, _, _, _, .lst p1 p2, .tup q1 q2, _ => (list_not_tup p1 q1).elim
theorem LkL.same {h : Heap} : ∀ {ds es : List Dat} {us : List Value} {b : Bool}, LkL h ds us → LkL h es us → eqL ds es = some b → b = true
  | _, _, _, _, .nil, .nil, z => by cases z; rfl
  | _, _, _, b, .cons (d := d) (ds := ds) p1 p2, .cons (d := e) (ds := es) q1 q2, z => by
    unfold eqL at z
    cases e1 : eqD d e with
    | none => rw [e1] at z; cases z
    | some x =>
      rw [e1] at z
      cases e2 : eqL ds es with
      | none => rw [e2] at z; cases z
      | some y =>
        rw [e2] at z
        have z' : some (x && y) = some b := z
        cases z'
        rw [Lk.same p1 q1 e1, LkL.same p2 q2 e2]
        rfl
end
mutual
theorem Lk.uniq {h : Heap} : ∀ {d e x : Dat} {u : Value} {b c : Bool}, Lk h d u → Lk h e u → eqD d x = some b → eqD e x = some c → b = c
  | _, _, _, _, _, _, .opq o, _, z, _ => by rw [eqD_opaqL o] at z; cases z
  | _, _, _, _, _, _, _, .opq o, _, z => by rw [eqD_opaqL o] at z; cases z
  | _, _, _, _, _, _, .non, .non, z, w => by rw [z] at w; exact Option.some.inj w
  | _, _, _, _, _, _, .bl b, .bl _, z, w => by rw [z] at w; exact Option.some.inj w
  | _, _, _, _, _, _, .int i t, .int _ _, z, w => by rw [z] at w; exact Option.some.inj w
  | _, _, _, _, _, _, .str x t, .str _ _, z, w => by rw [z] at w; exact Option.some.inj w
  | _, _, x, _, _, _, .tup p1 p2, .tup q1 q2, z, w => by
    obtain rfl := isTup_inj p1 q1
    cases x with
    | tup xs => exact LkL.uniq p2 q2 z w
    | non => exact Option.some.inj ((show some false = some _ from z).symm.trans w)
    | bl _ => exact Option.some.inj ((show some false = some _ from z).symm.trans w)
    | int _ => exact Option.some.inj ((show some false = some _ from z).symm.trans w)
    | str _ => exact Option.some.inj ((show some false = some _ from z).symm.trans w)
    | lst _ => exact Option.some.inj ((show some false = some _ from z).symm.trans w)
    | _ => cases z
  | _, _, x, _, _, _, .lst (ds := ds) p1 p2, .lst (ds := es) q1 q2, z, w => by
    obtain rfl := isList_inj p1 q1
    cases x with
    | lst xs =>
      have z' : (if ds.length = xs.length then eqL ds xs else some false) = some _ := z
      have w' : (if es.length = xs.length then eqL es xs else some false) = some _ := w
      have l : ds.length = es.length := p2.length.trans q2.length.symm
      by_cases hl : ds.length = xs.length
      · rw [if_pos hl] at z'
        rw [if_pos (l ▸ hl)] at w'
        exact LkL.uniq p2 q2 z' w'
      · rw [if_neg hl] at z'
        rw [if_neg (l ▸ hl)] at w'
        exact Option.some.inj (z'.symm.trans w')
    | non => exact Option.some.inj ((show some false = some _ from z).symm.trans w)
    | bl _ => exact Option.some.inj ((show some false = some _ from z).symm.trans w)
    | int _ => exact Option.some.inj ((show some false = some _ from z).symm.trans w)
    | str _ => exact Option.some.inj ((show some false = some _ from z).symm.trans w)
    | tup _ => exact Option.some.inj ((show some false = some _ from z).symm.trans w)
    | _ => cases z
  | _, _, _, _, _, _, .tup p1 p2, .lst q1 q2, _, _ => (list_not_tup q1 p1).elim
  | _, _, _, _, _, _, .lst p1 p2, .tup q1 q2, _, _ => (list_not_tup p1 q1).elim
theorem LkL.uniq {h : Heap} : ∀ {ds es xs : List Dat} {us : List Value} {b c : Bool}, LkL h ds us → LkL h es us → eqL ds xs = some b → eqL es xs = some c → b = c
  | _, _, xs, _, _, _, .nil, .nil, z, w => by rw [z] at w; exact Option.some.inj w
  | _, _, [], _, _, _, .cons _ _, .cons _ _, z, w => by cases z; cases w; rfl
  | _, _, x :: xs, _, b, c, .cons (d := d) (ds := ds) p1 p2, .cons (d := e) (ds := es) q1 q2, z, w => by
    unfold eqL at z w
    cases e1 : eqD d x with
    | none => rw [e1] at z; cases z
    | some b1 =>
      rw [e1] at z
      cases e2 : eqL ds xs with
      | none => rw [e2] at z; cases z
      | some b2 =>
        rw [e2] at z
        cases f1 : eqD e x with
        | none => rw [f1] at w; cases w
        | some c1 =>
          rw [f1] at w
          cases f2 : eqL es xs with
          | none => rw [f2] at w; cases w
          | some c2 =>
            rw [f2] at w
            have z' : some (b1 && b2) = some b := z
            have w' : some (c1 && c2) = some c := w
            cases z'
            cases w'
            rw [Lk.uniq p1 q1 e1 f1, LkL.uniq p2 q2 e2 f2]
end
theorem range_all_succ (n : Nat) (e : Nat → Bool) : (List.range (n + 1)).all e = (e 0 && (List.range n).all fun i => e (i + 1)) := by
  rw [List.range_succ_eq_map, List.all_cons, List.all_map]
  rfl
mutual
theorem eqD_at {s : Shared} : ∀ (n : Nat) {d e : Dat} {u v : Value} {b : Bool} {A : Around}, Lk s.heap d u → Lk s.heap e v → depD d ≤ n → A.units + n < cLine → eqD d e = some b → SeqAt.EqAt A s u v b
  | n, d, e, u, v, b, A, p, q, hd, hu, h => by
    by_cases hm : mix d e = true
    · exact eqAt_mix (by omega) p q hm h
    · cases p with
      | tup p1 p2 =>
        cases q with
        | tup q1 q2 =>
          rename_i a xs ds a' ys es
          by_cases ha : a = a'
          · subst ha
            rw [Lk.same (Lk.tup p1 p2) (.tup q1 q2) h]
            exact SeqAt.EqAt.same _
          · cases n with
            | zero =>
              unfold depD at hd
              omega
            | succ n =>
              obtain ⟨ev, he, eb⟩ := eqL_at n (A := A.in1) p2 q2 (by unfold depD at hd; omega) (by show A.units + 1 + n < cLine; omega) h
              have z := SeqAt.RcAt.tuples (e := ev) p1 q1 (show A.units < cLine by omega) (fun j h1 h2 => by simpa using he j (by simpa using h1) (by simpa using h2))
              rw [eb]
              simpa using SeqAt.EqAt.of_refs ha z
        | opq o =>
          rw [eqD_opaqR o] at h
          cases h
        | _ => exact absurd rfl hm
      | lst p1 p2 =>
        cases q with
        | lst q1 q2 =>
          rename_i a xs ds a' ys es
          by_cases ha : a = a'
          · subst ha
            rw [Lk.same (Lk.lst p1 p2) (.lst q1 q2) h]
            exact SeqAt.EqAt.same _
          · cases n with
            | zero =>
              unfold depD at hd
              omega
            | succ n =>
              have l1 := p2.length
              have l2 := q2.length
              have h' : (if ds.length = es.length then eqL ds es else some false) = some b := h
              by_cases hl : ds.length = es.length
              · rw [if_pos hl] at h'
                obtain ⟨ev, he, eb⟩ := eqL_at n (A := A.in1) p2 q2 (by unfold depD at hd; omega) (by show A.units + 1 + n < cLine; omega) h'
                have z := SeqAt.RcAt.lists (e := ev) p1 q1 (by simp; omega) (show A.units < cLine by omega) (fun j h1 h2 => by simpa using he j (by simpa using h1) (by simpa using h2))
                have e3 : xs.length = ys.length := by omega
                have eb' : b = (List.range xs.length).all ev := by
                  rw [eb, ← e3, Nat.min_self]
                  simp
                rw [eb']
                simpa using SeqAt.EqAt.of_refs ha z
              · rw [if_neg hl] at h'
                cases h'
                exact SeqAt.EqAt.of_refs ha (SeqAt.RcAt.lists_lengths p1 q1 (by simp; omega) (by omega))
        | opq o =>
          rw [eqD_opaqR o] at h
          cases h
        | _ => exact absurd rfl hm
      | opq o =>
        rw [eqD_opaqL o] at h
        cases h
      | _ => exact absurd rfl hm
theorem eqL_at {s : Shared} : ∀ (n : Nat) {ds es : List Dat} {us vs : List Value} {b : Bool} {A : Around}, LkL s.heap ds us → LkL s.heap es vs → depL ds ≤ n → A.units + n < cLine → eqL ds es = some b →
    ∃ e : Nat → Bool, (∀ (j : Nat) (h1 : j < us.length) (h2 : j < vs.length), SeqAt.EqAt A s us[j] vs[j] (e j)) ∧ b = ((List.range (min us.length vs.length)).all e && us.length == vs.length)
  | n, _, _, _, _, b, A, .nil, .nil, _, _, h => ⟨fun _ => true, fun j h1 _ => absurd h1 (by simp), by cases h; rfl⟩
  | n, _, _, _, _, b, A, .nil, .cons _ _, _, _, h => ⟨fun _ => true, fun j h1 _ => absurd h1 (by simp), by cases h; simp⟩
  | n, _, _, _, _, b, A, .cons _ _, .nil, _, _, h => ⟨fun _ => true, fun j _ h2 => absurd h2 (by simp), by cases h; simp⟩
  | n, _, _, _, _, b, A, .cons (d := d) (ds := ds) (us := us) p1 p2, .cons (d := e) (ds := es) (us := vs) q1 q2, hd, hu, h => by
    unfold eqL at h
    unfold depL at hd
    cases e1 : eqD d e with
    | none => rw [e1] at h; cases h
    | some x =>
      rw [e1] at h
      cases e2 : eqL ds es with
      | none => rw [e2] at h; cases h
      | some y =>
        rw [e2] at h
        have h' : some (x && y) = some b := h
        cases h'
        obtain ⟨ev, he, ey⟩ := eqL_at n (A := A) p2 q2 (by omega) hu e2
        have z := eqD_at n (A := A) p1 q1 (by omega) hu e1
        refine ⟨fun j => match j with
          | 0 => x
          | j + 1 => ev j, fun j h1 h2 => ?_, ?_⟩
        · cases j with
          | zero => exact z
          | succ j => simpa using he j (by simpa using h1) (by simpa using h2)
        · rw [ey, List.length_cons, List.length_cons, show min (us.length + 1) (vs.length + 1) = min us.length vs.length + 1 by omega, range_all_succ]
          simp [Bool.and_assoc]
end
/-- == at the top -/
theorem eqD_rc {s : Shared} (n : Nat) {d e : Dat} {u v : Value} {b : Bool} {A : Around} (p : Lk s.heap d u) (q : Lk s.heap e v) (hd : depD d ≤ n) (hu : A.units + n < cLine) (h : eqD d e = some b) : SeqAt.RcAt A s u v b ∧ SeqAt.RcNeAt A s u v (!b) := by
  by_cases hm : mix d e = true
  · exact ⟨rcAt_mix (by omega) p q hm h, neAt_mix (by omega) p q hm h⟩
  · cases p with
    | tup p1 p2 =>
      cases q with
      | tup q1 q2 =>
        rename_i a xs ds a' ys es
        cases n with
        | zero =>
          unfold depD at hd
          omega
        | succ n =>
          obtain ⟨ev, he, eb⟩ := eqL_at n (A := A.in1) p2 q2 (by unfold depD at hd; omega) (by show A.units + 1 + n < cLine; omega) h
          have he' : ∀ (j : Nat) (h1 : j < xs.toArray.size) (h2 : j < ys.toArray.size), SeqAt.EqAt A.in1 s xs.toArray[j] ys.toArray[j] (ev j) := fun j h1 h2 => by simpa using he j (by simpa using h1) (by simpa using h2)
          have z := SeqAt.RcAt.tuples (e := ev) p1 q1 (show A.units < cLine by omega) he'
          have z2 := SeqAt.RcNeAt.tuples (e := ev) p1 q1 (show A.units < cLine by omega) he'
          rw [eb]
          exact ⟨by simpa using z, by simpa using z2⟩
      | opq o =>
        rw [eqD_opaqR o] at h
        cases h
      | _ => exact absurd rfl hm
    | lst p1 p2 =>
      cases q with
      | lst q1 q2 =>
        rename_i a xs ds a' ys es
        cases n with
        | zero =>
          unfold depD at hd
          omega
        | succ n =>
          have l1 := p2.length
          have l2 := q2.length
          have h' : (if ds.length = es.length then eqL ds es else some false) = some b := h
          by_cases hl : ds.length = es.length
          · rw [if_pos hl] at h'
            obtain ⟨ev, he, eb⟩ := eqL_at n (A := A.in1) p2 q2 (by unfold depD at hd; omega) (by show A.units + 1 + n < cLine; omega) h'
            have he' : ∀ (j : Nat) (h1 : j < xs.toArray.size) (h2 : j < ys.toArray.size), SeqAt.EqAt A.in1 s xs.toArray[j] ys.toArray[j] (ev j) := fun j h1 h2 => by simpa using he j (by simpa using h1) (by simpa using h2)
            have z := SeqAt.RcAt.lists (e := ev) p1 q1 (by simp; omega) (show A.units < cLine by omega) he'
            have z2 := SeqAt.RcNeAt.lists (e := ev) p1 q1 (by simp; omega) (show A.units < cLine by omega) he'
            have e3 : xs.length = ys.length := by omega
            have eb' : b = (List.range xs.length).all ev := by
              rw [eb, ← e3, Nat.min_self]
              simp
            rw [eb']
            exact ⟨by simpa using z, by simpa using z2⟩
          · rw [if_neg hl] at h'
            cases h'
            exact ⟨SeqAt.RcAt.lists_lengths p1 q1 (by simp; omega) (by omega), SeqAt.RcNeAt.lists_lengths p1 q1 (by simp; omega) (by omega)⟩
      | opq o =>
        rw [eqD_opaqR o] at h
        cases h
      | _ => exact absurd rfl hm
    | opq o =>
      rw [eqD_opaqL o] at h
      cases h
    | _ => exact absurd rfl hm
/-- x in items: the answers read off the values -/
theorem inL_at {s : Shared} (n : Nat) {x : Dat} {v : Value} {A : Around} (p : Lk s.heap x v) (hu : A.units + n < cLine) : ∀ {ds : List Dat} {us : List Value} {b : Bool}, LkL s.heap ds us → depL ds ≤ n → inL x ds = some b →
    ∃ e : Value → Bool, (∀ y, y ∈ us → SeqAt.EqAt A s y v (e y)) ∧ us.any e = b := by
  classical
  intro ds us b q hd h
  -- the answer of a value: of the datum that it is
  let e : Value → Bool := fun y => if c : ∃ d, Lk s.heap d y ∧ eqD d x = some true then true else false
  have key : ∀ {ds : List Dat} {us : List Value} {b : Bool}, LkL s.heap ds us → depL ds ≤ n → inL x ds = some b → (∀ y, y ∈ us → SeqAt.EqAt A s y v (e y)) ∧ us.any e = b := by
    intro ds
    induction ds with
    | nil =>
      intro us b q _ h
      cases q
      cases h
      exact ⟨fun y hy => by simp at hy, rfl⟩
    | cons d r ih =>
      intro us b q hd h
      cases q with
      | cons q1 q2 =>
        rename_i u us
        unfold depL at hd
        unfold inL at h
        cases e1 : eqD d x with
        | none => rw [e1] at h; cases h
        | some k1 =>
          rw [e1] at h
          cases e2 : inL x r with
          | none => rw [e2] at h; cases h
          | some k2 =>
            rw [e2] at h
            have h' : some (k1 || k2) = some b := h
            cases h'
            obtain ⟨i1, i2⟩ := ih q2 (by omega) e2
            have eu : e u = k1 := by
              show (if c : ∃ d, Lk s.heap d u ∧ eqD d x = some true then true else false) = k1
              split
              · rename_i c
                obtain ⟨d', c1, c2⟩ := c
                exact c1.uniq q1 c2 e1
              · rename_i c
                cases k1 with
                | false => rfl
                | true => exact absurd ⟨d, q1, e1⟩ c
            refine ⟨fun y hy => ?_, ?_⟩
            · rcases List.mem_cons.mp hy with rfl | hy
              · rw [eu]
                exact eqD_at n q1 p (by omega) hu e1
              · exact i1 y hy
            · rw [List.any_cons, i2, eu]
  exact ⟨e, key q hd h⟩
/- from the ghost -/
section
variable {W : Wd} {X : Cx} {pins : List (Addr × Obj)} {σ σ' : L2.St} {H : Hp} {s : Shared} {g : Gh} {P : Hp} {st : Stt} (hK : X.K = W.K) (I : L2.Inv X pins σ H s) (r : Rel W g P st σ' H)
include hK I r
mutual
theorem R.lk : ∀ {d : Dat} {v : V} {u : Value}, R W g d v → RelV v u → Lk s.heap d u
  | _, _, _, .non, q => by cases q; exact .non
  | _, _, _, .bl b, q => by cases q; exact .bl b
  | _, _, _, .int i, q => by obtain ⟨t, rfl⟩ := q; exact .int i t
  | _, _, _, .str x, q => by obtain ⟨t, rfl⟩ := q; exact .str x t
  | _, _, _, .tup p1 p2, q => by
    cases q
    have p1' := sqT_mono r.fz p1
    rw [← hK] at p1'
    obtain ⟨its, rv, ht, _⟩ := I.tuple p1'
    exact .tup ht (Rs.lk p2 rv)
  | _, _, _, .lst p1 p2, q => by
    cases q
    obtain ⟨its, rv, ht, _⟩ := I.list (SqL.of (r.fz _ _ p1))
    exact .lst ht.isList (Rs.lk p2 rv)
  | _, _, _, .dct _ _, _ => .opq rfl
  | _, _, _, .obj _ _, _ => .opq rfl
  | _, _, _, .ref _, _ => .opq rfl
  | _, _, _, .fn _, _ => .opq rfl
  | _, _, _, .cls _, _ => .opq rfl
  | _, _, _, .ty _, _ => .opq rfl
  | _, _, _, .scr _ _, _ => .opq rfl
theorem Rs.lk : ∀ {ds : List Dat} {vs : List V} {us : List Value}, Rs W g ds vs → Vals vs us → LkL s.heap ds us
  | _, _, _, .nil, q => by cases q; exact .nil
  | _, _, _, .cons p1 p2, q => by
    cases q with
    | cons q1 q2 => exact .cons (R.lk p1 q1) (Rs.lk p2 q2)
end
end
end En
set_option maxHeartbeats 4000000
/-! En6: comparisons. -/
namespace En
open PySem PySem.Spec PyProof.Rows L2
def COp.py : COp → CmpOp
  | .eq => .Eq
  | .ne => .NotEq
  | .lt => .Lt
  | .le => .LtE
  | .gt => .Gt
  | .ge => .GtE
  | .isin => .In
  | .notin => .NotIn
  | .is => .Is
  | .isnot => .IsNot
section
variable {W : Wd} {wx : WX}
/-- a comparison's answer by values -/
def cmpK (op : COp) (x y : Rv) : Ac Rv := (lookA x).bind fun w => (lookA y).bind fun w' => Ac.opt ((w.cmp op w').map fun b => .val (.bl b))
section
variable {X : Cx} {pins : List (Addr × Obj)} {σ σ' : L2.St} {H : Hp} {s : Shared} {g : Gh} {P : Hp} {st : Stt}
theorem VwR.lk (hK : X.K = W.K) (I : L2.Inv X pins σ H s) (r : Rel W g P st σ' H) {w : Vw} {v : V} {u : Value} {d : Dat} (q : VwR W g H w v) (rv : RelV v u) (e : w.dat = some d) : Lk s.heap d u := by
  cases w with
  | dt d' =>
    cases e
    exact R.lk hK I r q rv
  | mb o =>
    cases o <;> first | cases e | skip
    obtain ⟨a, ho, rfl, h1, h2⟩ := q
    cases ho <;> first | exact False.elim h2 | skip
    cases rv
    obtain ⟨its, rv, ht, _⟩ := I.list (SqL.of h1)
    exact .lst ht.isList (Rs.lk hK I r h2 rv)
theorem Rk.val {ds : List (Key × Dat)} {vs : List (Key × V)} (h : Rk W g ds vs) (k : Key) : (∀ d, getK ds k = some d → ∃ v, valV vs k = some v ∧ R W g d v) ∧ (getK ds k = none → valV vs k = none) := by
  induction ds generalizing vs with
  | nil =>
    cases h
    exact ⟨fun d e => by simp [getK] at e, fun _ => rfl⟩
  | cons p ds ih =>
    cases h with
    | cons r t =>
      rename_i k' d v vs
      by_cases e : k' = k
      · subst e
        refine ⟨fun d' h' => ?_, fun h' => ?_⟩
        · have h2 : some d = some d' := by simpa [getK, List.find?_cons] using h'
          cases h2
          exact ⟨v, valV_pos rfl, r⟩
        · exfalso
          simp [getK, List.find?_cons] at h'
      · obtain ⟨i1, i2⟩ := ih t
        refine ⟨fun d' h' => ?_, fun h' => ?_⟩
        · have h2 : getK ds k = some d' := by simpa [getK, List.find?_cons, e] using h'
          obtain ⟨v', e1, e2⟩ := i1 d' h2
          exact ⟨v', by rw [valV_neg e]; exact e1, e2⟩
        · have h2 : getK ds k = none := by simpa [getK, List.find?_cons, e] using h'
          rw [valV_neg e]
          exact i2 h2
theorem Rk.some_eq {ds : List (Key × Dat)} {vs : List (Key × V)} (h : Rk W g ds vs) (k : Key) : (valV vs k).isSome = (getK ds k).isSome := by
  obtain ⟨h1, h2⟩ := h.val k
  cases e : getK ds k with
  | none => rw [h2 e] <;> rfl
  | some d =>
    obtain ⟨v, e2, _⟩ := h1 d e
    rw [e2] <;> rfl
/-- x in y, not in -/
theorem isin_ok (hK : X.K = W.K) (hu : X.A.units + 64 < cLine) (I : L2.Inv X pins σ H s) (r : Rel W g P st σ' H) {w w' : Vw} {x y : V} {v u : Value} {b : Bool} (qx : VwR W g H w x) (qy : VwR W g H w' y) (rx : RelV x v) (ry : RelV y u) (e : w'.isin w = some b) {Q : VK} :
    (Q (.bl b) H → wpAny (model X.prog X.w) X.A (compareOp .In v u) (EP X pins σ Q) X.xe s) ∧ (Q (.bl (!b)) H → wpAny (model X.prog X.w) X.A (compareOp .NotIn v u) (EP X pins σ Q) X.xe s) := by
  have dct : ∀ {kvs : List (Key × Dat)} {k : Key}, w'.dct = some kvs → x = kV k → b = (getK kvs k).isSome → (Q (.bl b) H → wpAny (model X.prog X.w) X.A (compareOp .In v u) (EP X pins σ Q) X.xe s) ∧ (Q (.bl (!b)) H → wpAny (model X.prog X.w) X.A (compareOp .NotIn v u) (EP X pins σ Q) X.xe s) := by
    intro kvs k h1 h2 h3
    subst h2
    obtain ⟨a, vs, rfl, e2, e3⟩ := qy.dct r h1
    cases ry
    have gt := DGet.k (k := k) e2
    rw [h3, ← e3.some_eq k]
    exact ⟨fun q => d_in (by omega) I gt rx fun s' I' => ⟨.bl _, H, I', rfl, q⟩, fun q => d_notIn (by omega) I gt rx fun s' I' => ⟨.bl _, H, I', rfl, q⟩⟩
  unfold Vw.isin at e
  split at e
  · rename_i xs d hs
    split at e
    · rename_i hd
      have lx := VwR.lk hK I r qx rx (d := d) rfl
      unfold Vw.seq at hs
      split at hs
      · rename_i xs' hl
        cases hs
        obtain ⟨a, vs, rfl, e2, e3⟩ := qy.lst r hl
        cases ry
        obtain ⟨its, rv, ht, _⟩ := I.list (SqL.of e2)
        obtain ⟨ev, h1, h2⟩ := inL_at (A := X.A.in1) 60 lx (by show X.A.units + 1 + 60 < cLine; omega) (Rs.lk hK I r e3 rv) hd e
        exact ⟨fun q => SeqAt.in_listAt ev ht.isList (fun y hy => h1 y (by simpa using hy)) ⟨.bl b, H, I, by simp [L2.RelV, h2], q⟩, fun q => SeqAt.notIn_listAt ev ht.isList (fun y hy => h1 y (by simpa using hy)) ⟨.bl (!b), H, I, by simp [L2.RelV, h2], q⟩⟩
      · rename_i hl
        obtain ⟨a, vs, rfl, e2, e3⟩ := qy.tup r hs
        rw [← hK] at e2
        cases ry
        obtain ⟨its, rv, ht, _⟩ := I.tuple e2
        obtain ⟨ev, h1, h2⟩ := inL_at (A := X.A.in1) 60 lx (by show X.A.units + 1 + 60 < cLine; omega) (Rs.lk hK I r e3 rv) hd e
        exact ⟨fun q => SeqAt.in_tupleAt ev ht (fun y hy => h1 y (by simpa using hy)) ⟨.bl b, H, I, by simp [L2.RelV, h2], q⟩, fun q => SeqAt.notIn_tupleAt ev ht (fun y hy => h1 y (by simpa using hy)) ⟨.bl (!b), H, I, by simp [L2.RelV, h2], q⟩⟩
    · cases e
  · rename_i c hs
    obtain rfl := R.strE qx
    split at e
    · rename_i z
      obtain rfl := R.strE qy
      split at e
      · rename_i k hc
        cases e
        have ec : c = ⟨#[k]⟩ := by
          cases c with
          | mk cps =>
            have : cps = #[k] := by
              apply Array.toList_inj.mp
              simpa using hc
            rw [this]
        subst ec
        exact ⟨fun q => op_in_sign pins s σ H _ _ v u Q I rx ry ⟨k, z, rfl, rfl, q⟩, fun q => op_notIn_sign pins s σ H _ _ v u Q I rx ry ⟨k, z, rfl, rfl, q⟩⟩
      · cases e
    · split at e
      · rename_i kvs hk
        cases e
        exact dct (k := .inr c) hk rfl rfl
      · cases e
  · rename_i i hs
    obtain rfl := R.intE qx
    split at e
    · rename_i kvs hk
      cases e
      exact dct (k := .inl i) hk rfl rfl
    · cases e
  · cases e
end
theorem isNon_ok {g : Gh} {H : Hp} {w : Vw} {v : V} (q : VwR W g H w v) : decide (v = .non) = w.isNon := by
  cases w with
  | dt d =>
    have q' : R W g d v := q
    cases q' <;> rfl
  | mb o =>
    obtain ⟨a, ho, rfl, _⟩ := q
    rfl
/-- a op b, by values -/
def rCmp (W : Wd) (wx : WX) (op : COp) : R2 := fun v u H Q => ∃ σ, fin2 W wx rvK rvK rvK (cmpK op) σ v u H Q
theorem op_cmp {X : Cx} (hK : X.K = W.K) (hu : X.A.units + 64 < cLine) (op : COp) : OpR X (compareOp op.py) (rCmp W wx op) := by
  intro pins s σ H x y v u Q I rx ry h
  obtain ⟨σ', g, P, st, a, b, r, ra, rb, p1⟩ := h
  obtain ⟨w, e1, p2⟩ := Post.lookE p1
  obtain ⟨w', e2, p3⟩ := Post.lookE p2
  obtain ⟨rv, e3, p⟩ := Post.optE p3
  clear p1 p2 p3
  have q1 := look_ok r ra e1
  have q2 := look_ok r rb e2
  cases e4 : w.cmp op w' with
  | none =>
    rw [e4] at e3
    cases e3
  | some k =>
    rw [e4] at e3
    have e3' : some (Rv.val (.bl k)) = some rv := e3
    cases e3'
    have q : Q (.bl k) H := p g H (.refl g) r _ (R.bl k)
    clear e1 e2 e3 p
    have eq : ∀ {k}, w.eq w' = some k → SeqAt.RcAt X.A s v u k ∧ SeqAt.RcNeAt X.A s v u (!k) := fun {k} h => by
      unfold Vw.eq at h
      split at h
      · rename_i d e h1 h2
        split at h
        · exact eqD_rc 60 (VwR.lk hK I r q1 rx h1) (VwR.lk hK I r q2 ry h2) (by assumption) (by omega) h
        · cases h
      · cases h
    have fin : ∀ {k' : Bool}, k' = k → EP X pins σ Q (.bool k') s := fun e => ⟨.bl k, H, I, by rw [e]; rfl, q⟩
    unfold Vw.cmp at e4
    split at e4
    · exact (eq e4).1 _ _ _ _ (fin rfl)
    · cases e5 : w.eq w' with
      | none =>
        rw [e5] at e4
        cases e4
      | some k' =>
        rw [e5] at e4
        have e4' : some (!k') = some k := e4
        cases e4'
        exact (eq e5).2 _ _ _ _ (fin rfl)
    · obtain rfl := R.intE q1; obtain rfl := R.intE q2; cases e4
      exact op_lt pins s σ H _ _ v u Q I rx ry ⟨_, _, rfl, rfl, q⟩
    · obtain rfl := R.intE q1; obtain rfl := R.intE q2; cases e4
      exact op_le pins s σ H _ _ v u Q I rx ry ⟨_, _, rfl, rfl, q⟩
    · obtain rfl := R.intE q1; obtain rfl := R.intE q2; cases e4
      exact op_gt pins s σ H _ _ v u Q I rx ry ⟨_, _, rfl, rfl, q⟩
    · obtain rfl := R.intE q1; obtain rfl := R.intE q2; cases e4
      exact op_ge pins s σ H _ _ v u Q I rx ry ⟨_, _, rfl, rfl, q⟩
    · obtain rfl := R.strE q1; obtain rfl := R.strE q2; cases e4
      exact op_lt_str pins s σ H _ _ v u Q I rx ry ⟨_, _, rfl, rfl, q⟩
    · obtain rfl := R.strE q1; obtain rfl := R.strE q2; cases e4
      exact op_le_str pins s σ H _ _ v u Q I rx ry ⟨_, _, rfl, rfl, q⟩
    · exact (isin_ok hK hu I r q1 q2 rx ry e4).1 q
    · cases e5 : w'.isin w with
      | none =>
        rw [e5] at e4
        cases e4
      | some k' =>
        rw [e5] at e4
        have e4' : some (!k') = some k := e4
        cases e4'
        exact (isin_ok hK hu I r q1 q2 rx ry e5).2 q
    · obtain rfl := R.blE q1; obtain rfl := R.blE q2; cases e4
      exact op_isBl pins s σ H _ _ v u Q I rx ry ⟨_, _, rfl, rfl, q⟩
    · obtain rfl := R.nonE q2
      have z := isNon_ok q1
      cases e4
      rw [← z] at q
      exact op_isN pins s σ H _ _ v u Q I rx ry ⟨rfl, q⟩
    · obtain rfl := R.blE q1; obtain rfl := R.blE q2; cases e4
      exact op_notBl pins s σ H _ _ v u Q I rx ry ⟨_, _, rfl, rfl, q⟩
    · obtain rfl := R.nonE q2
      have z := isNon_ok q1
      cases e4
      rw [← z] at q
      exact op_notN pins s σ H _ _ v u Q I rx ry ⟨rfl, q⟩
    · cases e4
end
end En
set_option maxHeartbeats 4000000
/-! En7: expressions, construct by construct. -/
namespace En
open PySem PySem.Spec PyProof.Rows L2
section
variable {W : Wd} {wx : WX} {X : Cx}
/-- the expression does what the action does -/
abbrev SE (W : Wd) (wx : WX) (X : Cx) (m : Ac Rv) (e : Expr) : Prop := PE X e (tX W wx rvK m)
abbrev ST (W : Wd) (wx : WX) (X : Cx) (m : Ac Bool) (e : Expr) : Prop := PT X e (tX W wx (eqK Bool) m)
abbrev SA (W : Wd) (wx : WX) (X : Cx) (m : Ac (List Dat)) (es : List Expr) : Prop := PA X es (tX W wx dsK m)
abbrev SD (W : Wd) (wx : WX) (X : Cx) (m : Ac Dat) (e : Expr) : Prop := PE X e (tX W wx dtK m)
theorem se_con {e : Expr} {d : Dat} {v : V} (p : PE X e (tC v)) (h : ∀ g, R W g d v) : SE W wx X (Ac.ret (.val d)) e :=
  peImp p fun σ H Q ⟨g, P, s, r, q⟩ => q g H (.refl g) r v (h g)
def slotA (i : Nat) : Ac Rv := fun s => match s.env[i]? with
  | some (.val d) => .ok (.val d) s
  | some (.own _) => .ok (.bor i) s
  | _ => .stuck
theorem se_slot {e : Expr} {i : Nat} (p : PE X e (tVar i)) : SE W wx X (slotA i) e := peImp p fun σ H Q ⟨g, P, s, r, q⟩ => by
  unfold slotA at q
  cases h : s.env[i]? with
  | none =>
    simp only [h] at q
    exact q.elim
  | some x =>
    cases x with
    | no =>
      simp only [h] at q
      exact q.elim
    | val d =>
      simp only [h] at q
      obtain ⟨v, e1, e2⟩ := r.slv i d h
      exact ⟨v, e1, q g H (.refl g) r v e2⟩
    | own o =>
      simp only [h] at q
      obtain ⟨a, ho, e1, _⟩ := r.slo i o h
      exact ⟨.ref a, e1, q g H (.refl g) r _ e1⟩
/-- .. and its data -/
theorem sd_of {e : Expr} {m : Ac Rv} (p : SE W wx X m e) : SD W wx X (m.bind toVal) e := peImp p fun σ H Q h => by
  obtain ⟨g, P, s, r, q⟩ := h
  refine ⟨g, P, s, r, (Post.bindE q).mono fun x s1 g1 H1 l1 r1 q1 v hv => ?_⟩
  cases e : toVal x s1 with
  | ok d s2 =>
    rw [e] at q1
    obtain ⟨g2, l2, r2, hd⟩ := toVal_ok r1 hv e
    exact q1 g2 H1 l2 r2 v hd
  | exc x s2 => exact absurd e toVal_ne
  | stuck =>
    rw [e] at q1
    exact q1.elim
theorem sa_nil : SA W wx X (Ac.ret []) [] := paImp pa_nil fun σ H Q ⟨g, P, s, r, q⟩ => q g H (.refl g) r [] .nil
theorem sa_cons {e : Expr} {es : List Expr} {m : Ac Dat} {ms : Ac (List Dat)} (p : SD W wx X m e) (ps : SA W wx X ms es) (hs : starEach (e :: es) X.env = (false, eval e X.env) :: starEach es X.env) :
    SA W wx X (m.bind fun b => ms.bind fun bs => Ac.ret (b :: bs)) (e :: es) := paImp (pa_cons p ps hs) fun σ H Q h => by
  obtain ⟨g, P, s, r, q⟩ := h
  refine ⟨g, P, s, r, (Post.bindE q).mono fun x s1 g1 H1 l1 r1 q1 v hv => ?_⟩
  refine ⟨g1, P, s1, r1, (Post.bindE q1).mono fun xs s2 g2 H2 l2 r2 q2 vs hvs => ?_⟩
  exact q2 g2 H2 (.refl g2) r2 _ (.cons (R.mono l2 hv) hvs)
theorem se_tup {es : List Expr} {ms : Ac (List Dat)} {k : Nat} {pos : Pos} (p : SA W wx X ms es) : SE W wx X (ms.bind fun ds => if ds.length ≤ sizeLine then Ac.ret (.val (.tup ds)) else Ac.stk) (.Tuple es k pos) := peImp (pe_tup p) fun σ H Q h => by
  obtain ⟨g, P, s, r, q⟩ := h
  refine ⟨g, P, s, r, (Post.bindE q).mono fun ds s1 g1 H1 l1 r1 q1 vs hv => ?_⟩
  by_cases hz : ds.length ≤ sizeLine
  · rw [if_pos hz] at q1
    refine ⟨by rw [← hv.length]; exact hz, fun p hp => ?_⟩
    obtain ⟨n1, n2, n3⟩ := r1.newTup hp hv
    exact q1 _ _ n1 n2 _ n3
  · rw [if_neg hz] at q1
    exact q1.elim
theorem se_lst {es : List Expr} {ms : Ac (List Dat)} {pos : Pos} (p : SA W wx X ms es) : SE W wx X (ms.bind fun ds => if ds.length ≤ sizeLine then Ac.ret (.own (.lst ds)) else Ac.stk) (.List es pos) := peImp (pe_lst p) fun σ H Q h => by
  obtain ⟨g, P, s, r, q⟩ := h
  refine ⟨g, P, s, r, (Post.bindE q).mono fun ds s1 g1 H1 l1 r1 q1 vs hv => ?_⟩
  by_cases hz : ds.length ≤ sizeLine
  · rw [if_pos hz] at q1
    refine ⟨by rw [← hv.length]; exact hz, fun p hp => ?_⟩
    obtain ⟨n2, n3⟩ := r1.newOwn (o := .lst ds) (ho := .lst vs) hp hv
    exact q1 g1 _ (.refl g1) n2 _ n3
  · rw [if_neg hz] at q1
    exact q1.elim
theorem se_bin {a b : Expr} {ma mb : Ac Rv} {pos : Pos} (hK : X.K = W.K) (op : BOp) (pa : SE W wx X ma a) (pb : SE W wx X mb b) : SE W wx X (ma.bind fun x => mb.bind fun y => binK op x y) (.BinOp a op.py b pos) :=
  peImp (pe_op (op_bin (wx := wx) hK op) pa pb) fun σ H Q h => by
    obtain ⟨g, P, s, r, q⟩ := tX_bind2 h
    exact ⟨g, P, s, r, q.mono fun x s1 g1 H1 l1 r1 q1 v hv => by
      obtain ⟨g2, P2, s2, r2, q2⟩ := q1 v hv
      exact ⟨g2, P2, s2, r2, q2.mono fun y s3 g3 H3 l3 r3 q3 u hu => ⟨σ, q3 u hu⟩⟩⟩
theorem se_cmp {a b : Expr} {ma mb : Ac Rv} {pos : Pos} (hK : X.K = W.K) (hu : X.A.units + 64 < cLine) (op : COp) (pa : SE W wx X ma a) (pb : SE W wx X mb b) (hm : behindInMarks op.py b = false) : SE W wx X (ma.bind fun x => mb.bind fun y => cmpK op x y) (.Compare a [op.py] [b] pos) :=
  peImp (pe_cmpR (op_cmp (wx := wx) hK hu op) pa pb hm) fun σ H Q h => by
    obtain ⟨g, P, s, r, q⟩ := tX_bind2 h
    exact ⟨g, P, s, r, q.mono fun x s1 g1 H1 l1 r1 q1 v hv => by
      obtain ⟨g2, P2, s2, r2, q2⟩ := q1 v hv
      exact ⟨g2, P2, s2, r2, q2.mono fun y s3 g3 H3 l3 r3 q3 u hu => ⟨σ, q3 u hu⟩⟩⟩
/-! truth -/
theorem truth_ok {g : Gh} {P : Hp} {s : Stt} {σ : L2.St} {H : Hp} {w : Vw} {v : V} {k : Bool} (r : Rel W g P s σ H) (q : VwR W g H w v) (e : w.truth = some k) : TruV W.K v H k := by
  have seq : ∀ {k}, (match w.seq with
    | some xs => some (!xs.isEmpty)
    | none => match w.dct with
      | some kvs => some (!kvs.isEmpty)
      | none => none) = some k → TruV W.K v H k := fun {k} h => by
    split at h
    · rename_i xs hs
      unfold Vw.seq at hs
      cases h
      split at hs
      · rename_i ys hl
        cases hs
        obtain ⟨a, vs, rfl, e2, e3⟩ := q.lst r hl
        exact .inl ⟨vs, SqL.of e2, by cases e3 <;> rfl⟩
      · obtain ⟨a, vs, rfl, e2, e3⟩ := q.tup r hs
        exact .inr (.inl ⟨vs, e2, by cases e3 <;> rfl⟩)
    · split at h
      · rename_i kvs hd
        cases h
        obtain ⟨a, vs, rfl, e2, e3⟩ := q.dct r hd
        exact .inr (.inr ⟨vs, e2, by cases e3 <;> rfl⟩)
      · cases h
  unfold Vw.truth at e
  split at e
  · obtain rfl := R.nonE q
    cases e
    rfl
  · obtain rfl := R.blE q
    cases e
    rfl
  · obtain rfl := R.intE q
    cases e
    rfl
  · obtain rfl := R.strE q
    split at e
    · cases e
      exact ⟨by assumption, rfl⟩
    · cases e
  · exact seq e
/-- the truth of a result -/
def truA (x : Rv) : Ac Bool := (lookA x).bind fun w => Ac.opt w.truth
theorem tru_imp {m : Ac Rv} {σ : L2.St} {H : Hp} {Q : Bool → Hp → Prop} (h : tX W wx (eqK Bool) (m.bind truA) σ H Q) : tX W wx rvK m σ H fun v H1 => ∃ k, TruV W.K v H1 k ∧ Q k H1 := by
  obtain ⟨g, P, s, r, q⟩ := h
  refine ⟨g, P, s, r, (Post.bindE q).mono fun x s1 g1 H1 l1 r1 q1 v hv => ?_⟩
  obtain ⟨w, e1, q2⟩ := Post.lookE q1
  obtain ⟨k, e2, q3⟩ := Post.optE q2
  exact ⟨k, truth_ok r1 (look_ok r1 hv e1) e2, q3 g1 H1 (.refl g1) r1 k rfl⟩
theorem st_truth {e : Expr} {m : Ac Rv} (hK : X.K = W.K) (p : SE W wx X m e) (he : ∀ whole, isTrue e X.env whole = (do let v ← whole; standAt e.pos; holding [v] (truthy v))) : ST W wx X (m.bind truA) e :=
  ptImp (pt_truth p he) fun σ H Q h => by
    rw [hK]
    exact tru_imp h
/-- an action that answers a bool -/
def BlA (m : Ac Rv) : Prop := ∀ s x s', m s = .ok x s' → ∃ b, x = .val (.bl b)
theorem tru_bl {m : Ac Rv} {σ : L2.St} {H : Hp} {Q : Bool → Hp → Prop} (hm : BlA m) (h : tX W wx (eqK Bool) (m.bind truA) σ H Q) : tX W wx rvK m σ H fun v H1 => ∃ k, v = .bl k ∧ Q k H1 := by
  obtain ⟨g, P, s, r, q⟩ := h
  refine ⟨g, P, s, r, ?_⟩
  have q' := Post.bindE q
  have bl := hm s
  revert q' bl
  generalize m s = o
  intro q' bl
  cases o with
  | ok x s1 =>
    obtain ⟨b, rfl⟩ := bl x s1 rfl
    intro g1 H1 l1 r1 v hv
    obtain rfl := R.blE hv
    have q1 := q' g1 H1 l1 r1
    have q2 : Post W wx g1 P σ (.ok b s1) _ := q1
    exact ⟨b, rfl, q2 g1 H1 (.refl g1) r1 b rfl⟩
  | exc x s1 => exact q'
  | stuck => exact q'
theorem bl_bind {α : Type} {m : Ac α} {f : α → Ac Rv} (h : ∀ a, BlA (f a)) : BlA (m.bind f) := fun s x s' e => by
  unfold Ac.bind at e
  cases q : m s with
  | ok a s1 =>
    rw [q] at e
    exact h a s1 x s' e
  | exc a s1 =>
    rw [q] at e
    cases e
  | stuck =>
    rw [q] at e
    cases e
theorem bl_opt {o : Option Bool} : BlA (Ac.opt (o.map fun b => .val (.bl b))) := fun s x s' e => by
  cases o with
  | none => cases e
  | some b =>
    cases e
    exact ⟨b, rfl⟩
theorem bl_ret {b : Bool} : BlA (Ac.ret (.val (.bl b))) := fun s x s' e => by
  cases e
  exact ⟨b, rfl⟩
theorem bl_cmpK {op : COp} {x y : Rv} : BlA (cmpK op x y) := bl_bind fun _ => bl_bind fun _ => bl_opt
theorem st_cmp {a b : Expr} {ma mb : Ac Rv} {pos : Pos} (hK : X.K = W.K) (hu : X.A.units + 64 < cLine) (op : COp) (pa : SE W wx X ma a) (pb : SE W wx X mb b) (hm : behindInMarks op.py b = false) : ST W wx X ((ma.bind fun x => mb.bind fun y => cmpK op x y).bind truA) (.Compare a [op.py] [b] pos) :=
  ptImp (pt_cmpR (op_cmp (wx := wx) hK hu op) pa pb hm) fun σ H Q h => by
    have h2 := tru_bl (bl_bind fun _ => bl_bind fun _ => bl_cmpK) h
    obtain ⟨g, P, s, r, q⟩ := tX_bind2 h2
    exact ⟨g, P, s, r, q.mono fun x s1 g1 H1 l1 r1 q1 v hv => by
      obtain ⟨g2, P2, s2, r2, q2⟩ := q1 v hv
      exact ⟨g2, P2, s2, r2, q2.mono fun y s3 g3 H3 l3 r3 q3 u hu => ⟨σ, q3 u hu⟩⟩⟩
/-! chains -/
def chnA (op op' : COp) (ma : Ac Rv) (mb : Ac Dat) (mc : Ac Rv) : Ac Rv := ma.bind fun x => mb.bind fun d => (lookA x).bind fun w => (lookA (.val d)).bind fun w' => (Ac.opt (w.cmp op w')).bind fun k =>
  if k then mc.bind fun z => cmpK op' (.val d) z else Ac.ret (.val (.bl false))
theorem chn_imp {op op' : COp} {ma mc : Ac Rv} {mb : Ac Dat} {σ : L2.St} {H : Hp} {Q : VK} (h : tX W wx rvK (chnA op op' ma mb mc) σ H Q) : tChain (rCmp W wx op) (rCmp W wx op') (tX W wx rvK ma) (tX W wx dtK mb) (tX W wx rvK mc) σ H Q := by
  obtain ⟨g, P, s, r, q⟩ := tX_bind2 (B := dtK) h
  refine ⟨g, P, s, r, q.mono fun x s1 g1 H1 l1 r1 q1 v hv => ?_⟩
  obtain ⟨g2, P2, s2, r2, q2⟩ := q1 v hv
  refine ⟨g2, P2, s2, r2, q2.mono fun y s3 g3 H3 l3 r3 q3 u hu => ?_⟩
  obtain ⟨g4, P4, s4, x4, y4, r4, hx4, hy4, p4⟩ := q3 u hu
  refine ⟨σ, g4, P4, s4, x4, .val y4, r4, hx4, hy4, ?_⟩
  obtain ⟨w, e1, p5⟩ := Post.lookE p4
  obtain ⟨w', e2, p6⟩ := Post.lookE p5
  have p7 := Post.bindE p6
  obtain ⟨k, e3, p8⟩ := Post.optE p7
  have ec : cmpK op x4 (.val y4) s4 = .ok (.val (.bl k)) s4 := by
    unfold cmpK Ac.bind lookA
    simp only [e1, Out.bind, e2, e3]
    rfl
  rw [ec]
  intro g5 H5 l5 r5 w5 hw5
  obtain rfl := R.blE hw5
  refine ⟨k, rfl, ?_⟩
  have p9 := p8 g5 H5 l5 r5
  cases k with
  | false =>
    rw [if_neg (by decide)] at p9 ⊢
    exact p9 g5 H5 (.refl g5) r5 _ (R.bl false)
  | true =>
    rw [if_pos rfl] at p9 ⊢
    refine ⟨g5, P4, s4, r5, (Post.bindE p9).mono fun z s6 g6 H6 l6 r6 q6 vz hz => ?_⟩
    exact ⟨σ, g6, P4, s6, .val y4, z, r6, R.mono (l5.trans l6) hy4, hz, q6⟩
theorem se_chn {a b c : Expr} {ma mc : Ac Rv} {mb : Ac Dat} {pos : Pos} (hK : X.K = W.K) (hu : X.A.units + 64 < cLine) (op op' : COp) (pa : SE W wx X ma a) (pb : SD W wx X mb b) (pc : SE W wx X mc c) (hm : lastMarks [op.py, op'.py] [b, c] = false) :
    SE W wx X (chnA op op' ma mb mc) (.Compare a [op.py, op'.py] [b, c] pos) := peImp (pe_chain (op_cmp (wx := wx) hK hu op) (op_cmp (wx := wx) hK hu op') pa pb pc hm) fun σ H Q h => chn_imp h
theorem bl_ite {c : Prop} [Decidable c] {m m' : Ac Rv} (h : BlA m) (h' : BlA m') : BlA (if c then m else m') := by
  by_cases e : c
  · rw [if_pos e]
    exact h
  · rw [if_neg e]
    exact h'
theorem bl_chnA {op op' : COp} {ma mc : Ac Rv} {mb : Ac Dat} : BlA (chnA op op' ma mb mc) :=
  bl_bind fun _ => bl_bind fun _ => bl_bind fun _ => bl_bind fun _ => bl_bind fun _ => bl_ite (bl_bind fun _ => bl_cmpK) bl_ret
theorem st_chn {a b c : Expr} {ma mc : Ac Rv} {mb : Ac Dat} {pos : Pos} (hK : X.K = W.K) (hu : X.A.units + 64 < cLine) (op op' : COp) (pa : SE W wx X ma a) (pb : SD W wx X mb b) (pc : SE W wx X mc c) (hm : lastMarks [op.py, op'.py] [b, c] = false) :
    ST W wx X ((chnA op op' ma mb mc).bind truA) (.Compare a [op.py, op'.py] [b, c] pos) := ptImp (pt_chain (op_cmp (wx := wx) hK hu op) (op_cmp (wx := wx) hK hu op') pa pb pc hm) fun σ H Q h => chn_imp (tru_bl bl_chnA h)

/-! and, or, not, if-else -/
theorem se_and {a b : Expr} {rest : List Expr} {ma mb : Ac Rv} {pos : Pos} (hK : X.K = W.K) (pa : SE W wx X ma a) (pb : SE W wx X mb (.BoolOp .And (b :: rest) pos)) :
    SE W wx X (ma.bind fun x => (lookA x).bind fun w => (Ac.opt w.truth).bind fun k => if k then mb else Ac.ret x) (.BoolOp .And (a :: b :: rest) pos) := peImp (pe_andT pa pb) fun σ H Q h => by
  obtain ⟨g, P, s, r, q⟩ := h
  refine ⟨g, P, s, r, (Post.bindE q).mono fun x s1 g1 H1 l1 r1 q1 v hv => ?_⟩
  obtain ⟨w, e1, q2⟩ := Post.lookE q1
  obtain ⟨k, e2, q3⟩ := Post.optE (Post.bindE q2)
  refine ⟨k, by rw [hK]; exact truth_ok r1 (look_ok r1 hv e1) e2, ?_⟩
  have q4 := q3 g1 H1 (.refl g1) r1
  cases k with
  | true =>
    rw [if_pos rfl] at q4 ⊢
    exact ⟨g1, P, s1, r1, q4⟩
  | false =>
    rw [if_neg (by decide)] at q4 ⊢
    exact q4 g1 H1 (.refl g1) r1 v hv
theorem se_or {a b : Expr} {rest : List Expr} {ma mb : Ac Rv} {pos : Pos} (hK : X.K = W.K) (pa : SE W wx X ma a) (pb : SE W wx X mb (.BoolOp .Or (b :: rest) pos)) :
    SE W wx X (ma.bind fun x => (lookA x).bind fun w => (Ac.opt w.truth).bind fun k => if k then Ac.ret x else mb) (.BoolOp .Or (a :: b :: rest) pos) := peImp (pe_orT pa pb) fun σ H Q h => by
  obtain ⟨g, P, s, r, q⟩ := h
  refine ⟨g, P, s, r, (Post.bindE q).mono fun x s1 g1 H1 l1 r1 q1 v hv => ?_⟩
  obtain ⟨w, e1, q2⟩ := Post.lookE q1
  obtain ⟨k, e2, q3⟩ := Post.optE (Post.bindE q2)
  refine ⟨k, by rw [hK]; exact truth_ok r1 (look_ok r1 hv e1) e2, ?_⟩
  have q4 := q3 g1 H1 (.refl g1) r1
  cases k with
  | true =>
    rw [if_pos rfl] at q4 ⊢
    exact q4 g1 H1 (.refl g1) r1 v hv
  | false =>
    rw [if_neg (by decide)] at q4 ⊢
    exact ⟨g1, P, s1, r1, q4⟩
theorem se_not {a : Expr} {ma : Ac Rv} {pos : Pos} (hK : X.K = W.K) (pa : SE W wx X ma a) :
    SE W wx X (ma.bind fun x => (lookA x).bind fun w => (Ac.opt w.truth).bind fun k => Ac.ret (.val (.bl (!k)))) (.UnaryOp .Not a pos) := peImp (pe_notT pa) fun σ H Q h => by
  obtain ⟨g, P, s, r, q⟩ := h
  refine ⟨g, P, s, r, (Post.bindE q).mono fun x s1 g1 H1 l1 r1 q1 v hv => ?_⟩
  obtain ⟨w, e1, q2⟩ := Post.lookE q1
  obtain ⟨k, e2, q3⟩ := Post.optE (Post.bindE q2)
  refine ⟨k, by rw [hK]; exact truth_ok r1 (look_ok r1 hv e1) e2, ?_⟩
  exact q3 g1 H1 (.refl g1) r1 g1 H1 (.refl g1) r1 _ (R.bl _)
/-- what follows a test -/
theorem tb_ite {β γ : Type} {B : RR W β γ} {mc : Ac Bool} {ma mb : Ac β} {σ : L2.St} {H : Hp} {Q : γ → Hp → Prop} (h : tX W wx B (mc.bind fun k => if k then ma else mb) σ H Q) :
    tX W wx (eqK Bool) mc σ H fun k H1 => if k = true then tX W wx B ma σ H1 Q else tX W wx B mb σ H1 Q := by
  obtain ⟨g, P, s, r, q⟩ := h
  refine ⟨g, P, s, r, (Post.bindE q).mono fun x s1 g1 H1 l1 r1 q1 v hv => ?_⟩
  cases hv
  cases x with
  | true =>
    rw [if_pos rfl] at q1 ⊢
    exact ⟨g1, P, s1, r1, q1⟩
  | false =>
    rw [if_neg (by decide)] at q1 ⊢
    exact ⟨g1, P, s1, r1, q1⟩
theorem se_ite {c a b : Expr} {mc : Ac Bool} {ma mb : Ac Rv} {pos : Pos} (pc : ST W wx X mc c) (pa : SE W wx X ma a) (pb : SE W wx X mb b) : SE W wx X (mc.bind fun k => if k then ma else mb) (.IfExp c a b pos) :=
  peImp (pe_ifExp pc pa pb) fun σ H Q h => tb_ite h
theorem st_not {a : Expr} {ma : Ac Bool} {pos : Pos} (pa : ST W wx X ma a) : ST W wx X (ma.bind fun k => Ac.ret (!k)) (.UnaryOp .Not a pos) := ptImp (pt_not pa) fun σ H Q h => by
  obtain ⟨g, P, s, r, q⟩ := h
  refine ⟨g, P, s, r, (Post.bindE q).mono fun x s1 g1 H1 l1 r1 q1 v hv => ?_⟩
  cases hv
  exact q1 g1 H1 (.refl g1) r1 _ rfl
abbrev SW (W : Wd) (wx : WX) (X : Cx) (m : Ac Bool) (e : Expr) : Prop := PW X e (tX W wx (eqK Bool) m)
theorem sw_and1 {a : Expr} {ma : Ac Bool} {pos : Pos} (pa : ST W wx X ma a) : SW W wx X ma (.BoolOp .And [a] pos) := pw_and1 pa
theorem sw_or1 {a : Expr} {ma : Ac Bool} {pos : Pos} (pa : ST W wx X ma a) : SW W wx X ma (.BoolOp .Or [a] pos) := pw_or1 pa
theorem tb_ret {b : Bool} {σ : L2.St} {H : Hp} {Q : Bool → Hp → Prop} (h : tX W wx (eqK Bool) (Ac.ret b) σ H Q) : Q b H := by
  obtain ⟨g, P, s, r, q⟩ := h
  exact q g H (.refl g) r b rfl
theorem sw_and {a b : Expr} {rest : List Expr} {ma mb : Ac Bool} {pos : Pos} (pa : ST W wx X ma a) (pb : SW W wx X mb (.BoolOp .And (b :: rest) pos)) : SW W wx X (ma.bind fun k => if k then mb else Ac.ret false) (.BoolOp .And (a :: b :: rest) pos) :=
  pwImp (pw_and pa pb) fun σ H Q h => by
    obtain ⟨g, P, s, r, q⟩ := tb_ite h
    refine ⟨g, P, s, r, q.mono fun x s1 g1 H1 l1 r1 q1 v hv => ?_⟩
    have q2 := q1 v hv
    cases v with
    | true => exact q2
    | false => exact tb_ret q2
theorem sw_or {a b : Expr} {rest : List Expr} {ma mb : Ac Bool} {pos : Pos} (pa : ST W wx X ma a) (pb : SW W wx X mb (.BoolOp .Or (b :: rest) pos)) : SW W wx X (ma.bind fun k => if k then Ac.ret true else mb) (.BoolOp .Or (a :: b :: rest) pos) :=
  pwImp (pw_or pa pb) fun σ H Q h => by
    obtain ⟨g, P, s, r, q⟩ := tb_ite h
    refine ⟨g, P, s, r, q.mono fun x s1 g1 H1 l1 r1 q1 v hv => ?_⟩
    have q2 := q1 v hv
    cases v with
    | true => exact tb_ret q2
    | false => exact q2
end
end En
set_option maxHeartbeats 4000000
/-! En8: subscripts, slices, built-in functions, methods. -/
namespace En
open PySem PySem.Spec PyProof.Rows L2
section
variable {W : Wd} {wx : WX} {X : Cx}
theorem ix_dict (hu : X.A.units + 64 < cLine) : IxR X (fun x y H Q => ∃ a v, x = .ref a ∧ DGet H a y (some v) ∧ Q v H) := by
  intro value slice pins s σ H x y v u Q I rx ry h hs
  obtain ⟨a, z, rfl, gt, q⟩ := h
  cases rx
  exact tail_any (dict_typeIs I gt) PySem.F.slot_dict_getitem.lookup (d_getItem (by omega) I gt ry fun w' s' I' rw' => ⟨z, H, I', rw', q⟩) hs
def subK (x k : Rv) : Ac Rv := (lookA x).bind fun w => (lookA k).bind fun w' => Ac.opt ((w.sub w').map .val)
theorem Rs.ixN {g : Gh} {ds : List Dat} {vs : List V} (h : Rs W g ds vs) {i : Int} {d : Dat} (e : atI ds i = some d) : ∃ v, atI vs i = some v ∧ R W g d v := by
  unfold atI at e ⊢
  rw [← h.length]
  cases hj : L2.ixN ds.length i with
  | none =>
    rw [hj] at e
    cases e
  | some j =>
    rw [hj] at e
    exact h.get (i := j) (d := d) e
theorem ix_ok (hK : X.K = W.K) (hu : X.A.units + 64 < cLine) : IxR X (fun x y H Q => ∃ σ, fin2 W wx rvK rvK rvK subK σ x y H Q) := by
  intro value slice pins s σ H x y v u Q I rx ry h hs
  obtain ⟨σ', g, P, st, a, b, r, ra, rb, p1⟩ := h
  obtain ⟨w, e1, p2⟩ := Post.lookE p1
  obtain ⟨w', e2, p3⟩ := Post.lookE p2
  obtain ⟨rv, e3, p⟩ := Post.optE p3
  clear p1 p2 p3
  have q1 := look_ok r ra e1
  have q2 := look_ok r rb e2
  cases e4 : w.sub w' with
  | none =>
    rw [e4] at e3
    cases e3
  | some d =>
    rw [e4] at e3
    have e3' : some (Rv.val d) = some rv := e3
    cases e3'
    have fin : ∀ {z : V}, R W g d z → Q z H := fun hz => p g H (.refl g) r _ hz
    clear e1 e2 e3 p
    have dct : ∀ {kvs : List (Key × Dat)} {k : Key}, w.dct = some kvs → y = kV k → getK kvs k = some d → wpAny (model X.prog X.w) X.A (subscriptTail value slice v u) (EP X pins σ Q) X.xe s := by
      intro kvs k h1 h2 h3
      subst h2
      obtain ⟨c, vs, rfl, k2, k3⟩ := q1.dct r h1
      obtain ⟨z, z1, z2⟩ := (k3.val k).1 d h3
      exact ix_dict hu value slice pins s σ H _ _ v u Q I rx ry ⟨c, z, rfl, by rw [← z1]; exact DGet.k k2, fin z2⟩ hs
    unfold Vw.sub at e4
    split at e4
    · rename_i z k
      obtain rfl := R.strE q1
      obtain rfl := R.intE q2
      split at e4
      · rename_i hz
        cases e5 : atI z.cps.toList k with
        | none =>
          rw [e5] at e4
          cases e4
        | some c =>
          rw [e5] at e4
          have e4' : some (Dat.str ⟨#[c]⟩) = some d := e4
          cases e4'
          exact ix_str value slice pins s σ H _ _ v u Q I rx ry ⟨z, k, c, rfl, rfl, hz, e5, fin (R.str _)⟩ hs
      · cases e4
    · rename_i k _
      obtain rfl := R.intE q2
      split at e4
      · rename_i xs hs'
        unfold Vw.seq at hs'
        split at hs'
        · rename_i ys hl
          cases hs'
          obtain ⟨c, vs, rfl, k2, k3⟩ := q1.lst r hl
          obtain ⟨z, z1, z2⟩ := k3.ixN e4
          exact ix_list value slice pins s σ H _ _ v u Q I rx ry ⟨c, vs, k, z, rfl, rfl, SqL.of k2, z1, fin z2⟩ hs
        · obtain ⟨c, vs, rfl, k2, k3⟩ := q1.tup r hs'
          rw [← hK] at k2
          obtain ⟨z, z1, z2⟩ := k3.ixN e4
          exact ix_tup value slice pins s σ H _ _ v u Q I rx ry ⟨c, vs, k, z, rfl, rfl, k2, z1, fin z2⟩ hs
      · split at e4
        · rename_i kvs hd
          exact dct (k := .inl k) hd rfl e4
        · cases e4
    · rename_i k
      obtain rfl := R.strE q2
      split at e4
      · rename_i kvs hd
        exact dct (k := .inr k) hd rfl e4
      · cases e4
    · cases e4
theorem se_sub {a b : Expr} {ma mb : Ac Rv} {pos : Pos} (hK : X.K = W.K) (hu : X.A.units + 64 < cLine) (pa : SE W wx X ma a) (pb : SE W wx X mb b) (hs : PlainIx b) : SE W wx X (ma.bind fun x => mb.bind fun y => subK x y) (.Subscript a b pos) :=
  peImp (pe_ix (ix_ok (wx := wx) hK hu) pa pb hs) fun σ H Q h => by
    obtain ⟨g, P, s, r, q⟩ := tX_bind2 h
    exact ⟨g, P, s, r, q.mono fun x s1 g1 H1 l1 r1 q1 v hv => by
      obtain ⟨g2, P2, s2, r2, q2⟩ := q1 v hv
      exact ⟨g2, P2, s2, r2, q2.mono fun y s3 g3 H3 l3 r3 q3 u hu => ⟨σ, q3 u hu⟩⟩⟩
/-! slices -/
theorem cutV_len (xs : List V) (ds : List Dat) (h : ds.length = xs.length) (lo hi : Option Int) : cutV xs lo hi = (xs.drop (HT.sIx ds.length 0 lo)).take (HT.sIx ds.length ds.length hi - HT.sIx ds.length 0 lo) := by
  unfold cutV
  rw [h]
theorem Rs.cut {g : Gh} {ds : List Dat} {vs : List V} (h : Rs W g ds vs) (lo hi : Option Int) : Rs W g (cutD ds lo hi) (cutV vs lo hi) := by
  rw [cutV_len vs ds h.length]
  exact (h.drop _).take _
theorem cutD_whole {ds : List Dat} {lo hi : Option Int} (h : HT.sIx ds.length 0 lo = 0 ∧ HT.sIx ds.length ds.length hi = ds.length) : cutD ds lo hi = ds := by
  unfold cutD
  rw [h.1, h.2, List.drop_zero, Nat.sub_zero, List.take_length]
def slcK (x : Rv) (l h : Option Int) : Ac Rv := (lookA x).bind fun w => Ac.opt (w.slc l h)
theorem sl_ok (hK : X.K = W.K) : SlR X (fun x lo hi H Q => ∃ σ, fin1 W wx rvK rvK (fun x => slcK x lo hi) σ x H Q) := by
  intro pins s σ H x v vl vu lo hi sl Q I rx hs pl pu h
  obtain ⟨σ', g, P, st, a, r, ra, p1⟩ := h
  obtain ⟨w, e1, p2⟩ := Post.lookE p1
  obtain ⟨rv, e3, p⟩ := Post.optE p2
  clear p1 p2
  have q1 := look_ok r ra e1
  clear e1
  unfold Vw.slc at e3
  split at e3
  · rename_i z
    obtain rfl := R.strE q1
    split at e3
    · cases e3
      exact sl_str pins s σ H _ v vl vu lo hi sl Q I rx hs pl pu ⟨z, rfl, by assumption, p g H (.refl g) r _ (R.str _)⟩
    · cases e3
  · rename_i xs
    cases e3
    obtain ⟨c, vs, rfl, k2, k3⟩ := R.tupH r q1
    rw [← hK] at k2
    refine sl_tupA pins s σ H _ v vl vu lo hi sl Q I rx hs pl pu ⟨c, vs, rfl, k2, fun hw => ?_, fun _ pp hp => ?_⟩
    · rw [← k3.length] at hw
      rw [cutD_whole hw] at p
      exact p g H (.refl g) r _ q1
    · obtain ⟨n1, n2, n3⟩ := r.newTup hp (k3.cut lo hi)
      exact p _ _ n1 n2 _ n3
  · split at e3
    · rename_i xs hl
      cases e3
      obtain ⟨c, vs, rfl, k2, k3⟩ := q1.lst r hl
      refine sl_list pins s σ H _ v vl vu lo hi sl Q I rx hs pl pu ⟨c, vs, rfl, SqL.of k2, fun pp hp => ?_⟩
      obtain ⟨n1, n2⟩ := r.newOwn (o := .lst (cutD xs lo hi)) (ho := .lst _) hp (k3.cut lo hi)
      exact p g _ (.refl g) n1 _ n2
    · cases e3
theorem Post.intE {g : Gh} {P : Hp} {σ : L2.St} {s : Stt} {x : Rv} {K : Int → Stt → Gh → Hp → Prop} (h : Post W wx g P σ (intA x s) K) : ∃ i, look s x = some (.dt (.int i)) ∧ Post W wx g P σ (.ok i s) K := by
  obtain ⟨w, e1, q⟩ := Post.lookE h
  cases w with
  | mb o => exact q.elim
  | dt d =>
    cases d <;> first | exact ⟨_, e1, q⟩ | exact q.elim
/-- an optional int -/
abbrev SO (W : Wd) (wx : WX) (X : Cx) (m : Ac (Option Int)) (e : Option Expr) : Prop := PO X e (tX W wx (eqK (Option Int)) m)
theorem so_none : SO W wx X (Ac.ret none) none := by
  refine ⟨fun pins s σ H Q I h => po_none.run pins s σ H Q I ?_⟩
  obtain ⟨g, P, st, r, q⟩ := h
  exact q g H (.refl g) r none rfl
theorem so_some {e : Expr} {m : Ac Rv} (p : SE W wx X m e) : SO W wx X ((m.bind intA).bind fun b => Ac.ret (some b)) (some e) := by
  refine ⟨fun pins s σ H Q I h => (po_some p).run pins s σ H Q I ?_⟩
  obtain ⟨g, P, st, r, q⟩ := h
  refine ⟨g, P, st, r, (Post.bindE (Post.bindE q)).mono fun x s1 g1 H1 l1 r1 q1 v hv => ?_⟩
  obtain ⟨i, e1, q2⟩ := Post.intE q1
  obtain rfl := R.intE (look_ok r1 hv e1)
  exact ⟨i, rfl, q2 g1 H1 (.refl g1) r1 g1 H1 (.refl g1) r1 _ rfl⟩
theorem se_slc {a : Expr} {lo hi : Option Expr} {ma : Ac Rv} {ml mh : Ac (Option Int)} {pos p2 : Pos} (hK : X.K = W.K) (pa : SE W wx X ma a) (pl : SO W wx X ml lo) (ph : SO W wx X mh hi) :
    SE W wx X (ma.bind fun x => ml.bind fun l => mh.bind fun h => slcK x l h) (.Subscript a (.Slice lo hi none p2) pos) := peImp (pe_slice (sl_ok (wx := wx) hK) pa pl ph) fun σ H Q h => by
  obtain ⟨g, P, s, r, q⟩ := h
  refine ⟨g, P, s, r, (Post.bindE q).mono fun x s1 g1 H1 l1 r1 q1 v hv => ?_⟩
  obtain ⟨r2, u2, w2⟩ := rvK.up r1 hv
  refine ⟨g1, rvK.prt P H1 x v, s1, r2, ((Post.bindE q1).under u2 w2).mono fun l s2 g2 H2 l2 r3 q2 l' hl => ?_⟩
  cases hl
  refine ⟨g2, rvK.prt P H1 x v, s2, r3, ((Post.bindE q2).under u2 w2).mono fun h s3 g3 H3 l3 r4 q3 h' hh => ?_⟩
  cases hh
  exact ⟨σ, g3, P, s3, x, r4.weak u2 w2, rvK.go hv (l2.trans l3) r4, q3⟩
theorem se_rev {e : Expr} {m : Ac Rv} {k : Nat} {p1 p2 p3 pos : Pos} (p : SE W wx X m e) : SE W wx X (m.bind fun x => (lookA x).bind fun w => match w.lst with
      | some xs => Ac.ret (.own (.lst xs.reverse))
      | none => Ac.stk) (.Subscript e (.Slice none none (some (.UnaryOp .USub (.Constant (.int 1) k p1) p2)) p3) pos) := peImp (pe_revL p) fun σ H Q h => by
  obtain ⟨g, P, s, r, q⟩ := h
  refine ⟨g, P, s, r, (Post.bindE q).mono fun x s1 g1 H1 l1 r1 q1 v hv => ?_⟩
  obtain ⟨w, e1, q2⟩ := Post.lookE q1
  cases hl : w.lst with
  | some xs =>
    rw [hl] at q2
    obtain ⟨c, vs, rfl, k2, k3⟩ := (look_ok r1 hv e1).lst r1 hl
    refine ⟨c, vs, rfl, SqL.of k2, fun pp hp => ?_⟩
    obtain ⟨n1, n2⟩ := r1.newOwn (o := .lst xs.reverse) (ho := .lst _) hp k3.reverse
    exact q2 g1 _ (.refl g1) n1 _ n2
  | none =>
    rw [hl] at q2
    exact q2.elim
theorem se_neg {a : Expr} {ma : Ac Rv} {pos : Pos} (p : SE W wx X ma a) : SE W wx X (ma.bind fun x => (lookA x).bind fun w => match w with
      | .dt (.int i) => Ac.ret (.val (.int (-i)))
      | _ => Ac.stk) (.UnaryOp .USub a pos) := peImp (pe_un un_neg p) fun σ H Q h => by
  obtain ⟨g, P, s, r, q⟩ := h
  refine ⟨g, P, s, r, (Post.bindE q).mono fun x s1 g1 H1 l1 r1 q1 v hv => ?_⟩
  obtain ⟨w, e1, q2⟩ := Post.lookE q1
  have q3 := look_ok r1 hv e1
  cases w with
  | mb o => exact q2.elim
  | dt d =>
    cases d <;> first
      | exact q2.elim
      | (obtain rfl := R.intE q3; exact ⟨_, rfl, q2 g1 H1 (.refl g1) r1 _ (R.int _)⟩)
end
end En
set_option maxHeartbeats 4000000
/-! En9: built-in functions, methods. -/
namespace En
open PySem PySem.Spec PyProof.Rows L2
/-- what isinstance asks of an own class -/
structure InsF (K : PySem.W.Frag) (C : Addr) : Prop where
  cl : Cls K C
  ha : PySem.W.findIn K (.ref C) "__class__" = some (some (.builtin "object.__class__"))
  hn : PySem.W.specialIn K (.builtin "object.__class__") "__get__" = some (some (.builtin "getset_descriptor.__get__"))
  htk : PySem.W.takesIn K (.builtin "object.__class__") = some true
  hm : PySem.W.mroIn K C (.type "object") = some true
/-- the world's facts about classes -/
structure Wk (W : Wd) (T : Tab) : Prop where
  ins : ∀ c c' b, T.isaC c c' = some b → InsF W.K (W.ca c) ∧ PySem.W.kitOne W.K (.ref (W.ca c)) (.ref (W.ca c')) = some b
  insT : ∀ c n b, T.isaT c n = some b → InsF W.K (W.ca c) ∧ PySem.W.kitOne W.K (.ref (W.ca c)) (.type n) = some b
  insN : ∀ n c b, T.isaN n c = some b → PySem.W.kitOne W.K (.type n) (.ref (W.ca c)) = some b
section
variable {W : Wd} {wx : WX} {X : Cx} {T : Tab}
def biK (T : Tab) (b : Bi) (x : Rv) (ds : List Dat) : Ac Rv := (lookA x).bind fun w => Ac.opt (Vw.bi T b w ds)
def rBi (W : Wd) (wx : WX) (T : Tab) (b : Bi) : List V → Hp → VK → Prop := fun vs H Q => ∃ x xs σ, vs = x :: xs ∧ fin2 W wx rvK dsK rvK (biK T b) σ x xs H Q
def Bi.py : Bi → Value
  | .len => .builtin "len"
  | .tuple => .type "tuple"
  | .list => .type "list"
  | .str => .type "str"
  | .int => .type "int"
  | .repr => .builtin "repr"
  | .all => .builtin "all"
  | .any => .builtin "any"
  | .isi => .builtin "isinstance"
theorem tyIs_ok {K : PySem.W.Frag} {a b : String} {r : Bool} (ha : a ∈ "NoneType" :: tyNames) (h : tyIs a b = some r) : PySem.W.kitOne K (.type a) (.type b) = some r := by
  unfold tyIs at h
  have cases6 : ∀ {p : Prop}, b ∈ tyNames → (b = "bool" → p) → (b = "int" → p) → (b = "str" → p) → (b = "tuple" → p) → (b = "list" → p) → (b = "dict" → p) → p := fun {p} h h1 h2 h3 h4 h5 h6 => by
    simp only [tyNames, List.mem_cons, List.mem_nil_iff, or_false] at h
    rcases h with h | h | h | h | h | h
    · exact h1 h
    · exact h2 h
    · exact h3 h
    · exact h4 h
    · exact h5 h
    · exact h6 h
  split at h
  · rename_i hc
    obtain ⟨rfl, rfl⟩ := hc
    cases h
    exact kit_ty (by decide +kernel)
  · rename_i hc
    split at h
    · rename_i hb
      cases h
      simp only [tyNames, List.mem_cons, List.mem_nil_iff, or_false] at ha
      refine kit_ty ?_
      rcases ha with rfl | rfl | rfl | rfl | rfl | rfl | rfl <;>
        refine cases6 hb ?_ ?_ ?_ ?_ ?_ ?_ <;> (intro e; subst e; first | decide +kernel | exact absurd ⟨rfl, rfl⟩ hc)
    · cases h
section
variable {g : Gh} {P : Hp} {s : Stt} {σ : L2.St} {H : Hp}
theorem tyn_ok (r : Rel W g P s σ H) {w : Vw} {v : V} {n : String} (q : VwR W g H w v) (e : w.tyn = some n) : TyX W.K H v (.type n) ∧ n ∈ "NoneType" :: tyNames := by
  cases w with
  | mb o =>
    obtain ⟨a, ho, rfl, h1, h2⟩ := q
    cases o <;> cases ho <;> first | exact False.elim h2 | skip
    · cases e
      exact ⟨.base (.lst h1), by decide⟩
    · cases e
      exact ⟨.base (.dK h1), by decide⟩
    · cases e
  | dt d =>
    have q' : R W g d v := q
    cases q' with
    | non => cases e; exact ⟨.base .non, by decide⟩
    | bl b => cases e; exact ⟨.base (.bl b), by decide⟩
    | int b => cases e; exact ⟨.base (.int b), by decide⟩
    | str b => cases e; exact ⟨.base (.str b), by decide⟩
    | tup h1 h2 =>
      cases e
      refine ⟨?_, by decide⟩
      rcases sqT_mono r.fz h1 with (h | ⟨o, h⟩) | ⟨o, its, m, hk, hc, _⟩
      · exact .base (.tup h)
      · exact .fTuple h
      · exact .kTuple hk hc
    | lst h1 h2 => cases e; exact ⟨.base (.lst (r.fz _ _ h1)), by decide⟩
    | dct h1 h2 => cases e; exact ⟨.base (.dK (r.fz _ _ h1)), by decide⟩
    | obj _ _ => cases e
    | scr _ _ => cases e
    | ref _ => cases e
    | fn _ => cases e
    | cls _ => cases e
    | ty _ => cases e
theorem cls_ok (r : Rel W g P s σ H) {w : Vw} {v : V} {c : Nat} (q : VwR W g H w v) (e : w.cls = some c) : ∃ a dx fs, v = .ref a ∧ H a = some (.ins (W.ca c) dx fs) := by
  cases w with
  | mb o =>
    obtain ⟨a, ho, rfl, h1, h2⟩ := q
    cases o <;> cases ho <;> first | exact False.elim h2 | skip
    · cases e
    · cases e
    · cases e
      obtain ⟨rfl, _⟩ := h2
      exact ⟨_, _, _, rfl, h1⟩
  | dt d =>
    have q' : R W g d v := q
    cases q' <;> first | cases e | skip
    rename_i h1 h2
    exact ⟨_, _, _, rfl, r.fz _ _ h2⟩
theorem isaV_ok (wk : Wk W T) (r : Rel W g P s σ H) {w : Vw} {v u : V} {d : Dat} {b : Bool} (q : VwR W g H w v) (qd : R W g d u) (e : isaV T w d = some b) : ∃ t c, ClsV u c ∧ TyX W.K H v t ∧ PySem.W.kitOne W.K t c = some b := by
  cases d with
  | ty n =>
    cases qd
    cases ht : w.tyn with
    | some t =>
      have e' : tyIs t n = some b := by
        have := e
        unfold isaV at this
        rw [ht] at this
        exact this
      obtain ⟨h1, h2⟩ := tyn_ok r q ht
      exact ⟨_, _, .ty n, h1, tyIs_ok h2 e'⟩
    | none =>
      have e' : (w.cls.bind fun c => T.isaT c n) = some b := by
        have := e
        unfold isaV at this
        rw [ht] at this
        exact this
      obtain ⟨c, e1, e2⟩ := Option.bind_eq_some_iff.mp e'
      obtain ⟨f, k⟩ := wk.insT c n b e2
      obtain ⟨a, dx, fs, rfl, h1⟩ := cls_ok r q e1
      exact ⟨_, _, .ty n, .base (.ins h1 f.cl f.ha f.hn f.htk f.hm), k⟩
  | cls c' =>
    cases qd
    cases ht : w.tyn with
    | some t =>
      have e' : T.isaN t c' = some b := by
        have := e
        unfold isaV at this
        rw [ht] at this
        exact this
      obtain ⟨h1, h2⟩ := tyn_ok r q ht
      exact ⟨_, _, .own _, h1, wk.insN t c' b e'⟩
    | none =>
      have e' : (w.cls.bind fun c => T.isaC c c') = some b := by
        have := e
        unfold isaV at this
        rw [ht] at this
        exact this
      obtain ⟨c, e1, e2⟩ := Option.bind_eq_some_iff.mp e'
      obtain ⟨f, k⟩ := wk.ins c c' b e2
      obtain ⟨a, dx, fs, rfl, h1⟩ := cls_ok r q e1
      exact ⟨_, _, .own _, .base (.ins h1 f.cl f.ha f.hn f.htk f.hm), k⟩
  | _ => cases e
/- data as the library's -/
mutual
theorem R.dp (hK : X.K = W.K) (r : Rel W g P s σ H) : ∀ {d : Dat} {v : V} {p : PyData}, R W g d v → pdD d = some p → Dp X.K H v p
  | _, _, _, .non, e => by cases e; exact .non
  | _, _, _, .bl b, e => by cases e; exact .bl b
  | _, _, _, .int b, e => by cases e; exact .int b
  | _, _, _, .str b, e => by cases e; exact .str b
  | .tup ds, _, _, .tup h1 h2, e => by
    have e' : (pdL ds).map PyData.tuple = some _ := e
    cases h : pdL ds with
    | none => rw [h] at e'; cases e'
    | some ps =>
      rw [h] at e'
      cases e'
      exact .tup (by rw [hK]; exact sqT_mono r.fz h1) (Rs.dp hK r h2 h)
  | .lst ds, _, _, .lst h1 h2, e => by
    have e' : (pdL ds).map PyData.list = some _ := e
    cases h : pdL ds with
    | none => rw [h] at e'; cases e'
    | some ps =>
      rw [h] at e'
      cases e'
      exact .lst (SqL.of (r.fz _ _ h1)) (Rs.dp hK r h2 h)
  | _, _, _, .dct _ _, e => by cases e
  | _, _, _, .obj _ _, e => by cases e
  | _, _, _, .ref _, e => by cases e
  | _, _, _, .fn _, e => by cases e
  | _, _, _, .cls _, e => by cases e
  | _, _, _, .ty _, e => by cases e
  | _, _, _, .scr _ _, e => by cases e
theorem Rs.dp (hK : X.K = W.K) (r : Rel W g P s σ H) : ∀ {ds : List Dat} {vs : List V} {ps : List PyData}, Rs W g ds vs → pdL ds = some ps → DpAll X.K H vs ps
  | _, _, _, .nil, e => by cases e; exact .nil
  | d :: ds, _, _, .cons h1 h2, e => by
    unfold pdL at e
    cases a : pdD d with
    | none => rw [a] at e; cases e
    | some p =>
      rw [a] at e
      cases b : pdL ds with
      | none => rw [b] at e; cases e
      | some ps =>
        rw [b] at e
        cases e
        exact .cons (R.dp hK r h1 a) (Rs.dp hK r h2 b)
end
theorem VwR.dp (hK : X.K = W.K) (r : Rel W g P s σ H) {w : Vw} {v : V} {p : PyData} (q : VwR W g H w v) (e : w.pd = some p) : Dp X.K H v p := by
  cases w with
  | dt d => exact R.dp hK r q e
  | mb o =>
    obtain ⟨a, ho, rfl, h1, h2⟩ := q
    cases o <;> cases ho <;> first | exact False.elim h2 | skip
    · rename_i ds vs
      have e' : (pdL ds).map PyData.list = some _ := e
      cases h : pdL ds with
      | none => rw [h] at e'; cases e'
      | some ps =>
        rw [h] at e'
        cases e'
        exact .lst (SqL.of h1) (Rs.dp hK r h2 h)
    · cases e
    · cases e
theorem strsOf_ok : ∀ {ds : List Dat} {vs : List V} {xs : List Str}, Rs W g ds vs → strsOf ds = some xs → vs = xs.map V.str
  | _, _, _, .nil, e => by cases e; rfl
  | d :: ds, _, _, .cons h1 h2, e => by
    cases d <;> first | (exact absurd e (by intro z; cases z)) | skip
    rename_i x
    have e' : (strsOf ds).map (x :: ·) = some _ := e
    cases a : strsOf ds with
    | none => rw [a] at e'; cases e'
    | some ys =>
      rw [a] at e'
      cases e'
      obtain rfl := R.strE h1
      rw [strsOf_ok h2 a]
      rfl
theorem blsOf_ok : ∀ {ds : List Dat} {vs : List V} {xs : List Bool}, Rs W g ds vs → blsOf ds = some xs → vs = xs.map V.bl
  | _, _, _, .nil, e => by cases e; rfl
  | d :: ds, _, _, .cons h1 h2, e => by
    cases d <;> first | (exact absurd e (by intro z; cases z)) | skip
    rename_i x
    have e' : (blsOf ds).map (x :: ·) = some _ := e
    cases a : blsOf ds with
    | none => rw [a] at e'; cases e'
    | some ys =>
      rw [a] at e'
      cases e'
      obtain rfl := R.blE h1
      rw [blsOf_ok h2 a]
      rfl
end
mutual
theorem hasDict_pd : ∀ {d : Dat} {p : PyData}, pdD d = some p → p.hasDict = false
  | .non, _, e => by cases e; simp [PyData.hasDict]
  | .bl _, _, e => by cases e; simp [PyData.hasDict]
  | .int _, _, e => by cases e; simp [PyData.hasDict]
  | .str _, _, e => by cases e; simp [PyData.hasDict]
  | .tup ds, _, e => by
    have e' : (pdL ds).map PyData.tuple = some _ := e
    cases h : pdL ds with
    | none => rw [h] at e'; cases e'
    | some ps =>
      rw [h] at e'
      cases e'
      simpa [PyData.hasDict] using hasDictL_pd h
  | .lst ds, _, e => by
    have e' : (pdL ds).map PyData.list = some _ := e
    cases h : pdL ds with
    | none => rw [h] at e'; cases e'
    | some ps =>
      rw [h] at e'
      cases e'
      simpa [PyData.hasDict] using hasDictL_pd h
  | .dct _, _, e => by cases e
  | .obj _ _, _, e => by cases e
  | .err _ _, _, e => by cases e
  | .ref _, _, e => by cases e
  | .fn _, _, e => by cases e
  | .cls _, _, e => by cases e
  | .ty _, _, e => by cases e
theorem hasDictL_pd : ∀ {ds : List Dat} {ps : List PyData}, pdL ds = some ps → PyData.hasDictAll ps = false
  | [], _, e => by cases e; simp [PyData.hasDictAll]
  | d :: ds, _, e => by
    unfold pdL at e
    cases a : pdD d with
    | none => rw [a] at e; cases e
    | some p =>
      rw [a] at e
      cases b : pdL ds with
      | none => rw [b] at e; cases e
      | some ps =>
        rw [b] at e
        cases e
        simp [PyData.hasDictAll, hasDict_pd a, hasDictL_pd b]
end
theorem VwR.noDict {w : Vw} {p : PyData} (e : w.pd = some p) : p.hasDict = false := by
  cases w with
  | dt d => exact hasDict_pd e
  | mb o =>
    cases o <;> first | (exact absurd e (by intro z; cases z)) | skip
    rename_i ds
    have e' : (pdL ds).map PyData.list = some _ := e
    cases h : pdL ds with
    | none => rw [h] at e'; cases e'
    | some ps =>
      rw [h] at e'
      cases e'
      simpa [PyData.hasDict] using hasDictL_pd h
theorem reprOf_ok {p : PyData} {x : Str} (e : reprOf p = some x) : p.showable = true ∧ p.depth ≤ 64 ∧ p.shown.length ≤ sizeLine ∧ x = p.shown := by
  unfold reprOf at e
  split at e
  · rename_i h
    simp only [Bool.and_eq_true, decide_eq_true_eq] at h
    exact ⟨h.1, h.2.1, h.2.2, (Option.some.inj e).symm⟩
  · cases e
/-- repr -/
theorem repr_any {prog : Program} {w : World} {A : Around} {E : Value → Shared → Prop} {s : Shared} {u : Value} {p : PyData} {as : List Addr} {Q : Value → Shared → Prop} (r : Reads s.heap u p as) (hs : p.showable = true) (hd : p.hasDict = false) (hz : p.depth ≤ 64) (hl : p.shown.length ≤ sizeLine)
    (hg : A.guards = some []) (hu : A.units + 66 < cLine) (hQ : ∀ h' t tk, (∀ b o, s.heap.get? b = some o → h'.get? b = some o) → Q (.str p.shown t) { s with heap := h', toks := tk }) : wpAny (model prog w) A (call (.builtin "repr") [u]) Q E s := by
  cases r with
  | none => exact PySem.P.repr_of_none (hQ s.heap _ _ fun _ _ h => h)
  | bool b => exact PySem.P.repr_of_bool (hQ s.heap _ _ fun _ _ h => h)
  | int i t => exact PySem.P.repr_of_int (of_decide_eq_true hs) (hQ s.heap _ _ fun _ _ h => h)
  | str x t => exact PySem.P.repr_of_str (hQ s.heap _ _ fun _ _ h => h) hl
  | list h1 h2 h3 h4 => exact repr_of_reads' (.list h1 h2 h3 h4) hs (PyData.noDict_hsm hd) hg (by omega) (fun _ _ h => h) hQ hl
  | tuple h1 h2 h3 h4 => exact repr_of_reads' (.tuple h1 h2 h3 h4) hs (PyData.noDict_hsm hd) hg (by omega) (fun _ _ h => h) hQ hl
  | dict => simp [PyData.hasDict] at hd
theorem bi_ok (hK : X.K = W.K) (wk : Wk W T) (hc : X.calm = true) (hg : X.A.guards = some []) (hu : X.A.units + 70 < cLine) (b : Bi) : CallR X b.py (rBi W wx T b) := by
  intro pins s σ H vs us Q I rs h
  obtain ⟨x, xs, σ', rfl, g, P, st, a, ds, r, ra, rds, p1⟩ := h
  obtain ⟨w, e1, p2⟩ := Post.lookE p1
  obtain ⟨rv, e3, p⟩ := Post.optE p2
  clear p1 p2
  have q1 := look_ok r ra e1
  clear e1
  unfold Vw.bi at e3
  split at e3
  · -- len
    cases rds
    cases e4 : w.len with
    | none => rw [e4] at e3; cases e3
    | some n =>
      rw [e4] at e3
      have e3' : some (Rv.val (.int n)) = some rv := e3
      cases e3'
      have q : Q (.int n) H := p g H (.refl g) r _ (R.int _)
      unfold Vw.len at e4
      split at e4
      · obtain rfl := R.strE q1
        split at e4
        · cases e4
          exact call_len_str pins s σ H _ us Q I rs ⟨_, rfl, by assumption, q⟩
        · cases e4
      · split at e4
        · rename_i ys hs
          cases e4
          unfold Vw.seq at hs
          split at hs
          · rename_i hl
            cases hs
            obtain ⟨c, zs, rfl, k2, k3⟩ := q1.lst r hl
            exact call_len_seq pins s σ H _ us Q I rs ⟨c, zs, rfl, .inl (SqL.of k2), by rw [← k3.length]; exact q⟩
          · obtain ⟨c, zs, rfl, k2, k3⟩ := q1.tup r hs
            rw [← hK] at k2
            exact call_len_seq pins s σ H _ us Q I rs ⟨c, zs, rfl, .inr k2, by rw [← k3.length]; exact q⟩
        · split at e4
          · rename_i kvs hd
            cases e4
            obtain ⟨c, zs, rfl, k2, k3⟩ := q1.dct r hd
            obtain ⟨u, rfl, ru⟩ := vals1 rs
            cases ru
            refine d_len I (.inl k2) fun t s' I' => ⟨.int _, H, I', ⟨t, rfl⟩, ?_⟩
            rw [← k3.length]
            exact q
          · cases e4
  · -- tuple
    cases rds
    split at e3
    · rename_i ys hl
      cases e3
      obtain ⟨c, zs, rfl, k2, k3⟩ := q1.lst r hl
      refine call_tuple_of pins s σ H _ us Q I rs ⟨c, zs, rfl, .inl ⟨SqL.of k2, fun pp hp => ?_⟩⟩
      obtain ⟨n1, n2, n3⟩ := r.newTup hp k3
      exact p _ _ n1 n2 _ n3
    · cases e4 : w.tup with
      | none => rw [e4] at e3; cases e3
      | some ys =>
        rw [e4] at e3
        have e3' : some (Rv.val (.tup ys)) = some rv := e3
        cases e3'
        have hr : R W g (.tup ys) x := by
          cases w with
          | mb o => cases o <;> cases e4
          | dt d => cases d <;> first | cases e4 | skip
                    exact q1
        obtain ⟨c, zs, rfl, k2, k3⟩ := q1.tup r e4
        rw [← hK] at k2
        exact call_tuple_of pins s σ H _ us Q I rs ⟨c, zs, rfl, .inr ⟨k2, p g H (.refl g) r _ hr⟩⟩
  · -- list
    cases rds
    cases e4 : w.seq with
    | none => rw [e4] at e3; cases e3
    | some ys =>
      rw [e4] at e3
      have e3' : some (Rv.own (.lst ys)) = some rv := e3
      cases e3'
      unfold Vw.seq at e4
      split at e4
      · rename_i hl
        cases e4
        obtain ⟨c, zs, rfl, k2, k3⟩ := q1.lst r hl
        refine call_list_of pins s σ H _ us Q I rs ⟨c, zs, rfl, .inl (SqL.of k2), fun pp hp => ?_⟩
        obtain ⟨n1, n2⟩ := r.newOwn (o := .lst _) (ho := .lst _) hp k3
        exact p g _ (.refl g) n1 _ n2
      · obtain ⟨c, zs, rfl, k2, k3⟩ := q1.tup r e4
        rw [← hK] at k2
        refine call_list_of pins s σ H _ us Q I rs ⟨c, zs, rfl, .inr k2, fun pp hp => ?_⟩
        obtain ⟨n1, n2⟩ := r.newOwn (o := .lst ys) (ho := .lst zs) hp k3
        exact p g _ (.refl g) n1 _ n2
  · -- str of a text
    cases rds
    cases e3
    obtain rfl := R.strE q1
    exact SkE.call_str_str pins s σ H _ us Q I rs ⟨_, rfl, p g H (.refl g) r _ (R.str _)⟩
  · cases rds
    obtain rfl := R.intE q1
    split at e3
    · cases e3
      exact call_str_int pins s σ H _ us Q I rs ⟨_, rfl, by assumption, p g H (.refl g) r _ (R.str _)⟩
    · cases e3
  · -- repr
    cases rds
    cases e4 : w.pd.bind reprOf with
    | none => rw [e4] at e3; cases e3
    | some z =>
      rw [e4] at e3
      have e3' : some (Rv.val (.str z)) = some rv := e3
      cases e3'
      obtain ⟨pd, f1, f2⟩ := Option.bind_eq_some_iff.mp e4
      obtain ⟨k1, k2, k3, rfl⟩ := reprOf_ok f2
      obtain ⟨u, rfl, ru⟩ := vals1 rs
      obtain ⟨as, rd⟩ := Dp.reads I pd x u (q1.dp hK r f1) ru
      have q : Q (.str pd.shown) H := p g H (.refl g) r _ (R.str _)
      exact repr_any rd k1 (VwR.noDict f1) k2 k3 hg (by omega) fun h' t tk hk => ⟨.str _, H, I.kept hk, ⟨t, rfl⟩, q⟩
  · -- all
    cases rds
    cases e4 : w.lst.bind blsOf with
    | none => rw [e4] at e3; cases e3
    | some z =>
      rw [e4] at e3
      have e3' : some (Rv.val (.bl (z.all id))) = some rv := e3
      cases e3'
      obtain ⟨ys, f1, f2⟩ := Option.bind_eq_some_iff.mp e4
      obtain ⟨c, zs, rfl, k2, k3⟩ := q1.lst r f1
      obtain rfl := blsOf_ok k3 f2
      exact cr_all hc pins s σ H _ us Q I rs ⟨c, z, rfl, SqL.of k2, p g H (.refl g) r _ (R.bl _)⟩
  · -- any
    cases rds
    cases e4 : w.lst.bind blsOf with
    | none => rw [e4] at e3; cases e3
    | some z =>
      rw [e4] at e3
      have e3' : some (Rv.val (.bl (z.any id))) = some rv := e3
      cases e3'
      obtain ⟨ys, f1, f2⟩ := Option.bind_eq_some_iff.mp e4
      obtain ⟨c, zs, rfl, k2, k3⟩ := q1.lst r f1
      obtain rfl := blsOf_ok k3 f2
      exact cr_any hc pins s σ H _ us Q I rs ⟨c, z, rfl, SqL.of k2, p g H (.refl g) r _ (R.bl _)⟩
  · -- isinstance
    cases rds with
    | cons h1 h2 =>
      cases h2
      rename_i c u
      cases e4 : isaV T w c with
      | none => rw [e4] at e3; cases e3
      | some z =>
        rw [e4] at e3
        have e3' : some (Rv.val (.bl z)) = some rv := e3
        cases e3'
        obtain ⟨t, cc, k1, k2, k3⟩ := isaV_ok wk r q1 h1 e4
        rw [← hK] at k2 k3
        exact call_isi pins s σ H _ us Q I rs ⟨x, _, t, cc, z, rfl, k1, k2, k3, p g H (.refl g) r _ (R.bl _)⟩
  · cases e3
end
end En
set_option maxHeartbeats 4000000
/-! En10: methods of built-in types; calls of built-ins by their syntax. -/
namespace En
open PySem PySem.Spec PyProof.Rows L2
section
variable {W : Wd} {wx : WX} {X : Cx} {T : Tab}
section
variable {g : Gh} {P : Hp} {s : Stt} {σ : L2.St} {H : Hp}
/-- an object of ours at a becomes another: all that is not at a stands -/
theorem Rel.setOwn {i : Nat} {o o' : Mob} {a : Addr} {ho' : HO} (r : Rel W g P s σ H) (hi : s.env[i]? = some (.own o)) (ha : σ[i]? = some (some (.ref a))) (q : RO W g o' ho') : Rel W g P { s with env := s.env.set i (.own o') } σ (upd H a ho') := by
  obtain ⟨b, ho, e1, e2, e3, e4, e5, e6⟩ := r.slo i o hi
  rw [ha] at e1
  cases e1
  have hil : i < s.env.length := (List.getElem?_eq_some_iff.mp hi).1
  have ow : ∀ {j : Nat}, OwnAt (s.env.set i (.own o')) j → OwnAt s.env j := fun {j} ⟨x, h⟩ => by
    rcases getE_set h with ⟨z, _⟩ | ⟨_, z⟩
    · rw [← z]
      exact ⟨o, hi⟩
    · exact ⟨x, z⟩
  refine ⟨fun c u e => ?_, fun c u e => ?_, by simpa using r.len, r.n, fun k u e => ?_, r.inj, r.stf, fun j d e => ?_, fun j u e => ?_, fun j k c h1 h2 => r.sld j k c (ow h1) (ow h2)⟩
  · rw [upd_ne (fun z => by rw [z, e4] at e; cases e)]
    exact r.fz c u e
  · obtain ⟨k1, k2, k3⟩ := r.pr c u e
    rw [upd_ne (fun z => by rw [z, e5] at e; cases e)]
    exact ⟨k1, k2, k3⟩
  · obtain ⟨h, k1, k2⟩ := r.sto k u e
    have hk : k < g.n := by
      rw [← r.n]
      exact (List.getElem?_eq_some_iff.mp e).1
    exact ⟨h, by rw [upd_ne (e6 k hk)]; exact k1, k2⟩
  · rcases getE_set e with ⟨_, z⟩ | ⟨_, z⟩
    · cases z
    · exact r.slv j d z
  · rcases getE_set e with ⟨z1, z2⟩ | ⟨z1, z2⟩
    · cases z2
      subst z1
      exact ⟨a, ho', ha, upd_same, q, e4, e5, e6⟩
    · obtain ⟨c, h, k1, k2, k3, k4, k5, k6⟩ := r.slo j u z2
      refine ⟨c, h, k1, ?_, k3, k4, k5, k6⟩
      rw [upd_ne]
      · exact k2
      · intro z
        subst z
        exact z1 (r.sld i j c ⟨o, hi⟩ ⟨u, z2⟩ ha k1)
theorem Rel.setSto {n : Nat} {o' : Mob} {ho' : HO} (r : Rel W g P s σ H) (hn : n < g.n) (q : RO W g o' ho') : Rel W g P { s with sto := s.sto.set n o' } σ (upd H (g.ρ n) ho') := by
  refine ⟨fun c u e => ?_, fun c u e => ?_, r.len, by simpa using r.n, fun k u e => ?_, r.inj, r.stf, r.slv, fun j u e => ?_, r.sld⟩
  · rw [upd_ne (fun z => by rw [z, r.stf n hn] at e; cases e)]
    exact r.fz c u e
  · obtain ⟨k1, k2, k3⟩ := r.pr c u e
    rw [upd_ne (fun z => k3 n hn z.symm)]
    exact ⟨k1, k2, k3⟩
  · rcases getE_set e with ⟨z1, z2⟩ | ⟨z1, z2⟩
    · cases z2
      subst z1
      exact ⟨ho', upd_same, q⟩
    · obtain ⟨h, k1, k2⟩ := r.sto k u z2
      have hk : k < g.n := by
        rw [← r.n]
        exact (List.getElem?_eq_some_iff.mp z2).1
      refine ⟨h, ?_, k2⟩
      rw [upd_ne (fun z => z1 (r.inj k n hk hn z).symm)]
      exact k1
  · obtain ⟨c, h, k1, k2, k3, k4, k5, k6⟩ := r.slo j u e
    refine ⟨c, h, k1, ?_, k3, k4, k5, k6⟩
    rw [upd_ne (k6 n hn).symm]
    exact k2
theorem setMob_ok {x : Rv} {v : V} {o o' : Mob} (r : Rel W g P s σ H) (q : RvR W g P s σ H x v) (e : look s x = some (.mb o)) : (∃ s', setMob x o' s = .ok () s' ∧ ∃ a ho, v = .ref a ∧ H a = some ho ∧ RO W g o ho ∧ ∀ ho', RO W g o' ho' → Rel W g P s' σ (upd H a ho')) ∨ setMob x o' s = .stuck := by
  have sto : ∀ {n : Nat}, v = .ref (g.ρ n) → n < g.n → s.sto[n]? = some o → ∃ a ho, v = .ref a ∧ H a = some ho ∧ RO W g o ho ∧ ∀ ho', RO W g o' ho' → Rel W g P { s with sto := s.sto.set n o' } σ (upd H a ho') := fun {n} hv hn h => by
    obtain ⟨h1, k1, k2⟩ := r.sto n o h
    exact ⟨_, h1, hv, k1, k2, fun ho' q' => r.setSto hn q'⟩
  have ofd : ∀ {d : Dat}, Vw.of s d = some (.mb o) → ∃ n, d = .ref n ∧ s.sto[n]? = some o := fun {d} h => by
    cases d <;> first | (exact absurd (Option.some.inj h) (fun z => nomatch z)) | skip
    rename_i n
    have h' : (s.sto[n]?).map Vw.mb = some (.mb o) := h
    cases z : s.sto[n]? with
    | none => rw [z] at h'; cases h'
    | some u =>
      rw [z] at h'
      cases h'
      exact ⟨n, rfl, z⟩
  cases x with
  | own o1 => exact .inr rfl
  | val d =>
    obtain ⟨n, rfl, h⟩ := ofd e
    have hl : n < s.sto.length := (List.getElem?_eq_some_iff.mp h).1
    cases q with
    | ref hn => exact .inl ⟨_, if_pos hl, sto rfl hn h⟩
  | bor i =>
    have q' : σ[i]? = some (some v) := q
    unfold look at e
    cases h : s.env[i]? with
    | none =>
      simp only [h] at e
      cases e
    | some sl =>
      cases sl with
      | no =>
        simp only [h] at e
        cases e
      | own o1 =>
        simp only [h] at e
        cases e
        obtain ⟨a, ho, e1, e2, e3, _⟩ := r.slo i o h
        rw [q'] at e1
        cases e1
        refine .inl ⟨{ s with env := s.env.set i (.own o') }, ?_, a, ho, rfl, e2, e3, fun ho' q2 => r.setOwn h q' q2⟩
        unfold setMob
        simp only [h]
      | val d =>
        simp only [h] at e
        obtain ⟨n, rfl, h2⟩ := ofd e
        have hl : n < s.sto.length := (List.getElem?_eq_some_iff.mp h2).1
        obtain ⟨v', e1, e2⟩ := r.slv i _ h
        rw [q'] at e1
        cases e1
        cases e2 with
        | ref hn =>
          refine .inl ⟨_, ?_, sto rfl hn h2⟩
          unfold setMob
          simp only [h]
          exact if_pos hl
end
def rMth (W : Wd) (wx : WX) (m : Mt) : V → List V → Hp → VK → Prop := fun x xs H Q => ∃ σ, fin2 W wx rvK dsK rvK (mthK m) σ x xs H Q
theorem Post.mthE {g : Gh} {P : Hp} {σ : L2.St} {s : Stt} {H : Hp} {m : Mt} {x : Rv} {v : V} {ds : List Dat} {K : Rv → Stt → Gh → Hp → Prop} (r : Rel W g P s σ H) (q : RvR W g P s σ H x v) (h : Post W wx g P σ (mthK m x ds s) K) :
    ∃ w p, look s x = some w ∧ VwR W g H w v ∧ mthV m w ds = some p ∧ (p.1 = none → Post W wx g P σ (.ok p.2 s) K) ∧ ∀ o o', w = .mb o → p.1 = some o' → ∃ s' a ho, v = .ref a ∧ H a = some ho ∧ RO W g o ho ∧ (∀ ho', RO W g o' ho' → Rel W g P s' σ (upd H a ho')) ∧ Post W wx g P σ (.ok p.2 s') K := by
  obtain ⟨w, e1, h1⟩ := Post.lookE h
  obtain ⟨⟨p1, p2⟩, e2, h2⟩ := Post.optE (Post.bindE h1)
  refine ⟨w, (p1, p2), e1, look_ok r q e1, e2, fun hp => ?_, fun o o' hw hp => ?_⟩
  · have h3 := h2 g H (.refl g) r
    obtain rfl : p1 = none := hp
    exact h3
  · subst hw
    have h3 := h2 g H (.refl g) r
    obtain rfl : p1 = some o' := hp
    have h3' : Post W wx g P σ ((setMob x o').bind (fun _ => Ac.ret p2) s) K := h3
    rcases setMob_ok (o' := o') r q e1 with ⟨s', e3, a, ho, k1, k2, k3, k4⟩ | e3
    · refine ⟨s', a, ho, k1, k2, k3, k4, ?_⟩
      unfold Ac.bind at h3'
      rw [e3] at h3'
      exact h3'
    · unfold Ac.bind at h3'
      rw [e3] at h3'
      exact h3'.elim
theorem Rs.one {g : Gh} {d : Dat} {vs : List V} (h : Rs W g [d] vs) : ∃ v, vs = [v] ∧ R W g d v := by
  cases h with
  | cons r t => cases t; exact ⟨_, rfl, r⟩
theorem Rs.two {g : Gh} {d e : Dat} {vs : List V} (h : Rs W g [d, e] vs) : ∃ v u, vs = [v, u] ∧ R W g d v ∧ R W g e u := by
  cases h with
  | cons r t =>
    cases t with
    | cons r' t => cases t; exact ⟨_, _, rfl, r, r'⟩
theorem mtr_append : MtR X "list.append" (rMth W wx .append) := by
  intro pins s σ H x vs v us Q I rx rs h
  obtain ⟨σ', g, P, st, a, ds, r, ra, rds, p⟩ := h
  obtain ⟨w, p2, e1, q1, e2, _, h3⟩ := Post.mthE r ra p
  have e2' : mAppend w ds = some p2 := e2
  unfold mAppend at e2'
  split at e2'
  · rename_i xs d
    split at e2'
    · rename_i hz
      cases e2'
      obtain ⟨s', b, ho, rfl, k2, k3, k4, k5⟩ := h3 _ _ rfl rfl
      cases ho <;> first | exact False.elim k3 | skip
      rename_i zs
      have k3' : Rs W g xs zs := k3
      obtain ⟨u, rfl, ru⟩ := rds.one
      refine mt_append pins s σ H _ _ v us Q I rx rs ⟨b, zs, u, rfl, rfl, k2, by rw [← k3'.length]; exact hz, ?_⟩
      exact k5 g _ (.refl g) (k4 (.lst _) (k3'.append (.cons ru .nil))) _ R.non
    · cases e2'
  · cases e2'
theorem mtr_pop : MtR X "list.pop" (rMth W wx .pop) := by
  intro pins s σ H x vs v us Q I rx rs h
  obtain ⟨σ', g, P, st, a, ds, r, ra, rds, p⟩ := h
  obtain ⟨w, p2, e1, q1, e2, _, h3⟩ := Post.mthE r ra p
  have e2' : mPop w ds = some p2 := e2
  unfold mPop at e2'
  split at e2'
  · rename_i xs
    cases rds
    cases e4 : xs[xs.length - 1]? with
    | none => rw [e4] at e2'; cases e2'
    | some y =>
      rw [e4] at e2'
      have e5 : some (some (Mob.lst xs.dropLast), Rv.val y) = some p2 := e2'
      cases e5
      obtain ⟨s', b, ho, rfl, k2, k3, k4, k5⟩ := h3 _ _ rfl rfl
      cases ho <;> first | exact False.elim k3 | skip
      rename_i zs
      have k3' : Rs W g xs zs := k3
      obtain ⟨z, z1, z2⟩ := k3'.get e4
      refine mt_pop pins s σ H _ _ v us Q I rx rs ⟨b, zs, z, rfl, rfl, k2, by rw [← k3'.length]; exact z1, ?_⟩
      exact k5 g _ (.refl g) (k4 (.lst _) k3'.dropLast) _ z2
  · cases e2'
theorem mtr_extend : MtR X "list.extend" (rMth W wx .extend) := by
  intro pins s σ H x vs v us Q I rx rs h
  obtain ⟨σ', g, P, st, a, ds, r, ra, rds, p⟩ := h
  obtain ⟨w, p2, e1, q1, e2, _, h3⟩ := Post.mthE r ra p
  have e2' : mExtend w ds = some p2 := e2
  unfold mExtend at e2'
  split at e2'
  · rename_i xs ys
    split at e2'
    · rename_i hz
      cases e2'
      obtain ⟨s', b, ho, rfl, k2, k3, k4, k5⟩ := h3 _ _ rfl rfl
      cases ho <;> first | exact False.elim k3 | skip
      rename_i zs
      have k3' : Rs W g xs zs := k3
      obtain ⟨u, rfl, ru⟩ := rds.one
      cases ru with
      | lst f1 f2 =>
        refine mt_extend pins s σ H _ _ v us Q I rx rs ⟨b, _, zs, _, rfl, rfl, k2, r.fz _ _ f1, by rw [← k3'.length, ← f2.length]; exact hz, ?_⟩
        exact k5 g _ (.refl g) (k4 (.lst _) (k3'.append f2)) _ R.non
    · cases e2'
  · cases e2'
theorem mtr_upper : MtR X "str.upper" (rMth W wx .upper) := by
  intro pins s σ H x vs v us Q I rx rs h
  obtain ⟨σ', g, P, st, a, ds, r, ra, rds, p⟩ := h
  obtain ⟨w, p2, e1, q1, e2, h2, h3⟩ := Post.mthE r ra p
  have e2' : mUpper w ds = some p2 := e2
  clear h3 e1 e2 p
  unfold mUpper at e2'
  split at e2'
  · split at e2'
    · rename_i hz
      cases e2'
      cases rds
      obtain rfl := R.strE q1
      exact mt_upper pins s σ H _ _ v us Q I rx rs ⟨_, rfl, rfl, hz, h2 rfl g H (.refl g) r _ (R.str _)⟩
    · cases e2'
  · cases e2'
theorem Rs.strs {g : Gh} : ∀ (xs : List Str), Rs W g (xs.map Dat.str) (xs.map V.str)
  | [] => .nil
  | x :: r => .cons (.str x) (Rs.strs r)
theorem mtr_split : MtR X "str.split" (rMth W wx .split) := by
  intro pins s σ H x vs v us Q I rx rs h
  obtain ⟨σ', g, P, st, a, ds, r, ra, rds, p⟩ := h
  obtain ⟨w, p2, e1, q1, e2, h2, h3⟩ := Post.mthE r ra p
  have e2' : mSplit w ds = some p2 := e2
  clear h3 e1 e2 p
  unfold mSplit at e2'
  split at e2'
  · split at e2'
    · rename_i hz
      cases e2'
      obtain ⟨u, rfl, ru⟩ := rds.one
      obtain rfl := R.strE q1
      obtain rfl := R.strE ru
      refine mt_split pins s σ H _ _ v us Q I rx rs ⟨_, _, rfl, rfl, hz.1, hz.2, fun pp hp => ?_⟩
      obtain ⟨n1, n2⟩ := r.newOwn (o := .lst _) (ho := .lst _) hp (Rs.strs _)
      exact h2 rfl g _ (.refl g) n1 _ n2
    · cases e2'
  · cases e2'
theorem mtr_join (hK : X.K = W.K) : MtR X "str.join" (rMth W wx .join) := by
  intro pins s σ H x vs v us Q I rx rs h
  obtain ⟨σ', g, P, st, a, ds, r, ra, rds, p⟩ := h
  obtain ⟨w, p2, e1, q1, e2, h2, h3⟩ := Post.mthE r ra p
  have e2' : mJoin w ds = some p2 := e2
  clear h3 e1 e2 p
  unfold mJoin at e2'
  split at e2'
  · rename_i z d
    split at e2'
    · rename_i ys hy
      split at e2'
      · rename_i hz
        cases e2'
        obtain ⟨u, rfl, ru⟩ := rds.one
        obtain rfl := R.strE q1
        have q := h2 rfl g H (.refl g) r _ (R.str _)
        obtain ⟨l, f1, f2⟩ := Option.bind_eq_some_iff.mp hy
        cases d <;> first | cases f1 | skip
        · cases ru with
          | tup k1 k2 =>
            obtain rfl := strsOf_ok k2 f2
            exact mt_join pins s σ H _ _ v us Q I rx rs ⟨_, _, ys, rfl, rfl, .inr (by rw [hK]; exact sqT_mono r.fz k1), hz, q⟩
        · cases ru with
          | lst k1 k2 =>
            obtain rfl := strsOf_ok k2 f2
            exact mt_join pins s σ H _ _ v us Q I rx rs ⟨_, _, ys, rfl, rfl, .inl (SqL.of (r.fz _ _ k1)), hz, q⟩
      · cases e2'
    · cases e2'
  · cases e2'
theorem kyD_ok {g : Gh} {d : Dat} {v : V} {k : Key} (h : kyD d = some k) (q : R W g d v) : v = kV k := by
  cases d <;> first | cases h | skip
  · obtain rfl := R.intE q; rfl
  · obtain rfl := R.strE q; rfl
theorem mtr_get (hu : X.A.units + 64 < cLine) : MtR X "dict.get" (rMth W wx .get) := by
  intro pins s σ H x vs v us Q I rx rs h
  obtain ⟨σ', g, P, st, a, ds, r, ra, rds, p⟩ := h
  obtain ⟨w, p2, e1, q1, e2, h2, h3⟩ := Post.mthE r ra p
  have e2' : mGet w ds = some p2 := e2
  clear h3 e1 e2 p
  unfold mGet at e2'
  split at e2'
  · split at e2'
    · rename_i kvs ky hd hk
      cases e2'
      obtain ⟨u, rfl, ru⟩ := rds.one
      obtain rfl := kyD_ok hk ru
      obtain ⟨c, zs, rfl, k2, k3⟩ := q1.dct r hd
      cases rx
      obtain ⟨iu, rfl, riu⟩ := vals1 rs
      refine d_get1 (by omega) I (DGet.k (k := ky) k2) riu fun w' s' I' rw' => ⟨_, H, I', rw', ?_⟩
      cases e5 : getK kvs ky with
      | none =>
        rw [e5] at h2
        rw [(k3.val ky).2 e5]
        exact h2 rfl g H (.refl g) r _ R.non
      | some d =>
        rw [e5] at h2
        obtain ⟨z, z1, z2⟩ := (k3.val ky).1 d e5
        rw [z1]
        exact h2 rfl g H (.refl g) r _ z2
    · cases e2'
  · split at e2'
    · rename_i d _ _ kvs ky hd hk
      cases e2'
      obtain ⟨u, u2, rfl, ru, ru2⟩ := rds.two
      obtain rfl := kyD_ok hk ru
      obtain ⟨c, zs, rfl, k2, k3⟩ := q1.dct r hd
      cases rx
      obtain ⟨iu, iu2, rfl, riu, riu2⟩ := vals2 rs
      refine d_get2 (by omega) I (DGet.k (k := ky) k2) riu riu2 fun w' s' I' rw' => ⟨_, H, I', rw', ?_⟩
      cases e5 : getK kvs ky with
      | none =>
        rw [e5] at h2
        rw [(k3.val ky).2 e5]
        exact h2 rfl g H (.refl g) r _ ru2
      | some d =>
        rw [e5] at h2
        obtain ⟨z, z1, z2⟩ := (k3.val ky).1 d e5
        rw [z1]
        exact h2 rfl g H (.refl g) r _ z2
    · cases e2'
  · cases e2'
/-- a method call's action -/
def mthA (m : Mt) (ma : Ac Rv) (ms : Ac (List Dat)) : Ac Rv := ma.bind fun x => (lookA x).bind fun w => if w.kind = some (mtTy m) then ms.bind fun ds => mthK m x ds else Ac.stk
theorem kind_ok {g : Gh} {P : Hp} {s : Stt} {σ : L2.St} {H : Hp} (r : Rel W g P s σ H) {w : Vw} {v : V} {T : String} (q : VwR W g H w v) (e : w.kind = some T) : tyV W.K T v H := by
  cases w with
  | mb o =>
    obtain ⟨a, ho, rfl, h1, h2⟩ := q
    cases o <;> cases ho <;> first | exact False.elim h2 | skip
    · cases e
      exact .inl ⟨rfl, _, SqL.of h1⟩
    · cases e
      exact .inr (.inr (.inl ⟨rfl, .inl ⟨_, h1⟩⟩))
    · cases e
  | dt d =>
    have q' : R W g d v := q
    cases q' <;> first | cases e | skip
    · exact rfl
    · exact .inr (.inr (.inl ⟨rfl, .inl ⟨_, r.fz _ _ (by assumption)⟩⟩))
theorem mth_imp {m : Mt} {ma : Ac Rv} {ms : Ac (List Dat)} {σ : L2.St} {H : Hp} {Q : VK} (hK : X.K = W.K) (h : tX W wx rvK (mthA m ma ms) σ H Q) : tBM X.K (mtTy m) (rMth W wx m) (tX W wx rvK ma) (tX W wx dsK ms) σ H Q := by
  obtain ⟨g, P, s, r, q⟩ := h
  refine ⟨g, P, s, r, (Post.bindE q).mono fun x s1 g1 H1 l1 r1 q1 v hv => ?_⟩
  obtain ⟨w, e1, q2⟩ := Post.lookE q1
  by_cases hk : w.kind = some (mtTy m)
  · rw [if_pos hk] at q2
    refine ⟨by rw [hK]; exact kind_ok r1 (look_ok r1 hv e1) hk, ?_⟩
    obtain ⟨r2, u2, w2⟩ := rvK.up r1 hv
    refine ⟨g1, rvK.prt P H1 x v, s1, r2, ((Post.bindE q2).under u2 w2).mono fun y s2 g2 H2 l2 r3 p2 u hu => ?_⟩
    exact ⟨σ, g2, P, s2, x, y, r3.weak u2 w2, rvK.go hv l2 r3, hu, p2⟩
  · rw [if_neg hk] at q2
    exact q2.elim
theorem se_mth {m : Mt} {name : Str} {id : String} {o e : Expr} {es : List Expr} {ma : Ac Rv} {ms : Ac (List Dat)} {apos cpos : Pos} (hK : X.K = W.K) (pa : PlainAttrs (mtTy m)) (slot : Slot (mtTy m) name id) (hty : typeOf (.builtin id) = pure (.type "method_descriptor"))
    (hm : MtR X id (rMth W wx m)) (po : SE W wx X ma o) (ps : SA W wx X ms (e :: es))
    (hbase : attributeBase o name X.env (eval o X.env) = eval o X.env)
    (hfew : ((backTo cpos (starEach (e :: es) X.env)).all (fun x => !x.1) && (backToKw cpos (keywordEach [] X.env)).all (fun x => x.1.isSome)
      && decide ((e :: es).length + ([] : List Keyword).length + (if ([] : List Keyword).isEmpty then 0 else 1) < 30)) = true)
    (hline : (apos.endLine == cpos.line) = true) (hs : starEach (e :: es) X.env = (false, eval e X.env) :: starEach es X.env) (hplain : (backTo cpos (starEach es X.env)).any (·.1) = false) :
    SE W wx X (mthA m ma ms) (.Call (.Attribute o name apos) (e :: es) [] cpos) :=
  peImp (pe_bm pa slot hty hm po ps hbase hfew hline hs hplain) fun σ H Q h => mth_imp hK h
theorem se_mth0 {m : Mt} {name : Str} {id : String} {o : Expr} {ma : Ac Rv} {apos cpos : Pos} (hK : X.K = W.K) (pa : PlainAttrs (mtTy m)) (slot : Slot (mtTy m) name id) (hty : typeOf (.builtin id) = pure (.type "method_descriptor"))
    (hm : MtR X id (rMth W wx m)) (po : SE W wx X ma o)
    (hbase : attributeBase o name X.env (eval o X.env) = eval o X.env) (hline : (apos.endLine == cpos.line) = true) :
    SE W wx X (mthA m ma (Ac.ret [])) (.Call (.Attribute o name apos) [] [] cpos) :=
  peImp (pe_bm0 pa slot hty hm po hbase hline) fun σ H Q h => by
    obtain ⟨g, P, s, r, q⟩ := mth_imp (X := X) hK h
    refine ⟨g, P, s, r, q.mono fun x s1 g1 H1 l1 r1 q1 v hv => ?_⟩
    obtain ⟨t, g2, P2, s2, r2, q2⟩ := q1 v hv
    exact ⟨t, q2 g2 H1 (.refl g2) r2 [] .nil⟩
/-! built-in functions -/
def biA (T : Tab) (b : Bi) (ma : Ac Rv) (ms : Ac (List Dat)) : Ac Rv := ma.bind fun x => ms.bind fun ds => biK T b x ds
theorem bi_args {b : Bi} {ma : Ac Rv} {ms : Ac (List Dat)} {σ : L2.St} {H : Hp} {Q : VK} (h : tX W wx rvK (biA T b ma ms) σ H Q) : tCB (rBi W wx T b) (tCons (tX W wx rvK ma) (tX W wx dsK ms)) σ H Q := by
  obtain ⟨g, P, s, r, q⟩ := tX_bind2 h
  exact ⟨g, P, s, r, q.mono fun x s1 g1 H1 l1 r1 q1 v hv => by
    obtain ⟨g2, P2, s2, r2, q2⟩ := q1 v hv
    exact ⟨g2, P2, s2, r2, q2.mono fun y s3 g3 H3 l3 r3 q3 u hu => ⟨_, _, σ, rfl, q3 u hu⟩⟩⟩
theorem se_bi {b : Bi} {e : Expr} {es : List Expr} {ma : Ac Rv} {ms : Ac (List Dat)} {x : Str} {p pos : Pos} (hK : X.K = W.K) (wk : Wk W T) (hc : X.calm = true) (hgd : X.A.guards = some []) (hu : X.A.units + 70 < cLine) (hg : Gl X x) (hm : X.mg x = none) (hv : bootBuiltins x = some b.py)
    (pa : SE W wx X ma e) (ps : SA W wx X ms es) (hn : x ≠ "__name__") (hdb : (x == ("__debug__" : Str)) = false)
    (he : starEach (e :: es) X.env = (false, eval e X.env) :: starEach es X.env) (hpl : (backTo pos (starEach es X.env)).any (·.1) = false) : SE W wx X (biA T b ma ms) (.Call (.Name x p) (e :: es) [] pos) := by
  have hcr := bi_ok (X := X) (T := T) (wx := wx) hK wk hc hgd hu b
  cases b with
  | len => exact peImp (pe_callB hcr hg hm hv (pa_cons pa ps he) hn hdb he hpl) fun σ H Q h => bi_args h
  | tuple => exact peImp (pe_callTy hcr hg hm hv (pa_cons pa ps he) hn hdb he hpl) fun σ H Q h => bi_args h
  | list => exact peImp (pe_callTy hcr hg hm hv (pa_cons pa ps he) hn hdb he hpl) fun σ H Q h => bi_args h
  | str => exact peImp (pe_callTy hcr hg hm hv (pa_cons pa ps he) hn hdb he hpl) fun σ H Q h => bi_args h
  | int => exact peImp (pe_callTy hcr hg hm hv (pa_cons pa ps he) hn hdb he hpl) fun σ H Q h => bi_args h
  | repr => exact peImp (pe_callB hcr hg hm hv (pa_cons pa ps he) hn hdb he hpl) fun σ H Q h => bi_args h
  | all => exact peImp (pe_callB hcr hg hm hv (pa_cons pa ps he) hn hdb he hpl) fun σ H Q h => bi_args h
  | any => exact peImp (pe_callB hcr hg hm hv (pa_cons pa ps he) hn hdb he hpl) fun σ H Q h => bi_args h
  | isi => exact peImp (pe_callB hcr hg hm hv (pa_cons pa ps he) hn hdb he hpl) fun σ H Q h => bi_args h
end
end En
set_option maxHeartbeats 4000000
/-! En11: statements: readings where the slots change. -/
namespace En
open PySem PySem.Spec PyProof.Rows L2
section
variable (W : Wd) (wx : WX)
/-- behind an action that may write slots; vs: all slots that it may write, as seen by wipe -/
def PostV {α : Type} (g : Gh) (P : Hp) (σ : L2.St) (vs : List Nat) (o : Out α) (K : α → Stt → Gh → L2.St → Hp → Prop) : Prop := match o with
  | .ok a s => ∀ g' σ' H', g.Le g' → Rel W g' P s σ' H' → L2.wipe σ' vs = L2.wipe σ vs → K a s g' σ' H'
  | .exc x s => ∀ g' σ' H' cls d, g.Le g' → Rel W g' P s σ' H' → XR W g' x cls d → wx cls d σ' H'
  | .stuck => False
/-- behind a statement -/
def PostS (g : Gh) (P : Hp) (o : Out Flw) (D : Ends) : Prop := match o with
  | .ok .nx s => ∀ g' σ' H', g.Le g' → Rel W g' P s σ' H' → D.nx σ' H'
  | .ok .bk s => ∀ g' σ' H', g.Le g' → Rel W g' P s σ' H' → D.bk σ' H'
  | .ok .ct s => ∀ g' σ' H', g.Le g' → Rel W g' P s σ' H' → D.ct σ' H'
  | .ok (.rt r) s => ∀ g' σ' H' v, g.Le g' → Rel W g' P s σ' H' → RvR W g' P s σ' H' r v → D.rt v H'
  | .exc x s => ∀ g' σ' H' cls d, g.Le g' → Rel W g' P s σ' H' → XR W g' x cls d → wx cls d σ' H'
  | .stuck => False
/-- the reading of a statement -/
def tS (m : Ac Flw) : TS := fun D σ H => ∃ g P s, Rel W g P s σ H ∧ PostS W wx g P (m s) D
/-- the reading of a target; vs: the slots that it may write -/
def tG (a : Rv → Ac Unit) (vs : List Nat) : TG := fun v σ H Q => ∃ g P s x, Rel W g P s σ H ∧ RvR W g P s σ H x v ∧ PostV W wx g P σ vs (a x s) fun _ _ _ σ' H' => Q σ' H'
def tGs (a : List Dat → Ac Unit) (vs : List Nat) : TGs := fun us σ H Q => ∃ g P s ds, Rel W g P s σ H ∧ Rs W g ds us ∧ PostV W wx g P σ vs (a ds s) fun _ _ _ σ' H' => Q σ' H'
end
section
variable {W : Wd} {wx : WX} {g g' : Gh} {P P' : Hp} {s : Stt} {σ : L2.St} {H : Hp} {vs : List Nat}
theorem PostV.mono {α : Type} {o : Out α} {K K' : α → Stt → Gh → L2.St → Hp → Prop} (h : PostV W wx g P σ vs o K) (hK : ∀ a s g' σ' H', g.Le g' → Rel W g' P s σ' H' → L2.wipe σ' vs = L2.wipe σ vs → K a s g' σ' H' → K' a s g' σ' H') : PostV W wx g P σ vs o K' := by
  cases o with
  | ok a s => exact fun g' σ' H' l r e => hK a s g' σ' H' l r e (h g' σ' H' l r e)
  | exc x s => exact h
  | stuck => exact h
theorem PostV.le {α : Type} {o : Out α} {K : α → Stt → Gh → L2.St → Hp → Prop} (h : PostV W wx g P σ vs o K) (l : g.Le g') : PostV W wx g' P σ vs o K := by
  cases o with
  | ok a s => exact fun g2 σ' H' l2 r => h g2 σ' H' (l.trans l2) r
  | exc x s => exact fun g2 σ' H' cls d l2 r x => h g2 σ' H' cls d (l.trans l2) r x
  | stuck => exact h
theorem PostV.under {α : Type} {o : Out α} {K : α → Stt → Gh → L2.St → Hp → Prop} (h : PostV W wx g P σ vs o K) (h1 : ∀ a o, P a = some o → P' a = some o) (h2 : ∀ a, P' a = none → P a = none) : PostV W wx g P' σ vs o K := by
  cases o with
  | ok a s => exact fun g2 σ' H' l r => h g2 σ' H' l (r.weak h1 h2)
  | exc x s => exact fun g2 σ' H' cls d l r x => h g2 σ' H' cls d l (r.weak h1 h2) x
  | stuck => exact h
theorem PostV.wip {α : Type} {o : Out α} {σ0 : L2.St} {K : α → Stt → Gh → L2.St → Hp → Prop} (h : PostV W wx g P σ0 vs o K) (e : L2.wipe σ vs = L2.wipe σ0 vs) : PostV W wx g P σ vs o K := by
  cases o with
  | ok a s => exact fun g2 σ' H' l2 r e2 => h g2 σ' H' l2 r (e2.trans e)
  | exc x s => exact h
  | stuck => exact h
theorem PostV.bindE {α β : Type} {m : Ac α} {f : α → Ac β} {K : β → Stt → Gh → L2.St → Hp → Prop} (h : PostV W wx g P σ vs (m.bind f s) K) : PostV W wx g P σ vs (m s) fun a s1 g1 σ1 H1 => PostV W wx g1 P σ1 vs (f a s1) K := by
  unfold Ac.bind at h
  cases e : m s with
  | ok a s1 =>
    rw [e] at h
    exact fun g1 σ1 H1 l r e => (PostV.le h l).wip e
  | exc x s1 =>
    rw [e] at h
    exact h
  | stuck =>
    rw [e] at h
    exact h
/-- an action that leaves the slots -/
theorem PostV.post {α : Type} {o : Out α} {K : α → Stt → Gh → L2.St → Hp → Prop} (h : PostV W wx g P σ vs o K) : Post W wx g P σ o fun a s g' H' => K a s g' σ H' := by
  cases o with
  | ok a s => exact fun g' H' l r => h g' σ H' l r rfl
  | exc x s => exact fun g' H' cls d l r x => h g' σ H' cls d l r x
  | stuck => exact h
theorem PostV.bindP {α β : Type} {m : Ac α} {f : α → Ac β} {K : β → Stt → Gh → L2.St → Hp → Prop} (h : PostV W wx g P σ vs (m.bind f s) K) : Post W wx g P σ (m s) fun a s1 g1 H1 => PostV W wx g1 P σ vs (f a s1) K := by
  have h2 := PostV.post (PostV.bindE h)
  exact h2
theorem PostS.le {o : Out Flw} {D : Ends} (h : PostS W wx g P o D) (l : g.Le g') : PostS W wx g' P o D := by
  cases o with
  | ok a s =>
    cases a with
    | nx => exact fun g2 σ' H' l2 r => h g2 σ' H' (l.trans l2) r
    | rt r => exact fun g2 σ' H' v l2 r q => h g2 σ' H' v (l.trans l2) r q
    | bk => exact fun g2 σ' H' l2 r => h g2 σ' H' (l.trans l2) r
    | ct => exact fun g2 σ' H' l2 r => h g2 σ' H' (l.trans l2) r
  | exc x s => exact fun g2 σ' H' cls d l2 r x => h g2 σ' H' cls d (l.trans l2) r x
  | stuck => exact h
theorem PostS.under {o : Out Flw} {D : Ends} (h : PostS W wx g P o D) (h1 : ∀ a o, P a = some o → P' a = some o) (h2 : ∀ a, P' a = none → P a = none) : PostS W wx g P' o D := by
  cases o with
  | ok a s =>
    cases a with
    | nx => exact fun g2 σ' H' l r => h g2 σ' H' l (r.weak h1 h2)
    | rt x => exact fun g2 σ' H' v l r q => h g2 σ' H' v l (r.weak h1 h2) (rvK.weak q h2)
    | bk => exact fun g2 σ' H' l r => h g2 σ' H' l (r.weak h1 h2)
    | ct => exact fun g2 σ' H' l r => h g2 σ' H' l (r.weak h1 h2)
  | exc x s => exact fun g2 σ' H' cls d l r x => h g2 σ' H' cls d l (r.weak h1 h2) x
  | stuck => exact h
theorem PostS.mono {o : Out Flw} {D D' : Ends} (h : PostS W wx g P o D) (hn : ∀ s g' σ' H', g.Le g' → Rel W g' P s σ' H' → D.nx σ' H' → D'.nx σ' H') (hr : ∀ v H, D.rt v H → D'.rt v H) (hb : ∀ s g' σ' H', g.Le g' → Rel W g' P s σ' H' → D.bk σ' H' → D'.bk σ' H') (hc : ∀ s g' σ' H', g.Le g' → Rel W g' P s σ' H' → D.ct σ' H' → D'.ct σ' H') : PostS W wx g P o D' := by
  cases o with
  | ok a s =>
    cases a with
    | nx => exact fun g2 σ' H' l r => hn s g2 σ' H' l r (h g2 σ' H' l r)
    | rt x => exact fun g2 σ' H' v l r q => hr _ _ (h g2 σ' H' v l r q)
    | bk => exact fun g2 σ' H' l r => hb s g2 σ' H' l r (h g2 σ' H' l r)
    | ct => exact fun g2 σ' H' l r => hc s g2 σ' H' l r (h g2 σ' H' l r)
  | exc x s => exact h
  | stuck => exact h
/-- an expression's action ahead of a statement's -/
theorem PostS.bindE {α : Type} {m : Ac α} {f : α → Ac Flw} {D : Ends} (h : PostS W wx g P (m.bind f s) D) : Post W wx g P σ (m s) fun a s1 g1 H1 => PostS W wx g1 P (f a s1) D := by
  unfold Ac.bind at h
  cases e : m s with
  | ok a s1 =>
    rw [e] at h
    exact fun g1 H1 l r => PostS.le h l
  | exc x s1 =>
    rw [e] at h
    exact fun g' H' cls d l r x => h g' σ H' cls d l r x
  | stuck =>
    rw [e] at h
    exact h
/-- a target's action ahead of a statement's -/
theorem PostS.bindV {α : Type} {m : Ac α} {f : α → Ac Flw} {D : Ends} (vs : List Nat) (h : PostS W wx g P (m.bind f s) D) : PostV W wx g P σ vs (m s) fun a s1 g1 σ1 H1 => PostS W wx g1 P (f a s1) D := by
  unfold Ac.bind at h
  cases e : m s with
  | ok a s1 =>
    rw [e] at h
    exact fun g1 σ1 H1 l r _ => PostS.le h l
  | exc x s1 =>
    rw [e] at h
    exact h
  | stuck =>
    rw [e] at h
    exact h
/-! slots are written -/
theorem sget_set {l : L2.St} {i j : Nat} {x y : Option V} (h : (l.set i x)[j]? = some y) (hne : i ≠ j) : l[j]? = some y := by
  rcases getE_set h with ⟨z, _⟩ | ⟨_, z⟩
  · exact absurd z hne
  · exact z
theorem Rel.setVal {i : Nat} {d : Dat} {v : V} (r : Rel W g P s σ H) (q : R W g d v) : Rel W g P { s with env := s.env.set i (.val d) } (σ.set i (some v)) H := by
  have ow : ∀ {j : Nat} {o : Mob}, (s.env.set i (.val d))[j]? = some (.own o) → i ≠ j ∧ s.env[j]? = some (.own o) := fun {j o} e => by
    rcases getE_set e with ⟨_, e2⟩ | z
    · cases e2
    · exact z
  refine ⟨r.fz, r.pr, by simpa using r.len, r.n, r.sto, r.inj, r.stf, fun j d' e => ?_, fun j o e => ?_, fun j k a ⟨o, e⟩ ⟨o', e'⟩ h1 h2 => ?_⟩
  · rcases getE_set e with ⟨e1, e2⟩ | ⟨e1, e2⟩
    · cases e2
      subst e1
      have hl : i < σ.length := by
        rw [← r.len]
        have := (List.getElem?_eq_some_iff.mp e).1
        simpa using this
      exact ⟨v, by rw [List.getElem?_set_self hl], q⟩
    · obtain ⟨u, k1, k2⟩ := r.slv j d' e2
      exact ⟨u, by rw [List.getElem?_set_ne e1]; exact k1, k2⟩
  · obtain ⟨e1, e2⟩ := ow e
    obtain ⟨a, ho, k1, k2⟩ := r.slo j o e2
    exact ⟨a, ho, by rw [List.getElem?_set_ne e1]; exact k1, k2⟩
  · obtain ⟨e1, e2⟩ := ow e
    obtain ⟨e3, e4⟩ := ow e'
    exact r.sld j k a ⟨o, e2⟩ ⟨o', e4⟩ (sget_set h1 e1) (sget_set h2 e3)
theorem Rel.setOwnV {i : Nat} {o : Mob} {v : V} (r : Rel W g P s σ H) (q : RvR W g P s σ H (.own o) v) : Rel W g P { s with env := s.env.set i (.own o) } (σ.set i (some v)) H := by
  obtain ⟨a, ho, rfl, hH, hR, hF, hP, hn, hs⟩ := q
  have at_ : ∀ {x : Slt}, (s.env.set i (.own o))[i]? = some x → (σ.set i (some (.ref a)))[i]? = some (some (.ref a)) := fun {x} e => by
    have hl : i < σ.length := by
      rw [← r.len]
      have := (List.getElem?_eq_some_iff.mp e).1
      simpa using this
    exact List.getElem?_set_self hl
  refine ⟨r.fz, r.pr, by simpa using r.len, r.n, r.sto, r.inj, r.stf, fun j d' e => ?_, fun j o' e => ?_, fun j k b ⟨o1, e⟩ ⟨o2, e'⟩ h1 h2 => ?_⟩
  · rcases getE_set e with ⟨e1, e2⟩ | ⟨e1, e2⟩
    · cases e2
    · obtain ⟨u, k1, k2⟩ := r.slv j d' e2
      exact ⟨u, by rw [List.getElem?_set_ne e1]; exact k1, k2⟩
  · rcases getE_set e with ⟨e1, e2⟩ | ⟨e1, e2⟩
    · cases e2
      subst e1
      exact ⟨a, ho, at_ e, hH, hR, hF, hP, hn⟩
    · obtain ⟨b, hb, k1, k2⟩ := r.slo j o' e2
      exact ⟨b, hb, by rw [List.getElem?_set_ne e1]; exact k1, k2⟩
  · rcases getE_set e with ⟨e1, e2⟩ | ⟨e1, e2⟩
    · subst e1
      rw [at_ e] at h1
      cases h1
      rcases getE_set e' with ⟨e3, e4⟩ | ⟨e3, e4⟩
      · exact e3
      · exact absurd (sget_set h2 e3) (hs k ⟨o2, e4⟩)
    · rcases getE_set e' with ⟨e3, e4⟩ | ⟨e3, e4⟩
      · subst e3
        rw [at_ e'] at h2
        cases h2
        exact absurd (sget_set h1 e1) (hs j ⟨o1, e2⟩)
      · exact r.sld j k b ⟨o1, e2⟩ ⟨o2, e4⟩ (sget_set h1 e1) (sget_set h2 e3)
end
/-- a slot takes a result -/
def setA (i : Nat) : Rv → Ac Unit := fun r => match r with
  | .own o => setSlot i (.own o)
  | r => (toVal r).bind fun d => setSlot i (.val d)
section
variable {W : Wd} {wx : WX} {g : Gh} {P : Hp} {s : Stt} {σ : L2.St} {H : Hp} {vs : List Nat}
theorem Post.toValE {α : Type} {x : Rv} {v : V} {f : Dat → Ac α} {K : α → Stt → Gh → Hp → Prop} (r : Rel W g P s σ H) (q : RvR W g P s σ H x v) (h : Post W wx g P σ ((toVal x).bind f s) K) : ∃ d s' g', g.Le g' ∧ Rel W g' P s' σ H ∧ R W g' d v ∧ Post W wx g' P σ (f d s') K := by
  have h2 := Post.bindE h
  cases e : toVal x s with
  | ok d s' =>
    rw [e] at h2
    obtain ⟨g', l, r', q'⟩ := toVal_ok r q e
    exact ⟨d, s', g', l, r', q', h2 g' H l r'⟩
  | exc y s' => exact absurd e toVal_ne
  | stuck =>
    rw [e] at h2
    exact h2.elim
theorem PostV.toValE {α : Type} {x : Rv} {v : V} {f : Dat → Ac α} {K : α → Stt → Gh → L2.St → Hp → Prop} (r : Rel W g P s σ H) (q : RvR W g P s σ H x v) (h : PostV W wx g P σ vs ((toVal x).bind f s) K) : ∃ d s' g', g.Le g' ∧ Rel W g' P s' σ H ∧ R W g' d v ∧ PostV W wx g' P σ vs (f d s') K := by
  have h2 := PostV.bindE h
  cases e : toVal x s with
  | ok d s' =>
    rw [e] at h2
    obtain ⟨g', l, r', q'⟩ := toVal_ok r q e
    exact ⟨d, s', g', l, r', q', h2 g' σ H l r' rfl⟩
  | exc y s' => exact absurd e toVal_ne
  | stuck =>
    rw [e] at h2
    exact h2.elim
theorem PostV.lookE {α : Type} {x : Rv} {f : Vw → Ac α} {K : α → Stt → Gh → L2.St → Hp → Prop} (h : PostV W wx g P σ vs ((lookA x).bind f s) K) : ∃ w, look s x = some w ∧ PostV W wx g P σ vs (f w s) K := by
  unfold Ac.bind lookA at h
  cases e : look s x with
  | none =>
    simp only [e] at h
    exact h.elim
  | some w =>
    simp only [e] at h
    exact ⟨w, rfl, h⟩
theorem wipe_setin {i : Nat} {x : Option V} : ∀ {vs : List Nat} {σ : L2.St}, i ∈ vs → L2.wipe (σ.set i x) vs = L2.wipe σ vs
  | v :: vs, σ, h => by
    show (L2.wipe (σ.set i x) vs).set v none = (L2.wipe σ vs).set v none
    by_cases hi : i ∈ vs
    · rw [wipe_setin hi]
    · have hv : i = v := by
        rcases List.mem_cons.mp h with h | h
        · exact h
        · exact absurd h hi
      subst hv
      have : ∀ (vs : List Nat) (σ : L2.St), (L2.wipe (σ.set i x) vs).set i none = (L2.wipe σ vs).set i none := by
        intro vs
        induction vs with
        | nil =>
          intro σ
          show (σ.set i x).set i none = σ.set i none
          rw [List.set_set]
        | cons w ws ih =>
          intro σ
          show ((L2.wipe (σ.set i x) ws).set w none).set i none = ((L2.wipe σ ws).set w none).set i none
          by_cases hw : w = i
          · subst hw
            rw [List.set_set, List.set_set]
            exact ih σ
          · rw [List.set_comm (l := L2.wipe (List.set σ i x) ws) _ _ hw, List.set_comm (l := L2.wipe σ ws) _ _ hw, ih σ]
      exact this vs σ
/-- a slot takes a result: what follows -/
theorem setA_ok {i : Nat} {x : Rv} {v : V} {K : Unit → Stt → Gh → L2.St → Hp → Prop} (hv : i ∈ vs) (r : Rel W g P s σ H) (q : RvR W g P s σ H x v) (h : PostV W wx g P σ vs (setA i x s) K) : ∃ s' g', g.Le g' ∧ Rel W g' P s' (σ.set i (some v)) H ∧ K () s' g' (σ.set i (some v)) H := by
  have val : (PostV W wx g P σ vs (((toVal x).bind fun d => setSlot i (.val d)) s) K) → ∃ s' g', g.Le g' ∧ Rel W g' P s' (σ.set i (some v)) H ∧ K () s' g' (σ.set i (some v)) H := fun h => by
    obtain ⟨d, s', g', l, r', q', h'⟩ := PostV.toValE r q h
    have r2 := r'.setVal (i := i) q'
    exact ⟨_, g', l, r2, h' g' _ H (.refl g') r2 (wipe_setin hv)⟩
  cases x with
  | own o =>
    have r2 := r.setOwnV (i := i) q
    exact ⟨_, g, .refl g, r2, h g _ H (.refl g) r2 (wipe_setin hv)⟩
  | val d => exact val h
  | bor j => exact val h
end
/-! ### statements -/
abbrev SS (W : Wd) (wx : WX) (X : Cx) (m : Ac Flw) (st : Stmt) : Prop := PS X st (tS W wx m)
abbrev SSs (W : Wd) (wx : WX) (X : Cx) (m : Ac Flw) (sts : List Stmt) : Prop := PSs X sts (tS W wx m)
abbrev SG (W : Wd) (wx : WX) (X : Cx) (a : Rv → Ac Unit) (vs : List Nat) (tg : Expr) : Prop := PG X tg (tG W wx a vs)
abbrev SGs (W : Wd) (wx : WX) (X : Cx) (a : List Dat → Ac Unit) (vs : List Nat) (tg : List Expr) : Prop := PGs X tg (tGs W wx a vs)
def nxA : Ac Flw := Ac.ret .nx
def seqM (m m' : Ac Flw) : Ac Flw := m.bind fun f => match f with
  | .nx => m'
  | f => Ac.ret f
/-- what a def gives back -/
def retA : Rv → Ac Flw := fun x s => match x with
  | .bor i => (match s.env[i]? with
    | some (.own o) => .ok (.rt (.own o)) { s with env := s.env.set i .no }
    | some (.val d) => .ok (.rt (.val d)) s
    | _ => .stuck)
  | x => .ok (.rt x) s
section
variable {W : Wd} {wx : WX} {X : Cx}
theorem tS_nx {D : Ends} {σ : L2.St} {H : Hp} (h : tS W wx nxA D σ H) : D.nx σ H := by
  obtain ⟨g, P, s, r, q⟩ := h
  exact q g σ H (.refl g) r
theorem tS_seq {m m' : Ac Flw} {D : Ends} {σ : L2.St} {H : Hp} (h : tS W wx (seqM m m') D σ H) : tS W wx m { D with nx := tS W wx m' D } σ H := by
  obtain ⟨g, P, s, r, q⟩ := h
  refine ⟨g, P, s, r, ?_⟩
  unfold seqM Ac.bind at q
  cases e : m s with
  | ok f s1 =>
    rw [e] at q
    cases f with
    | nx => exact fun g' σ' H' l r => ⟨g', P, s1, r, PostS.le q l⟩
    | rt x => exact q
    | bk => exact q
    | ct => exact q
  | exc x s1 =>
    rw [e] at q
    exact q
  | stuck =>
    rw [e] at q
    exact q
theorem ss_nil : SSs W wx X nxA [] := pssImp pss_nil fun D σ H h => tS_nx h
theorem ss_cons {st : Stmt} {rest : List Stmt} {m m' : Ac Flw} (h1 : SS W wx X m st) (h2 : SSs W wx X m' rest) : SSs W wx X (seqM m m') (st :: rest) := pssImp (pss_cons h1 h2) fun D σ H h => tS_seq h
theorem ss_pass {pos : Pos} : SS W wx X nxA (.Pass pos) := psImp ps_pass fun D σ H h => tS_nx h
theorem ss_doc {x j pos pos'} : SS W wx X nxA (.Expr (.Constant (.str x) j pos) pos') := psImp ps_doc fun D σ H h => tS_nx h
theorem ss_break {pos : Pos} : SS W wx X (Ac.ret .bk) (.Break pos) := psImp ps_break fun D σ H ⟨g, P, s, r, q⟩ => q g σ H (.refl g) r
theorem ss_continue {pos : Pos} : SS W wx X (Ac.ret .ct) (.Continue pos) := psImp ps_continue fun D σ H ⟨g, P, s, r, q⟩ => q g σ H (.refl g) r
theorem ss_expr {e : Expr} {m : Ac Rv} {pos : Pos} (h : SE W wx X m e) (hs : swapsWith e none pos.line X.env = pure false) : SS W wx X (m.bind fun _ => nxA) (.Expr e pos) := psImp (ps_expr h hs) fun D σ H hh => by
  obtain ⟨g, P, s, r, q⟩ := hh
  exact ⟨g, P, s, r, (PostS.bindE q).mono fun x s1 g1 H1 l1 r1 q1 v hv => q1 g1 σ H1 (.refl g1) r1⟩
theorem retA_ok {g : Gh} {P : Hp} {s : Stt} {σ : L2.St} {H : Hp} {x : Rv} {v : V} {D : Ends} (r : Rel W g P s σ H) (q : RvR W g P s σ H x v) (h : PostS W wx g P (retA x s) D) : D.rt v H := by
  cases x with
  | val d => exact h g σ H v (.refl g) r q
  | own o => exact h g σ H v (.refl g) r q
  | bor i =>
    have q' : σ[i]? = some (some v) := q
    unfold retA at h
    cases e : s.env[i]? with
    | none =>
      simp only [e] at h
      exact h.elim
    | some sl =>
      cases sl with
      | no =>
        simp only [e] at h
        exact h.elim
      | val d =>
        simp only [e] at h
        obtain ⟨u, e1, e2⟩ := r.slv i d e
        rw [q'] at e1
        cases e1
        exact h g σ H v (.refl g) r e2
      | own o =>
        simp only [e] at h
        obtain ⟨a, ho, e1, e2, e3, e4, e5, e6⟩ := r.slo i o e
        rw [q'] at e1
        cases e1
        refine h g σ H _ (.refl g) r.slotNo ⟨a, ho, rfl, e2, e3, e4, e5, e6, fun j ⟨o', ho'⟩ z => ?_⟩
        rcases getE_set ho' with ⟨_, z2⟩ | ⟨z1, z2⟩
        · cases z2
        · exact z1 (r.sld i j a ⟨o, e⟩ ⟨o', z2⟩ q' z)
theorem ss_ret {e : Expr} {m : Ac Rv} {pos : Pos} (h : SE W wx X m e) : SS W wx X (m.bind retA) (.Return (some e) pos) := psImp (ps_ret h) fun D σ H hh => by
  obtain ⟨g, P, s, r, q⟩ := hh
  exact ⟨g, P, s, r, (PostS.bindE q).mono fun x s1 g1 H1 l1 r1 q1 v hv => retA_ok r1 hv q1⟩
theorem ss_retN {pos : Pos} : SS W wx X (Ac.ret (.rt (.val .non))) (.Return none pos) := psImp ps_retN fun D σ H ⟨g, P, s, r, q⟩ => q g σ H _ (.refl g) r R.non
theorem ts_ite {mc : Ac Bool} {ma mb : Ac Flw} {D : Ends} {σ : L2.St} {H : Hp} (h : tS W wx (mc.bind fun k => if k then ma else mb) D σ H) : tX W wx (eqK Bool) mc σ H fun k H1 => if k = true then tS W wx ma D σ H1 else tS W wx mb D σ H1 := by
  obtain ⟨g, P, s, r, q⟩ := h
  refine ⟨g, P, s, r, (PostS.bindE q).mono fun x s1 g1 H1 l1 r1 q1 v hv => ?_⟩
  cases hv
  cases x with
  | true => exact ⟨g1, P, s1, r1, q1⟩
  | false => exact ⟨g1, P, s1, r1, q1⟩
theorem ss_if {c : Expr} {a b : List Stmt} {mc : Ac Bool} {ma mb : Ac Flw} {pos : Pos} (hc : ST W wx X mc c) (ha : SSs W wx X ma a) (hb : SSs W wx X mb b) : SS W wx X (mc.bind fun k => if k then ma else mb) (.If c a b pos) :=
  psImp (ps_if hc ha hb) fun D σ H h => ts_ite h
/-- targets -/
theorem sg_name {i : Nat} {x : Str} {pos : Pos} {vs : List Nat} (hv : i ∈ vs) (hN : X.N.Nodup) (hi : X.N[i]? = some x) (hx : Loc X.env.scope x) (hf : X.fn x = true ∨ X.env.scope.names.lookup x = some .local) : SG W wx X (setA i) vs (.Name x pos) :=
  ⟨fun pins s σ H v u Q I rv h => (pg_name hN hi hx hf).run pins s σ H v u Q I rv (by
    obtain ⟨g, P, st, xx, r, q, p⟩ := h
    obtain ⟨s', g', l, r', k⟩ := setA_ok hv r q p
    exact k)⟩
theorem sgs_nil {vs : List Nat} : SGs W wx X (fun ds => match ds with | [] => Ac.ret () | _ => Ac.stk) vs [] := ⟨fun pins s σ H us u Q I rv h => pgs_nil.run pins s σ H us u Q I rv (by
  obtain ⟨g, P, st, ds, r, q, p⟩ := h
  cases q with
  | nil => exact ⟨rfl, p g σ H (.refl g) r rfl⟩
  | cons _ _ => exact p.elim)⟩
theorem sgs_cons {e : Expr} {es : List Expr} {a : Rv → Ac Unit} {b : List Dat → Ac Unit} {vs : List Nat} (h1 : SG W wx X a vs e) (h2 : SGs W wx X b vs es) (hs : (assignEach (e :: es) X.env).map (·.2) = assign e X.env :: (assignEach es X.env).map (·.2)) :
    SGs W wx X (fun ds => match ds with | d :: ds => (a (.val d)).bind fun _ => b ds | _ => Ac.stk) vs (e :: es) := ⟨fun pins s σ H us u Q I rv h => (pgs_cons h1 h2 hs).run pins s σ H us u Q I rv (by
  obtain ⟨g, P, st, ds, r, q, p⟩ := h
  cases q with
  | nil => exact p.elim
  | cons q1 q2 =>
    refine ⟨_, _, rfl, g, P, st, .val _, r, q1, (PostV.bindE p).mono fun _ s1 g1 σ1 H1 l1 r1 e1 p1 => ?_⟩
    exact ⟨g1, P, s1, _, r1, Rs.mono l1 q2, p1⟩)⟩
/-- the items of a result, n of them -/
def unpA (n : Nat) (b : List Dat → Ac Unit) : Rv → Ac Unit := fun x => (lookA x).bind fun w => match w.tup with
  | some ds => if ds.length = n then b ds else Ac.stk
  | none => Ac.stk
theorem sg_tup {es : List Expr} {k : Nat} {pos : Pos} {b : List Dat → Ac Unit} {vs : List Nat} {n : Nat} (hK : X.K = W.K) (hc : X.calm = true) (h : SGs W wx X b vs es) (hn : (assignEach es X.env).length = n) (hst : (assignEach es X.env).findIdx? (·.1) = none) : SG W wx X (unpA n b) vs (.Tuple es k pos) :=
  ⟨fun pins s σ H v u Q I rv hh => (pg_tup hc h hn hst).run pins s σ H v u Q I rv (by
    obtain ⟨g, P, st, x, r, q, p⟩ := hh
    obtain ⟨w, e1, p1⟩ := PostV.lookE p
    have q1 := look_ok r q e1
    cases e2 : w.tup with
    | none =>
      simp only [e2] at p1
      exact p1.elim
    | some ds =>
      simp only [e2] at p1
      by_cases hl : ds.length = n
      · rw [if_pos hl] at p1
        obtain ⟨a, zs, rfl, k1, k2⟩ := q1.tup r e2
        exact ⟨a, zs, rfl, by rw [hK]; exact k1, by rw [← k2.length]; exact hl, g, P, st, ds, r, k2, p1⟩
      · rw [if_neg hl] at p1
        exact p1.elim)⟩
/-- target = e -/
theorem ss_asg {tg e : Expr} {m : Ac Rv} {a : Rv → Ac Unit} {vs : List Nat} {pos : Pos} (he : SE W wx X m e) (hg : SG W wx X a vs tg) (hs : swapsWithSole [tg] e pos.line X.env = pure false) (hw : swappedStores [tg] e X.env = pure none) (h1 : (assignEach [tg] X.env).map (·.2) = [assign tg X.env]) :
    SS W wx X (m.bind fun x => (a x).bind fun _ => nxA) (.Assign [tg] e pos) := psImp (ps_asg he hg hs hw h1) fun D σ H hh => by
  obtain ⟨g, P, s, r, q⟩ := hh
  refine ⟨g, P, s, r, (PostS.bindE q).mono fun x s1 g1 H1 l1 r1 q1 v hv => ?_⟩
  exact ⟨g1, P, s1, x, r1, hv, (PostS.bindV vs q1).mono fun _ s2 g2 σ2 H2 l2 r2 _ q2 => q2 g2 σ2 H2 (.refl g2) r2⟩
theorem ss_set {i : Nat} {x : Str} {e : Expr} {m : Ac Rv} {pos' pos : Pos} (hN : X.N.Nodup) (hi : X.N[i]? = some x) (hx : Loc X.env.scope x) (he : SE W wx X m e) (hs : swapsWith e (some (.Name x pos')) pos.line X.env = pure false) (hf : X.fn x = true ∨ X.env.scope.names.lookup x = some .local) :
    SS W wx X (m.bind fun x => (setA i x).bind fun _ => nxA) (.Assign [.Name x pos'] e pos) := psImp (ps_set hN hi hx he hs hf) fun D σ H hh => by
  obtain ⟨g, P, s, r, q⟩ := hh
  refine ⟨g, P, s, r, (PostS.bindE q).mono fun x s1 g1 H1 l1 r1 q1 v hv => ?_⟩
  obtain ⟨s', g', l', r', k'⟩ := setA_ok (vs := [i]) (by simp) r1 hv (PostS.bindV [i] q1)
  exact k' g' _ H1 (.refl g') r'
end
end En
set_option maxHeartbeats 4000000
/-! En12: loops, what is walked, stores to places, the store. -/
namespace En
open PySem PySem.Spec PyProof.Rows L2
section
variable {W : Wd} {wx : WX} {X : Cx}
/-! ### while -/
def whlA (mc : Ac Bool) (mb : Ac Flw) : Nat → Ac Flw
  | 0 => Ac.stk
  | n + 1 => mc.bind fun k => if k then mb.bind fun f => (match f with
    | .nx => whlA mc mb n
    | .ct => whlA mc mb n
    | .bk => nxA
    | .rt x => Ac.ret (.rt x)) else nxA
/-- a loop's body: N what it is to reach -/
theorem body_ok {m : Ac Flw} {k : Ac Flw} {g : Gh} {P : Hp} {s : Stt} {σ : L2.St} {H : Hp} {D : Ends} {N : L2.St → Hp → Prop} (r : Rel W g P s σ H) (h : PostS W wx g P (m.bind (fun f => match f with
    | .nx => k
    | .ct => k
    | .bk => nxA
    | .rt x => Ac.ret (.rt x)) s) D) (hN : ∀ g' s' σ' H', g.Le g' → Rel W g' P s' σ' H' → PostS W wx g' P (k s') D → N σ' H') : tS W wx m { D with nx := N, ct := N, bk := D.nx } σ H := by
  refine ⟨g, P, s, r, ?_⟩
  unfold Ac.bind at h
  cases e : m s with
  | ok f s1 =>
    rw [e] at h
    cases f with
    | nx => exact fun g' σ' H' l r' => hN g' s1 σ' H' l r' (PostS.le h l)
    | ct => exact fun g' σ' H' l r' => hN g' s1 σ' H' l r' (PostS.le h l)
    | bk => exact fun g' σ' H' l r' => h g' σ' H' l r'
    | rt x => exact h
  | exc x s1 =>
    rw [e] at h
    exact h
  | stuck =>
    rw [e] at h
    exact h
theorem ss_while {c : Expr} {body : List Stmt} {mc : Ac Bool} {mb : Ac Flw} {n : Nat} {pos : Pos} (hp : PassesOwn (model X.prog X.w) X.A X.env X.xe) (hc : ST W wx X mc c) (hb : SSs W wx X mb body) : SS W wx X (whlA mc mb n) (.While c body [] pos) :=
  psImp (ps_while hp hc hb) fun D σ H h => by
    refine ⟨fun m σ H => tS W wx (whlA mc mb m) D σ H, ⟨n, h⟩, fun m σ1 H1 ⟨g, P, s, r, q⟩ => ?_⟩
    cases m with
    | zero => exact q.elim
    | succ m =>
      refine ⟨g, P, s, r, (PostS.bindE q).mono fun b s1 g1 H2 l1 r1 q1 v hv => ?_⟩
      cases hv
      cases b with
      | false => exact q1 g1 _ H2 (.refl g1) r1
      | true => exact ⟨fun σ' H' => tS W wx (whlA mc mb m) D σ' H', fun σ' H' n' => ⟨m, Nat.lt_succ_self m, n'⟩, body_ok r1 q1 fun g' s' σ' H' l r' p => ⟨g', P, s', r', p⟩⟩
/-! ### what is walked -/
structure GoodIt (W : Wd) (g : Gh) (J : It) (ds : List Dat) : Prop where
  go : ∀ g' P s σ H i, g.Le g' → Rel W g' P s σ H → i < ds.length → J.go i H
  yld : ∀ g' P s σ H i x H', g.Le g' → Rel W g' P s σ H → i < ds.length → J.yld i H x H' → ∃ g'' d, g'.Le g'' ∧ Rel W g'' P s σ H' ∧ ds[i]? = some d ∧ R W g'' d x
  /- objects of no concern stay -/
  ext : ∀ i x H H', J.yld i H x H' → ∀ a o, H a = some o → H' a = some o
  stop : ∀ g' P s σ H, g.Le g' → Rel W g' P s σ H → J.stop ds.length H
def tI (W : Wd) (wx : WX) (m : Ac (List Dat)) : TI := fun σ H R => ∃ g P s, Rel W g P s σ H ∧ Post W wx g P σ (m s) fun ds s' g' H' => ∀ J, GoodIt W g' J ds → R J H'
abbrev SI (W : Wd) (wx : WX) (X : Cx) (tg : Expr) (m : Ac (List Dat)) (it : Expr) : Prop := PI X tg it (tI W wx m)
def forA (a : Rv → Ac Unit) (mb me : Ac Flw) : List Dat → Ac Flw
  | [] => me
  | d :: r => (a (.val d)).bind fun _ => mb.bind fun f => match f with
    | .nx => forA a mb me r
    | .ct => forA a mb me r
    | .bk => nxA
    | .rt x => Ac.ret (.rt x)
theorem for_imp {m : Ac (List Dat)} {a : Rv → Ac Unit} {mb me : Ac Flw} {vs : List Nat} {D : Ends} {σ : L2.St} {H : Hp} (h : tS W wx (m.bind (forA a mb me)) D σ H) : tForE (tI W wx m) (tG W wx a vs) (tS W wx mb) (tS W wx me) D σ H := by
  obtain ⟨g, P, s, r, q⟩ := h
  refine ⟨g, P, s, r, (PostS.bindE q).mono fun ds s1 g1 H1 l1 r1 q1 J hJ => ?_⟩
  refine ⟨fun i m σ H => m + i = ds.length ∧ ∃ g2 s2, g1.Le g2 ∧ Rel W g2 P s2 σ H ∧ PostS W wx g2 P (forA a mb me (ds.drop i) s2) D, ⟨ds.length, rfl, g1, s1, .refl g1, r1, q1⟩, ?_⟩
  rintro i m σ2 H2 ⟨hm, g2, s2, l2, r2, q2⟩
  by_cases hi : i < ds.length
  · refine .inr ⟨hJ.go g2 P s2 σ2 H2 i l2 r2 hi, fun σ' H' => m - 1 + (i + 1) = ds.length ∧ ∃ g2 s2, g1.Le g2 ∧ Rel W g2 P s2 σ' H' ∧ PostS W wx g2 P (forA a mb me (ds.drop (i + 1)) s2) D, fun σ' H' n' => ⟨m - 1, by omega, n'⟩, fun x H3 y => ?_⟩
    obtain ⟨g3, d, l3, r3, e3, rd⟩ := hJ.yld g2 P s2 σ2 H2 i x H3 l2 r2 hi y
    have ed : ds.drop i = d :: ds.drop (i + 1) := by
      have hd : ds[i] = d := by
        have := List.getElem?_eq_getElem hi
        rw [e3] at this
        exact (Option.some.inj this).symm
      rw [List.drop_eq_getElem_cons hi, hd]
    rw [ed] at q2
    have q2' : PostS W wx g2 P (((a (.val d)).bind fun _ => mb.bind fun f => (match f with
      | .nx => forA a mb me (ds.drop (i + 1))
      | .ct => forA a mb me (ds.drop (i + 1))
      | .bk => nxA
      | .rt x => Ac.ret (.rt x))) s2) D := q2
    refine ⟨g3, P, s2, .val d, r3, rd, (PostS.bindV vs (PostS.le q2' l3)).mono fun _ s4 g4 σ4 H4 l4 r4 _ q4 => ?_⟩
    exact body_ok r4 q4 fun g' s' σ' H' l r' p => ⟨by omega, g', s', (l2.trans l3).trans (l4.trans l), r', p⟩
  · have hi' : i = ds.length := by omega
    subst hi'
    rw [List.drop_length] at q2
    exact .inl ⟨hJ.stop g2 P s2 σ2 H2 l2 r2, g2, P, s2, r2, q2⟩
theorem ss_for {tg it : Expr} {body els : List Stmt} {m : Ac (List Dat)} {a : Rv → Ac Unit} {mb me : Ac Flw} {vs : List Nat} {pos : Pos} (hp : PassesOwn (model X.prog X.w) X.A X.env X.xe) (hc : X.calm = true) (hi : SI W wx X tg m it) (hg : SG W wx X a vs tg) (hb : SSs W wx X mb body) (ho : SSs W wx X me els)
    (hs : ∀ x, foldedSetIterable it X.env x = pure x) : SS W wx X (m.bind (forA a mb me)) (.For tg it body els pos) :=
  psImp (ps_forE hp hc hi hg hb ho hs) fun D σ H h => for_imp h
/-! sources -/
theorem good_list {g : Gh} {a : Addr} {ds : List Dat} {vs : List V} {K : PySem.W.Frag} (e : g.F a = some (.lst vs)) (q : Rs W g ds vs) : GoodIt W g (Itl K a) ds where
  go := fun g' P s σ H i l r hi => by
    obtain ⟨v, hv, _⟩ := q.get (List.getElem?_eq_getElem hi)
    exact ⟨vs, v, SqL.of (r.fz _ _ (l.F _ _ e)), hv⟩
  yld := fun g' P s σ H i x H' l r hi y => by
    obtain ⟨rfl, y⟩ := y
    have hv := y vs (SqL.of (r.fz _ _ (l.F _ _ e)))
    obtain ⟨d, hd, rd⟩ := q.getV hv
    exact ⟨g', d, .refl g', r, hd, R.mono l rd⟩
  ext := fun i x H H' y a o h => by
    obtain ⟨rfl, _⟩ := y
    exact h
  stop := fun g' P s σ H l r => ⟨vs, SqL.of (r.fz _ _ (l.F _ _ e)), by rw [q.length]; exact Nat.le_refl _⟩
theorem good_tup {g : Gh} {a : Addr} {ds : List Dat} {vs : List V} (e : SqT W.K g.F a vs) (q : Rs W g ds vs) : GoodIt W g (Itt W.K a) ds where
  go := fun g' P s σ H i l r hi => by
    obtain ⟨v, hv, _⟩ := q.get (List.getElem?_eq_getElem hi)
    exact ⟨vs, v, sqT_mono r.fz (sqT_mono l.F e), hv⟩
  yld := fun g' P s σ H i x H' l r hi y => by
    obtain ⟨rfl, y⟩ := y
    have hv := y vs (sqT_mono r.fz (sqT_mono l.F e))
    obtain ⟨d, hd, rd⟩ := q.getV hv
    exact ⟨g', d, .refl g', r, hd, R.mono l rd⟩
  ext := fun i x H H' y a o h => by
    obtain ⟨rfl, _⟩ := y
    exact h
  stop := fun g' P s σ H l r => ⟨vs, sqT_mono r.fz (sqT_mono l.F e), by rw [q.length]; exact Nat.le_refl _⟩
theorem good_str {g : Gh} {x : Str} : GoodIt W g (Its x) (signs x) where
  go := fun g' P s σ H i l r hi => by
    show i < x.cps.size
    simpa [signs] using hi
  yld := fun g' P s σ H i y H' l r hi h => by
    obtain ⟨rfl, c, hc, rfl⟩ := h
    refine ⟨g', .str ⟨#[c]⟩, .refl g', r, ?_, R.str _⟩
    unfold signs
    rw [List.getElem?_map, Array.getElem?_toList, hc]
    rfl
  ext := fun i x H H' y a o h => by
    obtain ⟨rfl, _⟩ := y
    exact h
  stop := fun g' P s σ H l r => by
    show x.cps.size ≤ _
    simp [signs]
theorem intsD_get {lo : Int} {n i : Nat} (h : i < n) : (intsD lo n)[i]? = some (.int (lo + i)) := by
  unfold intsD
  rw [List.getElem?_map, List.getElem?_range h]
  rfl
theorem intsD_length {lo : Int} {n : Nat} : (intsD lo n).length = n := by simp [intsD]
theorem good_rng {g : Gh} {lo : Int} {n : Nat} : GoodIt W g (Itr lo n) (intsD lo n) where
  go := fun g' P s σ H i l r hi => by
    rw [intsD_length] at hi
    exact hi
  yld := fun g' P s σ H i y H' l r hi h => by
    rw [intsD_length] at hi
    obtain ⟨rfl, rfl⟩ := h
    exact ⟨g', _, .refl g', r, intsD_get hi, R.int _⟩
  ext := fun i x H H' y a o h => by
    obtain ⟨rfl, _⟩ := y
    exact h
  stop := fun g' P s σ H l r => by
    rw [intsD_length]
    exact Nat.le_refl _
theorem enumD_get : ∀ {ds : List Dat} {k i : Nat} {d : Dat}, ds[i]? = some d → (enumD k ds)[i]? = some (.tup [.int ((k + i : Nat) : Int), d])
  | d :: ds, k, 0, _, e => by
    cases e
    rfl
  | d :: ds, k, i + 1, d', e => by
    have := enumD_get (k := k + 1) (i := i) (by simpa using e)
    show (enumD (k + 1) ds)[i]? = _
    rw [this]
    have : k + 1 + i = k + (i + 1) := by omega
    rw [this]
theorem enumD_length : ∀ {ds : List Dat} {k : Nat}, (enumD k ds).length = ds.length
  | [], _ => rfl
  | _ :: ds, k => congrArg (· + 1) (enumD_length (ds := ds) (k := k + 1))
theorem ext_upd {H : Hp} {T : Addr} {u : HO} (h : H T = none) : ∀ a o, H a = some o → (upd H T u) a = some o := fun a o e => by
  rw [upd_ne (ne_of_none e h)]
  exact e
theorem good_enum {g : Gh} {a : Addr} {ds : List Dat} {vs : List V} {K : PySem.W.Frag} (e : g.F a = some (.lst vs)) (q : Rs W g ds vs) : GoodIt W g (Ite K a) (enumD 0 ds) where
  go := fun g' P s σ H i l r hi => by
    rw [enumD_length] at hi
    obtain ⟨v, hv, _⟩ := q.get (List.getElem?_eq_getElem hi)
    exact ⟨vs, v, SqL.of (r.fz _ _ (l.F _ _ e)), hv⟩
  yld := fun g' P s σ H i x H' l r hi y => by
    obtain ⟨T, z, rfl, hT, rfl, y⟩ := y
    have hv := y vs (SqL.of (r.fz _ _ (l.F _ _ e)))
    obtain ⟨d, hd, rd⟩ := q.getV hv
    obtain ⟨n1, n2, n3⟩ := r.newTup hT (ds := [.int (i : Nat), d]) (.cons (.int _) (.cons (R.mono l rd) .nil))
    refine ⟨_, _, n1, n2, ?_, n3⟩
    rw [enumD_get hd]
    simp
  ext := fun i x H H' y => by
    obtain ⟨T, z, rfl, hT, rfl, y⟩ := y
    exact ext_upd hT
  stop := fun g' P s σ H l r => ⟨vs, SqL.of (r.fz _ _ (l.F _ _ e)), by rw [enumD_length, q.length]; exact Nat.le_refl _⟩
theorem good_zip {g : Gh} {a b : Addr} {ds es : List Dat} {vs us : List V} {K : PySem.W.Frag} (e : g.F a = some (.lst vs)) (q : Rs W g ds vs) (e' : g.F b = some (.lst us)) (q' : Rs W g es us) : GoodIt W g (Itz K a b) ((ds.zip es).map fun p => .tup [p.1, p.2]) where
  go := fun g' P s σ H i l r hi => by
    simp only [List.length_map, List.length_zip] at hi
    obtain ⟨v, hv, _⟩ := q.get (List.getElem?_eq_getElem (show i < ds.length by omega))
    obtain ⟨u, hu, _⟩ := q'.get (List.getElem?_eq_getElem (show i < es.length by omega))
    exact ⟨vs, us, v, u, SqL.of (r.fz _ _ (l.F _ _ e)), SqL.of (r.fz _ _ (l.F _ _ e')), hv, hu⟩
  yld := fun g' P s σ H i x H' l r hi y => by
    obtain ⟨T, x, z, rfl, hT, rfl, y, y'⟩ := y
    have hv := y vs (SqL.of (r.fz _ _ (l.F _ _ e)))
    have hu := y' us (SqL.of (r.fz _ _ (l.F _ _ e')))
    obtain ⟨d, hd, rd⟩ := q.getV hv
    obtain ⟨d', hd', rd'⟩ := q'.getV hu
    obtain ⟨n1, n2, n3⟩ := r.newTup hT (ds := [d, d']) (.cons (R.mono l rd) (.cons (R.mono l rd') .nil))
    refine ⟨_, _, n1, n2, ?_, n3⟩
    rw [List.getElem?_map, (List.getElem?_zip_eq_some (z := (d, d'))).mpr ⟨hd, hd'⟩]
    rfl
  ext := fun i x H H' y => by
    obtain ⟨T, x, z, rfl, hT, rfl, y⟩ := y
    exact ext_upd hT
  stop := fun g' P s σ H l r => ⟨vs, us, SqL.of (r.fz _ _ (l.F _ _ e)), SqL.of (r.fz _ _ (l.F _ _ e')), by
    simp only [List.length_map, List.length_zip]
    rw [← q.length, ← q'.length]
    omega⟩
/-- over a list, a tuple, a text -/
def anyIt (K : PySem.W.Frag) (R : It → Hp → Prop) (v : V) (H : Hp) : Prop := (∃ a, v = .ref a ∧ (∃ xs, SqL K H a xs) ∧ R (Itl K a) H) ∨ (∃ a, v = .ref a ∧ (∃ xs, SqT K H a xs) ∧ R (Itt K a) H) ∨ ∃ x, v = .str x ∧ R (Its x) H
theorem pi_any {tg e : Expr} {te : TE} (he : PE X e te) : PI X tg e (fun σ H R => te σ H (anyIt X.K R)) := by
  refine ⟨fun pins s σ H R I h => ?_⟩
  refine thn (he.run pins s σ H _ I h) fun v s1 ⟨x, H1, I1, r1, q1⟩ => ?_
  rcases q1 with ⟨a, e, ⟨xs, hq⟩, q⟩ | ⟨a, e, ⟨xs, hq⟩, q⟩ | ⟨x, ex, q⟩
  · subst e
    cases r1
    obtain ⟨its, rv, p, hz⟩ := I1.list hq
    refine wpAny_pyIter_list p.isList ?_
    refine ⟨s1.heap.objs.size, [s1.heap.objs.size], _, _, H1, rfl, I1.kept (t' := s1.toks) fun b o e => Heap.get?_push_of_some _ e, turn_list a _, ⟨_, Heap.get?_push_size _ rfl, rfl, rfl⟩, fun b hb => ?_, q⟩
    have e : b = s1.heap.objs.size := by simpa using hb
    subst e
    exact I1.fpOk (Nat.le_refl _) (I1.hok.fresh (Nat.le_refl _))
  · subst e
    cases r1
    obtain ⟨its, rv, p, hz⟩ := I1.tuple hq
    refine wpAny_pyIter_tuple (show s1.heap.IsTuple a its.toArray from p) ?_
    refine ⟨s1.heap.objs.size, [s1.heap.objs.size], _, _, H1, rfl, I1.kept (t' := s1.toks) fun b o e => Heap.get?_push_of_some _ e, turn_tuple a _, ⟨_, Heap.get?_push_size _ rfl, rfl, rfl⟩, fun b hb => ?_, q⟩
    have e : b = s1.heap.objs.size := by simpa using hb
    subst e
    exact I1.fpOk (Nat.le_refl _) (I1.hok.fresh (Nat.le_refl _))
  · subst ex
    obtain ⟨t, rfl⟩ := r1
    cases ha : x.cps.all (· < 128)
    · exact wpAny_pyIter_wide ha (pi_one (tk := s1.toks) I1 _ (turn_str _ x t "str_iterator" (.inr rfl)) ⟨_, Heap.get?_push_size _ rfl, rfl, rfl⟩ q)
    · exact wpAny_pyIter_ascii ha (pi_one (tk := s1.toks) I1 _ (turn_str _ x t "str_ascii_iterator" (.inl rfl)) ⟨_, Heap.get?_push_size _ rfl, rfl, rfl⟩ q)
def walkA (m : Ac Rv) : Ac (List Dat) := m.bind fun x => (toVal x).bind fun d => Ac.opt (walkD d)
theorem si_any {tg e : Expr} {m : Ac Rv} (hK : X.K = W.K) (h : SE W wx X m e) : SI W wx X tg (walkA m) e := ⟨fun pins s σ H R I hh => (pi_any h).run pins s σ H R I (by
  obtain ⟨g, P, st, r, q⟩ := hh
  refine ⟨g, P, st, r, (Post.bindE q).mono fun x s1 g1 H1 l1 r1 q1 v hv => ?_⟩
  obtain ⟨d, s2, g2, l2, r2, rd, q2⟩ := Post.toValE r1 hv q1
  obtain ⟨ds, e3, q3⟩ := Post.optE q2
  have fin : ∀ J, GoodIt W g2 J ds → R J H1 := fun J hJ => q3 g2 H1 (.refl g2) r2 J hJ
  unfold anyIt
  rw [hK]
  cases d <;> first | cases e3 | skip
  · cases rd
    exact .inr (.inr ⟨_, rfl, fin _ good_str⟩)
  · cases rd with
    | tup h1 h2 => exact .inr (.inl ⟨_, rfl, ⟨_, sqT_mono r2.fz h1⟩, fin _ (good_tup h1 h2)⟩)
  · cases rd with
    | lst h1 h2 => exact .inl ⟨_, rfl, ⟨_, SqL.of (r2.fz _ _ h1)⟩, fin _ (good_list h1 h2)⟩)⟩
def rngA (ms : Ac (List Dat)) : Ac (List Dat) := ms.bind fun ds => Ac.opt (rngD ds)
theorem rngOk_ok {i : Int} (h : rngOk i = true) : -(2 ^ 62) ≤ i ∧ i < 2 ^ 62 := by
  unfold rngOk at h
  simp only [Bool.and_eq_true, decide_eq_true_eq] at h
  exact h
theorem rngD_cases {ds es : List Dat} (h : rngD ds = some es) : (∃ j, ds = [.int j] ∧ rngOk j = true ∧ es = intsD 0 j.toNat) ∨ ∃ i j, ds = [.int i, .int j] ∧ rngOk i = true ∧ rngOk j = true ∧ es = intsD i (j - i).toNat := by
  unfold rngD at h
  split at h
  · split at h
    · cases h
      exact .inl ⟨_, rfl, by assumption, rfl⟩
    · cases h
  · split at h
    · rename_i hc
      cases h
      simp only [Bool.and_eq_true] at hc
      exact .inr ⟨_, _, rfl, hc.1, hc.2, rfl⟩
    · cases h
  · cases h
theorem si_rng1 {tg a : Expr} {ma : Ac Dat} {p pos : Pos} (hg : Gl X "range") (hm : X.mg "range" = none) (ha : SD W wx X ma a) (hs : starEach [a] X.env = [(false, eval a X.env)]) : SI W wx X tg (ma.bind fun d => Ac.opt (rngD [d])) (.Call (.Name "range" p) [a] [] pos) := ⟨fun pins s σ H R I hh => (pi_range1 hg hm (pa_cons ha pa_nil hs) hs).run pins s σ H R I (by
  obtain ⟨g, P, st, r, q⟩ := hh
  refine ⟨g, P, st, r, (Post.bindE q).mono fun d s1 g1 H1 l1 r1 q1 v hv => ?_⟩
  obtain ⟨es, e3, q3⟩ := Post.optE q1
  rcases rngD_cases e3 with ⟨j, e, h1, rfl⟩ | ⟨i, j, e, _⟩
  · cases e
    obtain rfl := En.R.intE hv
    obtain ⟨a1, a2⟩ := rngOk_ok h1
    show tNil σ H1 _
    unfold tNil
    exact ⟨j, rfl, a1, a2, q3 g1 H1 (.refl g1) r1 _ good_rng⟩
  · cases e)⟩
theorem si_rng2 {tg a b : Expr} {ma mb : Ac Dat} {p pos : Pos} (hg : Gl X "range") (hm : X.mg "range" = none) (ha : SD W wx X ma a) (hb : SD W wx X mb b) (hs : starEach [a, b] X.env = [(false, eval a X.env), (false, eval b X.env)]) (hs2 : starEach [b] X.env = [(false, eval b X.env)]) :
    SI W wx X tg (ma.bind fun d => mb.bind fun d' => Ac.opt (rngD [d, d'])) (.Call (.Name "range" p) [a, b] [] pos) := ⟨fun pins s σ H R I hh => (pi_range2 hg hm (pa_cons ha (pa_cons hb pa_nil hs2) (by rw [hs, hs2])) hs hs2).run pins s σ H R I (by
  obtain ⟨g, P, st, r, q⟩ := hh
  refine ⟨g, P, st, r, (Post.bindE q).mono fun d s1 g1 H1 l1 r1 q1 v hv => ?_⟩
  refine ⟨g1, P, s1, r1, (Post.bindE q1).mono fun d' s2 g2 H2 l2 r2 q2 u hu => ?_⟩
  obtain ⟨es, e3, q3⟩ := Post.optE q2
  rcases rngD_cases e3 with ⟨j, e, h1, rfl⟩ | ⟨i, j, e, h1, h2, rfl⟩
  · cases e
  · cases e
    obtain rfl := En.R.intE hv
    obtain rfl := En.R.intE hu
    obtain ⟨a1, a2⟩ := rngOk_ok h1
    obtain ⟨b1, b2⟩ := rngOk_ok h2
    show tNil σ H2 _
    unfold tNil
    exact ⟨i, j, rfl, ⟨a1, a2, b1, b2⟩, q3 g2 H2 (.refl g2) r2 _ good_rng⟩)⟩
def enmK (d : Dat) : Option (List Dat) := match d with
  | .lst xs => some (enumD 0 xs)
  | _ => none
theorem si_enum {e : Expr} {ma : Ac Dat} {p pos tpos : Pos} {elts : List Expr} {kk : Nat} (hg : Gl X "enumerate") (hm : X.mg "enumerate" = none) (ha : SD W wx X ma e) (hs : starEach [e] X.env = [(false, eval e X.env)]) :
    SI W wx X (.Tuple elts kk tpos) (ma.bind fun d => Ac.opt (enmK d)) (.Call (.Name "enumerate" p) [e] [] pos) := ⟨fun pins s σ H R I hh => (pi_enum hg hm (pa_cons ha pa_nil hs) hs).run pins s σ H R I (by
  obtain ⟨g, P, st, r, q⟩ := hh
  refine ⟨g, P, st, r, (Post.bindE q).mono fun d s1 g1 H1 l1 r1 q1 v hv => ?_⟩
  obtain ⟨es, e3, q3⟩ := Post.optE q1
  cases d <;> first | cases e3 | skip
  cases hv with
  | lst h1 h2 =>
    show tNil σ H1 _
    unfold tNil
    exact ⟨_, _, rfl, SqL.of (r1.fz _ _ h1), q3 g1 H1 (.refl g1) r1 _ (good_enum h1 h2)⟩)⟩
def zipK (d d' : Dat) : Option (List Dat) := match d, d' with
  | .lst xs, .lst ys => some ((xs.zip ys).map fun p => .tup [p.1, p.2])
  | _, _ => none
theorem si_zip {e e2 : Expr} {ma mb : Ac Dat} {p pos tpos : Pos} {elts : List Expr} {kk : Nat} (hg : Gl X "zip") (hm : X.mg "zip" = none) (ha : SD W wx X ma e) (hb : SD W wx X mb e2)
    (hs : starEach [e, e2] X.env = (false, eval e X.env) :: starEach [e2] X.env) (hs2 : starEach [e2] X.env = (false, eval e2 X.env) :: starEach [] X.env) (hpl : (backTo pos (starEach [e2] X.env)).any (·.1) = false) :
    SI W wx X (.Tuple elts kk tpos) (ma.bind fun d => mb.bind fun d' => Ac.opt (zipK d d')) (.Call (.Name "zip" p) [e, e2] [] pos) := ⟨fun pins s σ H R I hh => (pi_zip hg hm (pa_cons ha (pa_cons hb pa_nil hs2) hs) hs hpl).run pins s σ H R I (by
  obtain ⟨g, P, st, r, q⟩ := hh
  refine ⟨g, P, st, r, (Post.bindE q).mono fun d s1 g1 H1 l1 r1 q1 v hv => ?_⟩
  refine ⟨g1, P, s1, r1, (Post.bindE q1).mono fun d' s2 g2 H2 l2 r2 q2 u hu => ?_⟩
  obtain ⟨es, e3, q3⟩ := Post.optE q2
  cases d <;> cases d' <;> first | cases e3 | skip
  cases hv with
  | lst h1 h2 =>
    cases hu with
    | lst k1 k2 =>
      show tNil σ H2 _
      unfold tNil
      exact ⟨_, _, _, _, rfl, SqL.of (r2.fz _ _ (l2.F _ _ h1)), SqL.of (r2.fz _ _ k1), q3 g2 H2 (.refl g2) r2 _ (good_zip (l2.F _ _ h1) (Rs.mono l2 h2) k1 k2)⟩)⟩
end
/-! ### places -/
section
variable {W : Wd} {wx : WX} {X : Cx}
theorem Rk.put {g : Gh} {ky : Key} {d : Dat} {v : V} (q : R W g d v) : ∀ {ds : List (Key × Dat)} {vs : List (Key × V)}, Rk W g ds vs → Rk W g (putD ds ky d) (putK vs ky v) := by
  intro ds vs h
  have any : ∀ {ds : List (Key × Dat)} {vs : List (Key × V)}, Rk W g ds vs → (ds.any fun kv => decide (kv.1 = ky)) = (vs.any fun kv => decide (kv.1 = ky)) := by
    intro ds
    induction ds with
    | nil => intro vs h; cases h; rfl
    | cons p r ih =>
      intro vs h
      cases h with
      | cons h1 h2 => simp only [List.any_cons, ih h2]
  have mp : ∀ {ds : List (Key × Dat)} {vs : List (Key × V)}, Rk W g ds vs → Rk W g (ds.map fun kv => if kv.1 = ky then (kv.1, d) else kv) (vs.map fun kv => if kv.1 = ky then (kv.1, v) else kv) := by
    intro ds
    induction ds with
    | nil => intro vs h; cases h; exact .nil
    | cons p r ih =>
      intro vs h
      cases h with
      | cons h1 h2 =>
        rename_i k _ _ _
        simp only [List.map_cons]
        by_cases hk : k = ky
        · simp only [hk, if_true]
          exact .cons q (ih h2)
        · simp only [hk, if_false]
          exact .cons h1 (ih h2)
  have ap : ∀ {ds : List (Key × Dat)} {vs : List (Key × V)}, Rk W g ds vs → Rk W g (ds ++ [(ky, d)]) (vs ++ [(ky, v)]) := by
    intro ds
    induction ds with
    | nil => intro vs h; cases h; exact .cons q .nil
    | cons p r ih =>
      intro vs h
      cases h with
      | cons h1 h2 => exact .cons h1 (ih h2)
  unfold putD putK
  rw [any h]
  split
  · exact mp h
  · exact ap h
theorem Rf.put {g : Gh} {f : Str} {d : Dat} {v : V} (q : R W g d v) : ∀ {ds : List (Str × Dat)} {vs : List (Str × V)}, Rf W g ds vs → Rf W g (putFd f d ds) (putF f v vs)
  | _, _, .nil => .cons q .nil
  | _, _, .cons (k := k) h1 h2 => by
    unfold putFd putF
    by_cases hk : k = f
    · simp only [hk, if_true]
      exact .cons q h2
    · simp only [hk, if_false]
      exact .cons h1 (Rf.put q h2)
/-- o[k] = d -/
def subO (d : Dat) (w kw : Vw) : Option Mob := match w, kw with
  | .mb (.lst xs), .dt (.int j) => (ixN xs.length j).map fun m => .lst (xs.set m d)
  | .mb (.dct kvs), .dt kd => (kyD kd).bind fun ky => if kvs.length < sizeLine then some (.dct (putD kvs ky d)) else none
  | _, _ => none
def stpK (d : Dat) (o k : Rv) : Ac Unit := (lookA k).bind fun kw => (lookA o).bind fun w => (Ac.opt (subO d w kw)).bind fun o' => setMob o o'
def rSetLD : TSet := fun o i v H Q => rSetL o i v H Q ∨ rSetD o i v H Q
theorem set_ld (hu : X.A.units + 1 < cLine) : PSet X rSetLD := by
  intro pins s σ H o i v ov iv u Q I ro ri rv h
  rcases h with h | h
  · exact set_list pins s σ H o i v ov iv u Q I ro ri rv h
  · exact set_dict hu pins s σ H o i v ov iv u Q I ro ri rv h
theorem PostV.optE {g : Gh} {P : Hp} {σ : L2.St} {s : Stt} {vs : List Nat} {α β : Type} {o : Option α} {f : α → Ac β} {K : β → Stt → Gh → L2.St → Hp → Prop} (h : PostV W wx g P σ vs ((Ac.opt o).bind f s) K) : ∃ b, o = some b ∧ PostV W wx g P σ vs (f b s) K := by
  cases o with
  | none => exact h.elim
  | some b => exact ⟨b, rfl, h⟩
theorem stpK_ok {g : Gh} {P : Hp} {s : Stt} {σ : L2.St} {H : Hp} {vs : List Nat} {d : Dat} {o k : Rv} {ov kv v : V} {Q : L2.St → Hp → Prop} (r : Rel W g P s σ H) (qo : RvR W g P s σ H o ov) (qk : RvR W g P s σ H k kv) (qd : R W g d v)
    (h : PostV W wx g P σ vs (stpK d o k s) fun _ _ _ σ' H' => Q σ' H') : rSetLD ov kv v H fun H' => Q σ H' := by
  obtain ⟨kw, e1, h1⟩ := PostV.lookE h
  obtain ⟨w, e2, h2⟩ := PostV.lookE h1
  obtain ⟨o', e3, h3⟩ := PostV.optE h2
  have q1 := look_ok r qk e1
  have q2 := look_ok r qo e2
  have fin : ∀ {ow : Mob} {ho' : HO} {a : Addr}, w = .mb ow → ov = .ref a → RO W g o' ho' → Q σ (upd H a ho') := fun {ow ho' a} e ea rq => by
    subst e
    rcases setMob_ok (o' := o') r qo e2 with ⟨s', e3, b, hb, k1, k2, k3, k4⟩ | e3
    · rw [ea] at k1
      cases k1
      rw [e3] at h3
      exact h3 g σ _ (.refl g) (k4 ho' rq) rfl
    · rw [e3] at h3
      exact h3.elim
  clear h h1 h2 h3 e1 e2
  unfold subO at e3
  split at e3
  · obtain ⟨m, e4, rfl⟩ := Option.map_eq_some_iff.mp e3
    obtain ⟨a, ho, rfl, k1, k2⟩ := q2
    cases ho <;> first | exact False.elim k2 | skip
    rename_i zs
    have k2' : Rs W g _ zs := k2
    obtain rfl := R.intE q1
    exact .inl ⟨a, zs, _, m, rfl, rfl, k1, by rw [← k2'.length]; exact e4, fin (ho' := .lst _) rfl rfl (k2'.set qd m)⟩
  · obtain ⟨ky, e4, e5⟩ := Option.bind_eq_some_iff.mp e3
    split at e5
    · rename_i hl
      cases e5
      obtain ⟨a, ho, rfl, k1, k2⟩ := q2
      cases ho <;> first | exact False.elim k2 | skip
      rename_i zs
      have k2' : Rk W g _ zs := k2
      obtain rfl := kyD_ok e4 q1
      exact .inr ⟨a, _, rfl, DPut.k k1 (by rw [← k2'.length]; exact hl), fin (ho' := .dK _) rfl rfl (k2'.put qd)⟩
    · cases e5
  · cases e3
theorem sg_sub {o i : Expr} {mo mi : Ac Rv} {vs : List Nat} {pos : Pos} (hu : X.A.units + 64 < cLine) (po : SE W wx X mo o) (pi : SE W wx X mi i) (ha : ∀ v, assign (.Subscript o i pos) X.env v = (do
      let ov ← holding [v] (eval o X.env)
      let iv ← holding [v, ov] (eval i X.env)
      standAt pos
      holding [v, ov, iv] (setItem ov iv v)
      release [v, ov, iv] [])) : SG W wx X (fun x => (toVal x).bind fun d => mo.bind fun o => mi.bind fun k => stpK d o k) vs (.Subscript o i pos) :=
  ⟨fun pins s σ H v u Q I rv h => (pg_sub po pi (set_ld (by omega)) ha).run pins s σ H v u Q I rv (by
    obtain ⟨g, P, st, x, r, q, p⟩ := h
    obtain ⟨d, s1, g1, l1, r1, rd, p1⟩ := PostV.toValE r q p
    refine ⟨g1, P, s1, r1, (PostV.bindP p1).mono fun xo s2 g2 H2 l2 r2 p2 vo ho => ?_⟩
    obtain ⟨r3, u3, w3⟩ := rvK.up r2 ho
    refine ⟨g2, rvK.prt P H2 xo vo, s2, r3, ((PostV.bindP p2).under u3 w3).mono fun xk s4 g4 H4 l4 r4 p4 vk hk => ?_⟩
    exact stpK_ok (r4.weak u3 w3) (rvK.go ho l4 r4) (rvK.weak hk w3) (R.mono (l2.trans l4) rd) p4)⟩
/-- the store -/
def stoA : Rv → Ac Rv := fun x => match x with
  | .own o => fun s => .ok (.val (.ref s.sto.length)) { s with sto := s.sto ++ [o] }
  | _ => Ac.stk
def Gh.st (g : Gh) (a : Addr) : Gh := { g with n := g.n + 1, ρ := fun k => if k = g.n then a else g.ρ k }
theorem Gh.le_st {g : Gh} {a : Addr} : g.Le (g.st a) := ⟨fun _ _ h => h, Nat.le_succ _, fun k hk => by
  show (if k = g.n then a else g.ρ k) = _
  rw [if_neg (by omega)]⟩
theorem Rel.toSto {g : Gh} {P : Hp} {s : Stt} {σ : L2.St} {H : Hp} {o : Mob} {a : Addr} {ho : HO} (r : Rel W g P s σ H) (hH : H a = some ho) (hR : RO W g o ho) (hF : g.F a = none) (hP : P a = none) (hn : ∀ k, k < g.n → g.ρ k ≠ a) (hs : ∀ (i : Nat), OwnAt s.env i → σ[i]? ≠ some (some (.ref a))) :
    Rel W (g.st a) P { s with sto := s.sto ++ [o] } σ H ∧ R W (g.st a) (.ref s.sto.length) (.ref a) := by
  have l : g.Le (g.st a) := Gh.le_st
  have at_ : (g.st a).ρ g.n = a := if_pos rfl
  have ne : ∀ {k}, k ≠ g.n → (g.st a).ρ k = g.ρ k := fun {k} h => if_neg h
  have lt : ∀ {k}, k < (g.st a).n → k ≠ g.n → k < g.n := fun {k} h h' => by
    have : k < g.n + 1 := h
    omega
  refine ⟨⟨r.fz, fun b u e => ?_, r.len, by simp [r.n, Gh.st], fun k u e => ?_, fun j k hj hk e => ?_, fun k hk => ?_, fun i d e => ?_, fun i u e => ?_, r.sld⟩, ?_⟩
  · obtain ⟨k1, k2, k3⟩ := r.pr b u e
    refine ⟨k1, k2, fun k hk => ?_⟩
    by_cases hz : k = g.n
    · rw [hz, at_]
      intro z
      rw [← z, hP] at e
      cases e
    · rw [ne hz]
      exact k3 k (lt hk hz)
  · by_cases hz : k = g.n
    · rw [hz, ← r.n, List.getElem?_append_right (Nat.le_refl _), Nat.sub_self] at e
      cases e
      rw [hz, at_]
      exact ⟨ho, hH, RO.mono l hR⟩
    · have hk : k < (s.sto ++ [o]).length := (List.getElem?_eq_some_iff.mp e).1
      rw [List.length_append, List.length_singleton, r.n] at hk
      have hk' : k < s.sto.length := by
        rw [r.n]
        omega
      rw [List.getElem?_append_left hk'] at e
      obtain ⟨h, k1, k2⟩ := r.sto k u e
      rw [ne hz]
      exact ⟨h, k1, RO.mono l k2⟩
  · by_cases h1 : j = g.n
    · by_cases h2 : k = g.n
      · rw [h1, h2]
      · rw [h1, at_, ne h2] at e
        exact absurd e.symm (hn k (lt hk h2))
    · by_cases h2 : k = g.n
      · rw [h2, at_, ne h1] at e
        exact absurd e (hn j (lt hj h1))
      · rw [ne h1, ne h2] at e
        exact r.inj j k (lt hj h1) (lt hk h2) e
  · by_cases hz : k = g.n
    · rw [hz, at_]
      exact hF
    · rw [ne hz]
      exact r.stf k (lt hk hz)
  · obtain ⟨v, k1, k2⟩ := r.slv i d e
    exact ⟨v, k1, R.mono l k2⟩
  · obtain ⟨b, h, k1, k2, k3, k4, k5, k6⟩ := r.slo i u e
    refine ⟨b, h, k1, k2, RO.mono l k3, k4, k5, fun k hk => ?_⟩
    by_cases hz : k = g.n
    · rw [hz, at_]
      intro z
      rw [← z] at k1
      exact hs i ⟨u, e⟩ k1
    · rw [ne hz]
      exact k6 k (lt hk hz)
  · have := R.ref (W := W) (g := g.st a) (n := g.n) (Nat.lt_succ_self _)
    rw [at_] at this
    rw [r.n]
    exact this
theorem se_sto {e : Expr} {m : Ac Rv} (h : SE W wx X m e) : SE W wx X (m.bind stoA) e := peImp h fun σ H Q hh => by
  obtain ⟨g, P, s, r, q⟩ := hh
  refine ⟨g, P, s, r, (Post.bindE q).mono fun x s1 g1 H1 l1 r1 q1 v hv => ?_⟩
  cases x with
  | val d => exact q1.elim
  | bor i => exact q1.elim
  | own o =>
    obtain ⟨a, ho, rfl, hH, hR, hF, hP, hn, hs⟩ := hv
    obtain ⟨n1, n2⟩ := r1.toSto hH hR hF hP hn hs
    exact q1 _ _ Gh.le_st n1 _ n2
end
end En
set_option maxHeartbeats 4000000
/-! En13: comprehensions. -/
namespace En
open PySem PySem.Spec PyProof.Rows L2
def wx0 : WX := fun _ _ _ _ => False
/-- where an exception is none of ours -/
def noX {α : Type} (m : Ac α) : Ac α := fun s => match m s with
  | .ok a s' => .ok a s'
  | _ => .stuck
def wipS (env : List Slt) (own : List Nat) : List Slt := env.mapIdx fun i x => if i ∈ own then .no else x
def bakS (env0 env : List Slt) (own : List Nat) : List Slt := env.mapIdx fun i x => if i ∈ own then (match env0[i]? with
  | some (.val d) => .val d
  | _ => .no) else x
def wipA (own : List Nat) : Ac Unit := fun s => .ok () { s with env := wipS s.env own }
def trnA (step : Dat → Ac (Option Dat)) : List Dat → List Dat → Ac (List Dat)
  | acc, [] => Ac.ret acc
  | acc, d :: r => (step d).bind fun o => match o with
    | some y => if acc.length < sizeLine then trnA step (acc ++ [y]) r else Ac.stk
    | none => trnA step acc r
def stpA (a : Rv → Ac Unit) (mt : Ac Bool) (me : Ac Dat) (own : List Nat) (d : Dat) : Ac (Option Dat) := noX ((a (.val d)).bind fun _ => mt.bind fun k => if k then me.bind fun y => (wipA own).bind fun _ => Ac.ret (some y) else (wipA own).bind fun _ => Ac.ret none)
def lcA (m : Ac (List Dat)) (a : Rv → Ac Unit) (mt : Ac Bool) (me : Ac Dat) (own : List Nat) : Ac Rv :=
  m.bind fun ds => Ac.get.bind fun s0 => (wipA own).bind fun _ => (trnA (stpA a mt me own) [] ds).bind fun ys => fun s => .ok (.own (.lst ys)) { s with env := bakS s0.env s.env own }
section
variable {W : Wd} {wx : WX} {X : Cx} {g g' : Gh} {P P' : Hp} {s : Stt} {σ : L2.St} {H : Hp} {vs : List Nat}
theorem wipS_get {env : List Slt} {own : List Nat} {i : Nat} {x : Slt} (h : (wipS env own)[i]? = some x) (hx : x ≠ .no) : i ∉ own ∧ env[i]? = some x := by
  unfold wipS at h
  rw [List.getElem?_mapIdx] at h
  cases e : env[i]? with
  | none => rw [e] at h; cases h
  | some y =>
    rw [e] at h
    have h' : (if i ∈ own then Slt.no else y) = x := Option.some.inj h
    by_cases hi : i ∈ own
    · rw [if_pos hi] at h'
      exact absurd h'.symm hx
    · rw [if_neg hi] at h'
      exact ⟨hi, by rw [h']⟩
theorem Rel.wip (r : Rel W g P s σ H) (own : List Nat) : Rel W g P { s with env := wipS s.env own } (L2.wipe σ own) H := by
  have ow : ∀ {i : Nat}, OwnAt (wipS s.env own) i → i ∉ own ∧ OwnAt s.env i := fun {i} ⟨o, e⟩ => by
    obtain ⟨h1, h2⟩ := wipS_get e (fun z => nomatch z)
    exact ⟨h1, o, h2⟩
  refine ⟨r.fz, r.pr, by rw [L2.wipe_length, ← r.len]; simp [wipS], r.n, r.sto, r.inj, r.stf, fun i d e => ?_, fun i o e => ?_, fun i j a hi hj h1 h2 => ?_⟩
  · obtain ⟨h1, h2⟩ := wipS_get e (fun z => nomatch z)
    rw [L2.wipe_out h1]
    exact r.slv i d h2
  · obtain ⟨h1, h2⟩ := wipS_get e (fun z => nomatch z)
    obtain ⟨a, ho, k1, k2⟩ := r.slo i o h2
    exact ⟨a, ho, by rw [L2.wipe_out h1]; exact k1, k2⟩
  · obtain ⟨i1, i2⟩ := ow hi
    obtain ⟨j1, j2⟩ := ow hj
    rw [L2.wipe_out i1] at h1
    rw [L2.wipe_out j1] at h2
    exact r.sld i j a i2 j2 h1 h2
theorem bakS_get {env0 env : List Slt} {own : List Nat} {i : Nat} {x : Slt} (h : (bakS env0 env own)[i]? = some x) (hx : x ≠ .no) : (i ∉ own ∧ env[i]? = some x) ∨ (i ∈ own ∧ ∃ d, x = .val d ∧ env0[i]? = some (.val d)) := by
  unfold bakS at h
  rw [List.getElem?_mapIdx] at h
  cases e : env[i]? with
  | none => rw [e] at h; cases h
  | some y =>
    rw [e] at h
    have h' : (if i ∈ own then (match env0[i]? with
      | some (.val d) => Slt.val d
      | _ => .no) else y) = x := Option.some.inj h
    by_cases hi : i ∈ own
    · rw [if_pos hi] at h'
      split at h'
      · rename_i d hd
        exact .inr ⟨hi, d, h'.symm, hd⟩
      · exact absurd h'.symm hx
    · rw [if_neg hi] at h'
      exact .inl ⟨hi, by rw [h']⟩
theorem Rel.bak {s0 : Stt} {g0 : Gh} {P0 : Hp} {H0 : Hp} {own : List Nat} (r0 : Rel W g0 P0 s0 σ H0) (l : g0.Le g) (r : Rel W g P s (L2.wipe σ own) H) : Rel W g P { s with env := bakS s0.env s.env own } σ H := by
  have ow : ∀ {i : Nat}, OwnAt (bakS s0.env s.env own) i → i ∉ own ∧ OwnAt s.env i := fun {i} ⟨o, e⟩ => by
    rcases bakS_get e (fun z => nomatch z) with ⟨h1, h2⟩ | ⟨_, d, h2, _⟩
    · exact ⟨h1, o, h2⟩
    · cases h2
  refine ⟨r.fz, r.pr, ?_, r.n, r.sto, r.inj, r.stf, fun i d e => ?_, fun i o e => ?_, fun i j a hi hj h1 h2 => ?_⟩
  · have := r.len
    rw [L2.wipe_length] at this
    rw [← this]
    simp [bakS]
  · rcases bakS_get e (fun z => nomatch z) with ⟨h1, h2⟩ | ⟨_, d', h2, h3⟩
    · have := r.slv i d h2
      rw [L2.wipe_out h1] at this
      exact this
    · cases h2
      obtain ⟨v, k1, k2⟩ := r0.slv i d h3
      exact ⟨v, k1, R.mono l k2⟩
  · rcases bakS_get e (fun z => nomatch z) with ⟨h1, h2⟩ | ⟨_, d, h2, _⟩
    · obtain ⟨a, ho, k1, k2⟩ := r.slo i o h2
      rw [L2.wipe_out h1] at k1
      exact ⟨a, ho, k1, k2⟩
    · cases h2
  · obtain ⟨i1, i2⟩ := ow hi
    obtain ⟨j1, j2⟩ := ow hj
    rw [← L2.wipe_out i1] at h1
    rw [← L2.wipe_out j1] at h2
    exact r.sld i j a i2 j2 h1 h2
/-- a protected object grows -/
theorem Rel.reprot {D : Addr} {u u' : HO} (r : Rel W g (upd P D u) s σ H) (hP : P D = none) : Rel W g (upd P D u') s σ (upd H D u') := by
  obtain ⟨p1, p2, p3⟩ := r.pr D u upd_same
  have low : ∀ {b : Addr} {o : HO}, b ≠ D → H b = some o → (upd H D u') b = some o := fun {b o} h e => by
    rw [upd_ne h]
    exact e
  refine ⟨fun b o e => low (fun z => by rw [z, p2] at e; cases e) (r.fz b o e), fun b o e => ?_, r.len, r.n, fun k o e => ?_, r.inj, r.stf, r.slv, fun i o e => ?_, r.sld⟩
  · by_cases hb : b = D
    · subst hb
      rw [upd_same] at e
      cases e
      exact ⟨upd_same, p2, p3⟩
    · rw [upd_ne hb] at e
      obtain ⟨k1, k2, k3⟩ := r.pr b o (by rw [upd_ne hb]; exact e)
      exact ⟨low hb k1, k2, k3⟩
  · obtain ⟨ho, k1, k2⟩ := r.sto k o e
    have hk : k < g.n := by
      rw [← r.n]
      exact (List.getElem?_eq_some_iff.mp e).1
    exact ⟨ho, low (p3 k hk) k1, k2⟩
  · obtain ⟨a, ho, k1, k2, k3, k4, k5, k6⟩ := r.slo i o e
    have ha : a ≠ D := fun z => by
      rw [z, upd_same] at k5
      cases k5
    exact ⟨a, ho, k1, low ha k2, k3, k4, by rw [upd_ne ha] at k5 ⊢; exact k5, k6⟩
theorem wipe_idem : L2.wipe (L2.wipe σ vs) vs = L2.wipe σ vs := by
  apply List.ext_getElem?
  intro i
  by_cases hi : i ∈ vs
  · have none_at : ∀ (vs : List Nat) (σ : L2.St), i ∈ vs → ∀ x, (L2.wipe σ vs)[i]? = some x → x = none := by
      intro vs
      induction vs with
      | nil =>
        intro σ h
        cases h
      | cons v vs ih =>
        intro σ h x e
        have e' : ((L2.wipe σ vs).set v none)[i]? = some x := e
        by_cases hv : v = i
        · subst hv
          rcases getE_set e' with ⟨_, z⟩ | ⟨z, _⟩
          · exact z
          · exact absurd rfl z
        · have hi' : i ∈ vs := by
            rcases List.mem_cons.mp h with h | h
            · exact absurd h.symm hv
            · exact h
          rcases getE_set e' with ⟨z, _⟩ | ⟨_, z⟩
          · exact absurd z hv
          · exact ih σ hi' x z
    have len : ∀ σ : L2.St, ((L2.wipe σ vs)[i]? = none) ↔ σ.length ≤ i := fun σ => by
      rw [List.getElem?_eq_none_iff, L2.wipe_length]
    cases e1 : (L2.wipe (L2.wipe σ vs) vs)[i]? with
    | none =>
      have h1 := (len _).mp e1
      rw [L2.wipe_length] at h1
      exact ((len σ).mpr h1).symm
    | some x =>
      cases e2 : (L2.wipe σ vs)[i]? with
      | none =>
        have h2 := (len σ).mp e2
        have : (L2.wipe (L2.wipe σ vs) vs)[i]? = none := (len _).mpr (by rw [L2.wipe_length]; exact h2)
        rw [this] at e1
        cases e1
      | some y => rw [none_at vs _ hi x e1, none_at vs _ hi y e2]
  · rw [L2.wipe_out hi]
theorem PostV.noX {α : Type} {wx' : WX} {m : Ac α} {K : α → Stt → Gh → L2.St → Hp → Prop} (h : PostV W wx g P σ vs (noX m s) K) : PostV W wx' g P σ vs (m s) K := by
  unfold En.noX at h
  cases e : m s with
  | ok a s' =>
    rw [e] at h
    exact h
  | exc x s' =>
    rw [e] at h
    exact h.elim
  | stuck =>
    rw [e] at h
    exact h.elim
theorem trnA_nox {step : Dat → Ac (Option Dat)} (hs : ∀ d s x s', step d s ≠ .exc x s') : ∀ (ds acc : List Dat) (s : Stt) (x : Dat) (s' : Stt), trnA step acc ds s ≠ .exc x s'
  | [], acc, s, x, s', e => by cases e
  | d :: r, acc, s, x, s', e => by
    unfold trnA Ac.bind at e
    cases q : step d s with
    | ok o s1 =>
      rw [q] at e
      cases o with
      | none => exact trnA_nox hs r acc s1 x s' e
      | some y =>
        have e' : (if acc.length < sizeLine then trnA step (acc ++ [y]) r else Ac.stk) s1 = .exc x s' := e
        by_cases hl : acc.length < sizeLine
        · rw [if_pos hl] at e'
          exact trnA_nox hs r _ s1 x s' e'
        · rw [if_neg hl] at e'
          cases e'
    | exc z s1 => exact absurd q (hs d s z s1)
    | stuck =>
      rw [q] at e
      cases e
theorem stpA_nox {a : Rv → Ac Unit} {mt : Ac Bool} {me : Ac Dat} {own : List Nat} (d : Dat) (s : Stt) (x : Dat) (s' : Stt) : stpA a mt me own d s ≠ .exc x s' := by
  unfold stpA noX
  intro e
  split at e <;> cases e
/-- behind all turns -/
def lcEnd (W : Wd) (wx : WX) (P : Hp) (σ : L2.St) (own : List Nat) (s1 : Stt) (Q : VK) (ys : List Dat) (s' : Stt) (g' : Gh) (σ' : L2.St) (H' : Hp) : Prop :=
  σ' = L2.wipe σ own → Post W wx g' P σ (.ok (Rv.own (.lst ys)) { s' with env := bakS s1.env s'.env own }) fun b s' g' H' => ∀ v, (rvK (W := W)).rel g' P s' σ H' b v → Q v H'
/-- ahead of turn i -/
def lcAt (W : Wd) (wx : WX) (P : Hp) (σ : L2.St) (own : List Nat) (s1 : Stt) (Q : VK) (step : Dat → Ac (Option Dat)) (ds : List Dat) (g1 : Gh) (D : Addr) (i n : Nat) (H : Hp) : Prop :=
  n + i = ds.length ∧ ∃ g2 s2 acc accV, g1.Le g2 ∧ Rel W g2 (upd P D (.lst accV)) s2 (L2.wipe σ own) H ∧ Rs W g2 acc accV ∧ PostV W wx0 g2 P (L2.wipe σ own) own (trnA step acc (ds.drop i) s2) (lcEnd W wx P σ own s1 Q)
theorem lc_imp {m : Ac (List Dat)} {a : Rv → Ac Unit} {mt : Ac Bool} {me : Ac Dat} {own : List Nat} {Q : VK} (h : tX W wx rvK (lcA m a mt me own) σ H Q) :
    tLc (tI W wx m) (tG W wx0 a own) (tX W wx0 (eqK Bool) mt) (tX W wx0 dtK me) own σ H Q := by
  obtain ⟨g, P, s, r, q⟩ := h
  refine ⟨g, P, s, r, (Post.bindE q).mono fun ds s1 g1 H1 l1 r1 q1 J hJ => ?_⟩
  intro D hD
  obtain ⟨f1, f2, f3, f4⟩ := r1.newF hD
  -- the turns
  have start : PostV W wx0 g1 P (L2.wipe σ own) own (trnA (stpA a mt me own) [] ds { s1 with env := wipS s1.env own }) (lcEnd W wx P σ own s1 Q) := by
    have q2 : Post W wx g1 P σ (((trnA (stpA a mt me own) [] ds).bind fun ys => fun s => .ok (Rv.own (.lst ys)) { s with env := bakS s1.env s.env own }) { s1 with env := wipS s1.env own }) (fun b s' g' H' => ∀ v, (rvK (W := W)).rel g' P s' σ H' b v → Q v H') := q1
    unfold Ac.bind at q2
    cases e : trnA (stpA a mt me own) [] ds { s1 with env := wipS s1.env own } with
    | ok ys s' =>
      rw [e] at q2
      exact fun g' σ' H' l r _ _ => Post.le q2 l
    | exc x s' => exact absurd e (trnA_nox stpA_nox ds [] _ x s')
    | stuck =>
      rw [e] at q2
      exact q2.elim
  refine ⟨lcAt W wx P σ own s1 Q (stpA a mt me own) ds g1 D, ?_, ?_⟩
  · refine ⟨ds.length, rfl, g1, _, [], [], .refl g1, ?_, .nil, start⟩
    exact Rel.prot (o := .lst []) (ho := .lst []) ((r1.wip own).laid hD) upd_same f1 f2 f3 fun i ⟨o, e⟩ z => by
      obtain ⟨h1, h2⟩ := wipS_get e (fun z => nomatch z)
      rw [L2.wipe_out h1] at z
      exact f4 i ⟨o, h2⟩ z
  rintro i n H2 ⟨hn, g2, s2, acc, accV, l2, r2, rs, q2⟩
  obtain ⟨p1, p2, p3⟩ := r2.pr D _ upd_same
  by_cases hi : i < ds.length
  · refine .inr ⟨hJ.go g2 _ s2 _ H2 i l2 r2 hi, lcAt W wx P σ own s1 Q (stpA a mt me own) ds g1 D (i + 1) (n - 1), fun H' n' => ⟨n - 1, by omega, n'⟩, fun x H3 y => ?_⟩
    obtain ⟨g3, d, l3, r3, e3, rd⟩ := hJ.yld g2 _ s2 _ H2 i x H3 l2 r2 hi y
    have ed : ds.drop i = d :: ds.drop (i + 1) := by
      have hd : ds[i] = d := by
        have := List.getElem?_eq_getElem hi
        rw [e3] at this
        exact (Option.some.inj this).symm
      rw [List.drop_eq_getElem_cons hi, hd]
    rw [ed] at q2
    have q3 := (PostV.bindE (PostV.le q2 l3)).under (up_le (ho := .lst accV) f2) up_none
    have q4 := PostV.bindE (PostV.noX (wx' := wx0) q3)
    refine ⟨g3, _, s2, .val d, r3, rd, q4.mono fun _ s4 g4 σ4 H4 l4 r4 e4 q5 => ⟨e4.trans wipe_idem, ?_⟩⟩
    have e4' : L2.wipe σ4 own = L2.wipe σ own := e4.trans wipe_idem
    refine ⟨g4, _, s4, r4, (PostV.bindP q5).mono fun k s5 g5 H5 l5 r5 q6 k' hk => ?_⟩
    cases hk
    cases k with
    | false =>
      have r7 := r5.wip own
      have q8 := q6 g5 _ H5 (.refl g5) r7 wipe_idem
      rw [e4'] at q8 r7
      exact ⟨by omega, g5, _, acc, accV, (l2.trans l3).trans (l4.trans l5), r7, Rs.mono (l3.trans (l4.trans l5)) rs, q8⟩
    | true =>
      refine ⟨g5, _, s5, r5, (PostV.bindP q6).mono fun yd s6 g6 H6 l6 r6 q7 v hv => ?_⟩
      have r7 := r6.wip own
      have q8 := q7 g6 _ H6 (.refl g6) r7 wipe_idem
      rw [e4'] at q8 r7
      have q9 : PostV W wx0 g6 P (L2.wipe σ own) own ((if acc.length < sizeLine then trnA (stpA a mt me own) (acc ++ [yd]) (ds.drop (i + 1)) else Ac.stk) { s6 with env := wipS s6.env own }) (lcEnd W wx P σ own s1 Q) := q8
      have rs' : Rs W g6 acc accV := Rs.mono (l3.trans (l4.trans (l5.trans l6))) rs
      by_cases hl : acc.length < sizeLine
      · rw [if_pos hl] at q9
        refine ⟨accV, (r6.pr D _ upd_same).1, by rw [← rs'.length]; exact hl, by omega, g6, _, acc ++ [yd], accV ++ [v], (l2.trans l3).trans (l4.trans (l5.trans l6)), r7.reprot f2, rs'.append (.cons hv .nil), q9⟩
      · rw [if_neg hl] at q9
        exact q9.elim
  · have hi' : i = ds.length := by omega
    subst hi'
    rw [List.drop_length] at q2
    refine .inl ⟨hJ.stop g2 _ s2 _ H2 l2 r2, ?_⟩
    have r3 : Rel W g2 P s2 (L2.wipe σ own) H2 := r2.unprot f2
    have q4 := q2 g2 _ H2 (.refl g2) r3 rfl rfl
    have r4 := Rel.bak r1 l2 r2
    refine q4 g2 H2 (.refl g2) (r4.unprot f2) _ ⟨D, _, rfl, p1, rs, p2, f2, p3, fun j ⟨o, e⟩ z => ?_⟩
    obtain ⟨b, hb, k1, k2, k3, k4, k5, k6⟩ := r4.slo j o e
    rw [z] at k1
    cases k1
    rw [upd_same] at k5
    cases k5
abbrev BlkX (X : Cx) (scope : Scope) (p : Cx → Prop) : Prop := ∀ (s : Shared) (H : Hp) (C : Addr) (cl : List (Str × Addr)) (fp : List Addr), p (X.blk s H scope (compEnvC scope cl C X.env) fp)
theorem se_lc {elt tg iter : Expr} {ifs : List Expr} {scope : Scope} {own : List (Str × Nat)} {pos : Pos} {m : Ac (List Dat)} {a : Rv → Ac Unit} {mt : Ac Bool} {me : Ac Dat} (hc : X.calm = true) (hN : X.N.Nodup) (hi : SI W wx X tg m iter) (ok : BlkOk X.N X.env.scope scope own)
    (hg : BlkX X scope fun Y => SG W wx0 Y a (own.map (·.2)) tg) (ht : BlkX X scope fun Y => PTs Y ifs (tX W wx0 (eqK Bool) mt)) (he : BlkX X scope fun Y => SD W wx0 Y me elt) (hs : ∀ x, foldedSetIterable iter X.env x = pure x) :
    SE W wx X (lcA m a mt me (own.map (·.2))) (.ListComp elt [⟨tg, iter, ifs, 0⟩] scope pos) := peImp (pe_lc hc hN hi ok hg ht he hs) fun σ H Q h => lc_imp h
theorem ss_setLc {i : Nat} {y : Str} {py : Pos} {elt tg iter : Expr} {ifs : List Expr} {scope : Scope} {own : List (Str × Nat)} {pos spos : Pos} {m : Ac (List Dat)} {a : Rv → Ac Unit} {mt : Ac Bool} {me : Ac Dat} (hc : X.calm = true) (hN : X.N.Nodup) (hy : X.N[i]? = some y) (hyl : X.env.scope.names.lookup y = some .local)
    (hsw : swapsWith (.ListComp elt [⟨tg, iter, ifs, 0⟩] scope pos) (some (.Name y py)) spos.line X.env = pure true) (hi : SI W wx X tg m iter) (ok : BlkOk X.N X.env.scope scope own)
    (hg : BlkX X scope fun Y => SG W wx0 Y a (own.map (·.2)) tg) (ht : BlkX X scope fun Y => PTs Y ifs (tX W wx0 (eqK Bool) mt)) (he : BlkX X scope fun Y => SD W wx0 Y me elt) (hs : ∀ x, foldedSetIterable iter X.env x = pure x) :
    SS W wx X ((lcA m a mt me (own.map (·.2))).bind fun x => (setA i x).bind fun _ => nxA) (.Assign [.Name y py] (.ListComp elt [⟨tg, iter, ifs, 0⟩] scope pos) spos) :=
  psImp (ps_setLc hc hN hy hyl hsw hi ok hg ht he hs) fun D σ H hh => by
    refine lc_imp (wx := wx) ?_
    obtain ⟨g, P, s, r, q⟩ := hh
    refine ⟨g, P, s, r, (PostS.bindE q).mono fun x s1 g1 H1 l1 r1 q1 v hv => ?_⟩
    obtain ⟨s', g', l', r', k'⟩ := setA_ok (vs := [i]) (by simp) r1 hv (PostS.bindV [i] q1)
    exact k' g' _ H1 (.refl g') r'
end
end En
set_option maxHeartbeats 4000000
/-! En14: what a def promises; calls. -/
namespace En
open PySem PySem.Spec PyProof.Rows L2
/-- what parameters are bound to -/
inductive Sl where
  | pos (i : Nat) | kw (i : Nat) | dft (d : Dat)
def Sl.get (ds zs : List Dat) : Sl → Option Dat
  | .pos i => ds[i]?
  | .kw i => zs[i]?
  | .dft d => some d
def permD (ds zs : List Dat) : List Sl → Option (List Dat)
  | [] => some []
  | l :: r => match l.get ds zs, permD ds zs r with
    | some d, some ds' => some (d :: ds')
    | _, _ => none
/-- a constant's value -/
def cstV : Dat → Option V
  | .non => some .non
  | .bl b => some (.bl b)
  | .int i => some (.int i)
  | .str x => some (.str x)
  | _ => none
inductive SlV (us ws : List Value) : List Sl → List Value → Prop
  | nil : SlV us ws [] []
  | pos {i : Nat} {u : Value} {r : List Sl} {bs : List Value} : us[i]? = some u → SlV us ws r bs → SlV us ws (.pos i :: r) (u :: bs)
  | kw {i : Nat} {u : Value} {r : List Sl} {bs : List Value} : ws[i]? = some u → SlV us ws r bs → SlV us ws (.kw i :: r) (u :: bs)
  | dft {d : Dat} {v : V} {u : Value} {r : List Sl} {bs : List Value} : cstV d = some v → L2.RelV v u → SlV us ws r bs → SlV us ws (.dft d :: r) (u :: bs)
/-- how a call of n values and the keywords ks binds -/
structure CB (K : PySem.W.Frag) (fd : FuncData) (ps : List Str) (n : Nat) (ks : List Str) (sl : List Sl) : Prop where
  to : ∀ (s : Shared) (us ws : List Value), K.In s.heap → us.length = n → ws.length = ks.length → ∃ bs, BindsTo s fd ⟨us, ks.zip ws⟩ (ps.zip bs) ∧ SlV us ws sl bs
  len : sl.length = ps.length
theorem SlV.len {us ws : List Value} : ∀ {sl : List Sl} {bs : List Value}, SlV us ws sl bs → bs.length = sl.length
  | _, _, .nil => rfl
  | _, _, .pos _ r => congrArg (· + 1) r.len
  | _, _, .kw _ r => congrArg (· + 1) r.len
  | _, _, .dft _ _ r => congrArg (· + 1) r.len
section
variable {W : Wd} {g : Gh}
theorem cst_rel {d : Dat} {v : V} (h : cstV d = some v) : R W g d v := by
  cases d <;> first | cases h | skip
  · exact .non
  · exact .bl _
  · exact .int _
  · exact .str _
theorem getVals {vs : List V} {us : List Value} (r : Vals vs us) {i : Nat} {u : Value} (h : us[i]? = some u) : ∃ v, vs[i]? = some v ∧ L2.RelV v u := by
  induction r generalizing i with
  | nil => simp at h
  | cons rv rr ih =>
    cases i with
    | zero =>
      have h' := Option.some.inj h
      subst h'
      exact ⟨_, rfl, rv⟩
    | succ i =>
      obtain ⟨v, h1, h2⟩ := ih (by simpa using h)
      exact ⟨v, by simpa using h1, h2⟩
theorem SlV.go {ds zs : List Dat} {vs ws : List V} {us wu : List Value} (r : Rs W g ds vs) (r' : Rs W g zs ws) (v : Vals vs us) (v' : Vals ws wu) : ∀ {sl : List Sl} {bs : List Value} {es : List Dat}, SlV us wu sl bs → permD ds zs sl = some es → ∃ xs, Rs W g es xs ∧ Vals xs bs
  | _, _, _, .nil, e => by
    cases e
    exact ⟨[], .nil, .nil⟩
  | _, _, es, .pos (i := i) (r := rest) h t, e => by
    unfold permD Sl.get at e
    cases e1 : ds[i]? with
    | none => simp [e1] at e
    | some d =>
      cases e2 : permD ds zs rest with
      | none => simp [e1, e2] at e
      | some ds' =>
        simp [e1, e2] at e
        subst e
        obtain ⟨xs, k1, k2⟩ := SlV.go r r' v v' t e2
        obtain ⟨z, h1, h2⟩ := getVals v h
        obtain ⟨z', h3, h4⟩ := r.get e1
        rw [h1] at h3
        cases h3
        exact ⟨z :: xs, .cons h4 k1, .cons h2 k2⟩
  | _, _, es, .kw (i := i) (r := rest) h t, e => by
    unfold permD Sl.get at e
    cases e1 : zs[i]? with
    | none => simp [e1] at e
    | some d =>
      cases e2 : permD ds zs rest with
      | none => simp [e1, e2] at e
      | some ds' =>
        simp [e1, e2] at e
        subst e
        obtain ⟨xs, k1, k2⟩ := SlV.go r r' v v' t e2
        obtain ⟨z, h1, h2⟩ := getVals v' h
        obtain ⟨z', h3, h4⟩ := r'.get e1
        rw [h1] at h3
        cases h3
        exact ⟨z :: xs, .cons h4 k1, .cons h2 k2⟩
  | _, _, es, .dft (d := d) (v := x) (r := rest) h hr t, e => by
    unfold permD Sl.get at e
    cases e2 : permD ds zs rest with
    | none => simp [e2] at e
    | some ds' =>
      simp [e2] at e
      subst e
      obtain ⟨xs, k1, k2⟩ := SlV.go r r' v v' t e2
      exact ⟨x :: xs, .cons (cst_rel h) k1, .cons hr k2⟩
end
/-! ### a call, from the caller -/
section
variable {W : Wd} {wx : WX} {g : Gh} {P : Hp} {s : Stt} {σ : L2.St} {H : Hp}
/-- the caller's own objects are protected -/
noncomputable def prtS (P H : Hp) (env : List Slt) (σ : L2.St) : Hp := fun a => open Classical in if ∃ i, OwnAt env i ∧ σ[i]? = some (some (.ref a)) then H a else P a
theorem Rel.callee (r : Rel W g P s σ H) : Rel W g (prtS P H s.env σ) ⟨[], s.sto⟩ [] H := by
  refine ⟨r.fz, fun b o e => ?_, rfl, r.n, r.sto, r.inj, r.stf, fun i d e => by simp at e, fun i o e => by simp at e, fun i j a ⟨o, e⟩ => by simp at e⟩
  unfold prtS at e
  split at e
  · rename_i h
    obtain ⟨i, ⟨o', ho'⟩, hi⟩ := h
    obtain ⟨a, ho, k1, k2, k3, k4, k5, k6⟩ := r.slo i o' ho'
    rw [hi] at k1
    cases k1
    exact ⟨e, k4, k6⟩
  · exact r.pr b o e
theorem Rel.back {g' : Gh} {sto' : List Mob} {H' : Hp} (r : Rel W g P s σ H) (l : g.Le g') (r' : Rel W g' (prtS P H s.env σ) ⟨[], sto'⟩ [] H') : Rel W g' P ⟨s.env, sto'⟩ σ H' := by
  have own : ∀ {i : Nat} {o : Mob}, s.env[i]? = some (.own o) → ∃ a ho, σ[i]? = some (some (.ref a)) ∧ H' a = some ho ∧ RO W g' o ho ∧ g'.F a = none ∧ P a = none ∧ ∀ k, k < g'.n → g'.ρ k ≠ a := fun {i o} e => by
    obtain ⟨a, ho, k1, k2, k3, k4, k5, k6⟩ := r.slo i o e
    have hp : prtS P H s.env σ a = some ho := by
      unfold prtS
      rw [if_pos ⟨i, ⟨o, e⟩, k1⟩]
      exact k2
    obtain ⟨q1, q2, q3⟩ := r'.pr a ho hp
    exact ⟨a, ho, k1, q1, RO.mono l k3, q2, k5, q3⟩
  refine ⟨r'.fz, fun b o e => ?_, r.len, r'.n, r'.sto, r'.inj, r'.stf, fun i d e => ?_, fun i o e => own e, r.sld⟩
  · have hp : prtS P H s.env σ b = some o := by
      unfold prtS
      split
      · exact (r.pr b o e).1
      · exact e
    exact r'.pr b o hp
  · obtain ⟨v, k1, k2⟩ := r.slv i d e
    exact ⟨v, k1, R.mono l k2⟩
theorem RvR.back {g' : Gh} {sto' : List Mob} {H' : Hp} {x : Rv} {v : V} (r : Rel W g P s σ H) (q : RvR W g' (prtS P H s.env σ) ⟨[], sto'⟩ [] H' x v) : RvR W g' P ⟨s.env, sto'⟩ σ H' x v := by
  cases x with
  | val d => exact q
  | bor i =>
    have q' : ([] : L2.St)[i]? = some (some v) := q
    simp at q'
  | own o =>
    obtain ⟨a, ho, rfl, k1, k2, k3, k4, k5, k6⟩ := q
    unfold prtS at k4
    split at k4
    · rename_i h
      obtain ⟨i, ⟨o', ho'⟩, hi⟩ := h
      obtain ⟨b, hb, q1, q2, _⟩ := r.slo i o' ho'
      rw [hi] at q1
      cases q1
      rw [q2] at k4
      cases k4
    · rename_i h
      exact ⟨a, ho, rfl, k1, k2, k3, k4, k5, fun i hi z => h ⟨i, hi, z⟩⟩
end
def PostC (W : Wd) (g : Gh) (P : Hp) (c : Cou) (Q : VK) (E : XK) : Prop := match c with
  | .ok r sto => ∀ g' H' v, g.Le g' → Rel W g' P ⟨[], sto⟩ [] H' → RvR W g' P ⟨[], sto⟩ [] H' r v → Q v H'
  | .exc x sto => ∀ g' H' cls d, g.Le g' → Rel W g' P ⟨[], sto⟩ [] H' → XR W g' x cls d → E cls d H'
  | .stuck => False
/-- what a def of ours promises -/
def spF (W : Wd) (np : Nat) (call : List Dat → List Mob → Cou) : Sp := fun vs H Q E => ∃ g P sto ds, Rel W g P ⟨[], sto⟩ [] H ∧ Rs W g ds vs ∧ ds.length = np ∧ PostC W g P (call ds sto) Q E
structure RoomG (k : Nat) (A : Around) : Prop where
  room : Room k A
  gd : A.guards = some []
theorem RoomG.mono {j k : Nat} {A : Around} (r : RoomG k A) (h : j ≤ k) : RoomG j A := ⟨r.room.mono h, r.gd⟩
theorem RoomG.deeper {k : Nat} {A : Around} (r : RoomG (k + 1) A) (env : Env) : RoomG k (A.deeper env) := ⟨r.room.deeper env, r.gd⟩
theorem RoomG.make {k : Nat} {A : Around} (r : RoomG (k + 1) A) (C : Addr) (us : List Value) (kw : List (Str × Value)) : RoomG k (A.under (.builtin "type.__call__" ⟨.ref C :: us, kw⟩)) :=
  ⟨r.room.make C us kw, by first | exact r.gd | (simpa [Around.under, Code.isGuard, guardIds] using r.gd)⟩
structure FnG (P : Program) (w : World) (K : PySem.W.Frag) (mg : Str → Option Value) (base : Heap) (k : Nat) (f : Addr) (fd : FuncData) (ps : List Str) (sp : Sp) : Prop where
  len : ∀ vs H Q E, sp vs H Q E → vs.length = ps.length
  run : ∀ (A : Around) (outer : List Env) (s : Shared) (H : Hp) (args : Args) (us : List Value) (vs : List V) (Q : VK) (E : XK), RoomG k A → Env0 P w K mg base A outer s H → BindsTo s fd args (ps.zip us) → Vals vs us → sp vs H Q E →
    codeAny (model P w) A (.call (.ref f) args) (CR (CX P w) outer P w H s Q E) s
theorem FnG.mono {P : Program} {w : World} {K : PySem.W.Frag} {mg : Str → Option Value} {base : Heap} {j k : Nat} {f : Addr} {fd : FuncData} {ps : List Str} {sp : Sp} (F : FnG P w K mg base j f fd ps sp) (h : j ≤ k) :
    FnG P w K mg base k f fd ps sp := ⟨F.len, fun A outer s H args us vs Q E hr => F.run A outer s H args us vs Q E (hr.mono h)⟩
section
variable {W : Wd} {wx : WX} {X : Cx} {k : Nat} {f : Addr} {fd : FuncData} {ps ks : List Str} {sp : Sp}
theorem run_fnG {pins : List (Addr × Obj)} {σ : L2.St} {H : Hp} {s : Shared} {Q : VK} {args : Args} {us : List Value} {vs : List V} (F : FnG X.prog X.w X.K X.mg X.base k f fd ps sp) (hr : RoomG k X.A) (tk : Takes X wx)
    (I : L2.Inv X pins σ H s) (hb : BindsTo s fd args (ps.zip us)) (r : Vals vs us) (h : sp vs H Q fun cls d H' => wx cls d σ H') : wpAny (model X.prog X.w) X.A (call (.ref f) args.pos args.kw) (EP X pins σ Q) X.xe s := by
  refine wpAny_call (codeAny_mono (F.run X.A X.stack s H args us vs Q _ hr I.env0 hb r h) fun r s' hq => ?_)
  cases r with
  | error e => exact tk e s' (XE.of_call I (fun _ _ _ h => h) hq)
  | ok fl =>
    cases fl with
    | ret u => exact I.after hq
    | next => exact False.elim hq
    | brk => exact False.elim hq
    | cont => exact False.elim hq
/-- a call's action: the answer, with the new store -/
def couA (c : List Dat → List Mob → Cou) (ds : List Dat) : Ac Rv := fun s => match c ds s.sto with
  | .ok r sto => .ok r { s with sto := sto }
  | .exc x sto => .exc x { s with sto := sto }
  | .stuck => .stuck
theorem couA_ok {g : Gh} {P : Hp} {s : Stt} {σ : L2.St} {H : Hp} {np : Nat} {c : List Dat → List Mob → Cou} {ds : List Dat} {vs : List V} {Q : VK} (r : Rel W g P s σ H) (q : Rs W g ds vs) (hl : ds.length = np) (h : Post W wx g P σ (couA c ds s) fun x s' g' H' => ∀ v, RvR W g' P s' σ H' x v → Q v H') : spF W np c vs H Q fun cls d H' => wx cls d σ H' := by
  refine ⟨g, _, s.sto, ds, r.callee, q, hl, ?_⟩
  unfold couA at h
  cases e : c ds s.sto with
  | ok x sto =>
    rw [e] at h
    exact fun g' H' v l r' q' => h g' H' l (r.back l r') v (q'.back r)
  | exc x sto =>
    rw [e] at h
    exact fun g' H' cls d l r' q' => h g' H' cls d l (r.back l r') q'
  | stuck =>
    rw [e] at h
    exact h
/-- the arguments: what stands ahead, positional values, keywords' values -/
def argA (pre : Nat → List Dat) (ms mk : Ac (List Dat)) (n m : Nat) (sl : List Sl) (k : List Dat → Ac Rv) : Ac Rv := ms.bind fun ds => mk.bind fun zs => fun s => if ds.length = n ∧ zs.length = m then (match permD (pre s.sto.length ++ ds) zs sl with
  | some xs => k xs s
  | none => .stuck) else .stuck
abbrev SK (W : Wd) (wx : WX) (X : Cx) (m : Ac (List Dat)) (kws : List Keyword) : Prop := PK X kws (tX W wx dsK m)
theorem sk_nil : SK W wx X (Ac.ret []) [] := ⟨fun pos pins s σ H Q I h => pk_nil.run pos pins s σ H Q I (by
  obtain ⟨g, P, st, r, q⟩ := h
  exact q g H (.refl g) r [] .nil)⟩
theorem sk_cons {e : Expr} {kws : List Keyword} {nm : Option Str} {kpos : Pos} {m : Ac Dat} {ms : Ac (List Dat)} (p : SD W wx X m e) (ps : SK W wx X ms kws) : SK W wx X (m.bind fun b => ms.bind fun bs => Ac.ret (b :: bs)) (⟨nm, e, kpos⟩ :: kws) := ⟨fun pos pins s σ H Q I h => (pk_cons p ps).run pos pins s σ H Q I (by
  obtain ⟨g, P, s, r, q⟩ := h
  refine ⟨g, P, s, r, (Post.bindE q).mono fun x s1 g1 H1 l1 r1 q1 v hv => ?_⟩
  refine ⟨g1, P, s1, r1, (Post.bindE q1).mono fun xs s2 g2 H2 l2 r2 q2 vs hvs => ?_⟩
  exact q2 g2 H2 (.refl g2) r2 _ (.cons (R.mono l2 hv) hvs))⟩
/-- what is wanted behind the arguments -/
def wArg (W : Wd) (wx : WX) (g0 : Gh) (P : Hp) (pre : Nat → List Dat) (n m : Nat) (sl : List Sl) (k : List Dat → Ac Rv) (σ : L2.St) (Q : VK) (vs zs : List V) (H : Hp) : Prop :=
  ∃ g s ds es xs, g0.Le g ∧ Rel W g P s σ H ∧ Rs W g ds vs ∧ Rs W g es zs ∧ ds.length = n ∧ es.length = m ∧ permD (pre s.sto.length ++ ds) es sl = some xs ∧ Post W wx g P σ (k xs s) fun x s' g' H' => ∀ v, RvR W g' P s' σ H' x v → Q v H'
theorem arg_imp {g : Gh} {P : Hp} {s : Stt} {pre : Nat → List Dat} {ms mk : Ac (List Dat)} {n m : Nat} {sl : List Sl} {k : List Dat → Ac Rv} {σ : L2.St} {H : Hp} {Q : VK} (r : Rel W g P s σ H) (q : Post W wx g P σ (argA pre ms mk n m sl k s) fun x s' g' H' => ∀ v, RvR W g' P s' σ H' x v → Q v H') :
    tX W wx dsK ms σ H fun vs H1 => tX W wx dsK mk σ H1 fun zs H2 => wArg W wx g P pre n m sl k σ Q vs zs H2 := by
  refine ⟨g, P, s, r, (Post.bindE q).mono fun ds s1 g1 H1 l1 r1 q1 vs hv => ?_⟩
  refine ⟨g1, P, s1, r1, (Post.bindE q1).mono fun es s2 g2 H2 l2 r2 q2 zs hz => ?_⟩
  by_cases hc : ds.length = n ∧ es.length = m
  · simp only [hc, and_self, if_true] at q2
    cases e : permD (pre s2.sto.length ++ ds) es sl with
    | none =>
      simp only [e] at q2
      exact q2.elim
    | some xs =>
      simp only [e] at q2
      exact ⟨g2, s2, ds, es, xs, l1.trans l2, r2, Rs.mono l2 hv, hz, hc.1, hc.2, e, q2⟩
  · simp only [hc, if_false] at q2
    exact q2.elim
/-- the arguments are walked, then the call -/
theorem callG {pins : List (Addr × Obj)} {s : Shared} {g : Gh} {P : Hp} {st : Stt} {pre : Nat → List Dat} {σ : L2.St} {H : Hp} {Q : VK} {es : List Expr} {kws : List Keyword} {ms mk : Ac (List Dat)} {n m : Nat} {sl : List Sl} {kk : List Dat → Ac Rv} {pos : Pos} {fv : Value} {first : List Value} {QQ : Value → Shared → Prop} (hk : PySem.W.keepIn X.K fv = true)
    (pa : SA W wx X ms es) (pk : SK W wx X mk kws) (I : L2.Inv X pins σ H s) (r : Rel W g P st σ H) (q : Post W wx g P σ (argA pre ms mk n m sl kk st) fun x s' g' H' => ∀ v, RvR W g' P s' σ H' x v → Q v H')
    (hall : (backToKw pos (keywordEach kws X.env)).all (·.1.isSome) = true) (hks : (backToKw pos (keywordEach kws X.env)).filterMap (·.1) = ks)
    (hn : es = [] → ms = Ac.ret [])
    (he : ∀ e es', es = e :: es' → starEach (e :: es') X.env = (false, eval e X.env) :: starEach es' X.env)
    (hpl : ((backTo pos (starEach es X.env)).any (·.1) || (backToKw pos (keywordEach kws X.env)).any (·.1.isNone)) = false)
    (run : ∀ us ws s2 vs zs H2, L2.Inv X pins σ H2 s2 → Vals vs us → Vals zs ws → wArg W wx g P pre n m sl kk σ Q vs zs H2 → wpAny (model X.prog X.w) X.A (call fv (first ++ us) (ks.zip ws)) QQ X.xe s2) :
    wpAny (model X.prog X.w) X.A (callWith pos fv first (backTo pos (starEach es X.env)) (backToKw pos (keywordEach kws X.env))) QQ X.xe s := by
  have h2 := arg_imp r q
  cases es with
  | nil =>
    refine PySem.W.callWith_KW0 (h₀ := X.base) I.ok.mod.kin hk hall ?_ hpl
    have h3 : tX W wx dsK mk σ H fun zs H2 => wArg W wx g P pre n m sl kk σ Q [] zs H2 := by
      obtain ⟨g, P, st, r, q⟩ := h2
      rw [hn rfl] at q
      exact q g H (.refl g) r [] .nil
    refine thn (pk.run pos pins s σ H _ I h3) fun ws s2 ⟨zs, H2, I2, rz, q2⟩ => ⟨I2.kIn, ?_⟩
    rw [hks]
    exact run [] ws s2 [] zs H2 I2 .nil rz q2
  | cons e es' =>
    refine PySem.W.callWith_KW (h₀ := X.base) I.ok.mod.kin hk hall (thn (pa.run pos pins s σ H _ I h2) fun us s1 ⟨vs, H1, I1, r, q⟩ => ?_) hpl (he e es' rfl)
    refine thn (pk.run pos pins s1 σ H1 _ I1 q) fun ws s2 ⟨zs, H2, I2, rz, q2⟩ => ⟨I2.kIn, ?_⟩
    rw [hks]
    exact run us ws s2 vs zs H2 I2 r rz q2
/-- f(..) of a global name -/
theorem se_call {np n : Nat} {c : List Dat → List Mob → Cou} {x : Str} {p pos : Pos} {es : List Expr} {kws : List Keyword} {ms mk : Ac (List Dat)} {sl : List Sl} (F : FnG X.prog X.w X.K X.mg X.base k f fd ps (spF W np c)) (hnp : np = ps.length) (hr : RoomG k X.A) (tk : Takes X wx) (hg : Gl X x) (hm : X.mg x = some (.ref f)) (hk : PySem.W.keepIn X.K (.ref f) = true) (cb : CB X.K fd ps n ks sl)
    (pa : SA W wx X ms es) (pk : SK W wx X mk kws) (hdb : (x == ("__debug__" : Str)) = false)
    (hall : (backToKw pos (keywordEach kws X.env)).all (·.1.isSome) = true) (hks : (backToKw pos (keywordEach kws X.env)).filterMap (·.1) = ks)
    (hn : es = [] → ms = Ac.ret [])
    (he : ∀ e es', es = e :: es' → starEach (e :: es') X.env = (false, eval e X.env) :: starEach es' X.env)
    (hpl : ((backTo pos (starEach es X.env)).any (·.1) || (backToKw pos (keywordEach kws X.env)).any (·.1.isNone)) = false) :
    SE W wx X (argA (fun _ => []) ms mk n ks.length sl (couA c)) (.Call (.Name x p) es kws pos) := ⟨fun pins s σ H Q I h => by
  obtain ⟨g, P, st, r, q⟩ := h
  refine wpAny_Call_Name_kw (ld_glob I hg hm ?_ hdb)
  refine callG hk pa pk I r q hall hks hn he hpl fun us ws s2 vs zs H2 I2 rv rz ⟨g2, st2, ds, es2, xs, l2, r2, rd, re, l1, l3, e, p2⟩ => ?_
  obtain ⟨bs, hb, hs⟩ := cb.to s2 us ws I2.kIn (by rw [← rv.length, ← rd.length]; exact l1) (by rw [← rz.length, ← re.length]; exact l3)
  obtain ⟨zv, k1, k2⟩ := hs.go rd re rv rz e
  have hl : xs.length = np := by rw [k1.length, k2.length, hs.len, cb.len, hnp]
  exact run_fnG (args := ⟨us, ks.zip ws⟩) F hr tk I2 hb k2 (couA_ok r2 k1 hl p2)⟩
end
end En
set_option maxHeartbeats 4000000
/-! En15: own methods, properties, new instances; a def by its body. -/
namespace En
open PySem PySem.Spec PyProof.Rows L2
def Vw.inst : Vw → Option (Nat × List (Str × Dat))
  | .dt (.obj c fs) => some (c, fs)
  | .mb (.ins c fs) => some (c, fs)
  | _ => none
section
variable {W : Wd} {wx : WX} {g : Gh} {P : Hp} {s : Stt} {σ : L2.St} {H : Hp}
theorem VwR.inst {w : Vw} {v : V} {c : Nat} {fs : List (Str × Dat)} (r : Rel W g P s σ H) (q : VwR W g H w v) (e : w.inst = some (c, fs)) : ∃ a dx fv, v = .ref a ∧ H a = some (.ins (W.ca c) dx fv) ∧ Rf W g fs fv := by
  cases w with
  | dt d =>
    cases d <;> first | cases e | skip
    cases q with
    | obj h1 h2 => exact ⟨_, _, _, rfl, r.fz _ _ h1, h2⟩
  | mb o =>
    cases o <;> first | cases e | skip
    obtain ⟨a, ho, rfl, h1, h2⟩ := q
    cases ho <;> first | exact False.elim h2 | skip
    obtain ⟨rfl, h3⟩ := h2
    exact ⟨a, _, _, rfl, h1, h3⟩
theorem Post.noX {α : Type} {wx' : WX} {m : Ac α} {K : α → Stt → Gh → Hp → Prop} (h : Post W wx g P σ (noX m s) K) : Post W wx' g P σ (m s) K := by
  unfold En.noX at h
  cases e : m s with
  | ok a s' =>
    rw [e] at h
    exact h
  | exc x s' =>
    rw [e] at h
    exact h.elim
  | stuck =>
    rw [e] at h
    exact h.elim
end
/-! ### attributes -/
/-- which attributes a class's instances have themselves -/
def FldOk (W : Wd) (flds : Nat → Str → Bool) : Prop := ∀ c f, flds c f = true → Cls W.K (W.ca c) ∧ NoAttr W.K (W.ca c) f
def fldK (flds : Nat → Str → Bool) (w : Vw) (f : Str) : Option Rv := w.inst.bind fun p => if flds p.1 f then (p.2.lookup f).map .val else none
section
variable {W : Wd} {wx : WX} {X : Cx} {flds : Nat → Str → Bool}
theorem se_att {e : Expr} {f : Str} {m : Ac Rv} {pos : Pos} (hK : X.K = W.K) (ok : FldOk W flds) (h : SE W wx X m e) (hb : attributeBase e f X.env (eval e X.env) = eval e X.env) : SE W wx X (m.bind fun x => (lookA x).bind fun w => Ac.opt (fldK flds w f)) (.Attribute e f pos) :=
  peImp (pe_fld h hb) fun σ H Q hh => by
    obtain ⟨g, P, s, r, q⟩ := hh
    refine ⟨g, P, s, r, (Post.bindE q).mono fun x s1 g1 H1 l1 r1 q1 v hv => ?_⟩
    obtain ⟨w, e1, q2⟩ := Post.lookE q1
    obtain ⟨y, e2, q3⟩ := Post.optE q2
    unfold fldK at e2
    obtain ⟨⟨c, fs⟩, e3, e4⟩ := Option.bind_eq_some_iff.mp e2
    split at e4
    · rename_i hf
      obtain ⟨d, e5, rfl⟩ := Option.map_eq_some_iff.mp e4
      obtain ⟨a, dx, fv, rfl, k1, k2⟩ := (look_ok r1 hv e1).inst r1 e3
      obtain ⟨u, u1, u2⟩ := k2.lookup e5
      obtain ⟨c1, c2⟩ := ok c f hf
      rw [hK]
      exact ⟨a, _, dx, fv, u, rfl, k1, c1, c2, u1, q3 g1 H1 (.refl g1) r1 u u2⟩
    · cases e4
/-- o.f = e, of an object of the store -/
def atsA (flds : Nat → Str → Bool) (f : Str) (d : Dat) (o : Rv) : Ac Flw := (lookA o).bind fun w => match w with
  | .mb (.ins c fs) => if flds c f && decide (fs.length < 1000) then (setMob o (.ins c (putFd f d fs))).bind fun _ => nxA else Ac.stk
  | _ => Ac.stk
theorem atsA_ok {g : Gh} {P : Hp} {s : Stt} {σ : L2.St} {H : Hp} {f : Str} {d : Dat} {v ov : V} {o : Rv} {D : Ends} (ok : FldOk W flds) (r : Rel W g P s σ H) (qo : RvR W g P s σ H o ov) (qd : R W g d v) (h : PostS W wx g P (atsA flds f d o s) D) :
    ∃ a C dx fs, ov = .ref a ∧ H a = some (.ins C dx fs) ∧ Cls W.K C ∧ NoAttr W.K C f ∧ fs.length < 1000 ∧ D.nx σ (upd H a (.ins C dx (putF f v fs))) := by
  unfold atsA Ac.bind lookA at h
  cases e : look s o with
  | none =>
    simp only [e] at h
    exact h.elim
  | some w =>
    simp only [e, Out.bind] at h
    cases w with
    | dt _ => exact h.elim
    | mb m =>
      cases m with
      | lst _ => exact h.elim
      | dct _ => exact h.elim
      | ins c fs =>
        have h : PostS W wx g P ((if flds c f && decide (fs.length < 1000) then (setMob o (.ins c (putFd f d fs))).bind fun _ => nxA else Ac.stk) s) D := h
        by_cases hc : (flds c f && decide (fs.length < 1000)) = true
        · rw [if_pos hc] at h
          simp only [Bool.and_eq_true, decide_eq_true_eq] at hc
          obtain ⟨c1, c2⟩ := ok c f hc.1
          rcases setMob_ok (o' := .ins c (putFd f d fs)) r qo e with ⟨s', e3, a, ho, rfl, k2, k3, k4⟩ | e3
          · unfold Ac.bind at h
            rw [e3] at h
            cases ho <;> first | exact False.elim k3 | skip
            obtain ⟨rfl, k5⟩ := k3
            refine ⟨a, _, _, _, rfl, k2, c1, c2, by rw [← k5.length]; exact hc.2, ?_⟩
            exact h g σ _ (.refl g) (k4 (.ins _ _ _) ⟨rfl, k5.put qd⟩)
          · unfold Ac.bind at h
            rw [e3] at h
            exact h.elim
        · rw [if_neg hc] at h
          exact h.elim
theorem PostS.toValE {g : Gh} {P : Hp} {s : Stt} {σ : L2.St} {H : Hp} {x : Rv} {v : V} {f : Dat → Ac Flw} {D : Ends} (r : Rel W g P s σ H) (q : RvR W g P s σ H x v) (h : PostS W wx g P ((toVal x).bind f s) D) : ∃ d s' g', g.Le g' ∧ Rel W g' P s' σ H ∧ R W g' d v ∧ PostS W wx g' P (f d s') D := by
  have h2 := PostS.bindE (σ := σ) h
  cases e : toVal x s with
  | ok d s' =>
    rw [e] at h2
    obtain ⟨g', l, r', q'⟩ := toVal_ok r q e
    exact ⟨d, s', g', l, r', q', h2 g' H l r'⟩
  | exc y s' => exact absurd e toVal_ne
  | stuck =>
    rw [e] at h2
    exact h2.elim
theorem ss_att {o e : Expr} {f : Str} {mo m : Ac Rv} {pos' pos : Pos} (hK : X.K = W.K) (ok : FldOk W flds) (po : SE W wx X mo o) (pe : SE W wx X m e) (hs : swapsWith e (some (.Attribute o f pos')) pos.line X.env = pure false) :
    SS W wx X (m.bind fun x => (toVal x).bind fun d => mo.bind fun o => atsA flds f d o) (.Assign [.Attribute o f pos'] e pos) := psImp (ps_fld po pe hs) fun D σ H hh => by
  obtain ⟨g, P, s, r, q⟩ := hh
  refine ⟨g, P, s, r, (PostS.bindE q).mono fun x s1 g1 H1 l1 r1 q1 v hv => ?_⟩
  obtain ⟨d, s2, g2, l2, r2, rd, q2⟩ := PostS.toValE r1 hv q1
  refine ⟨g2, P, s2, r2, (PostS.bindE q2).mono fun y s3 g3 H3 l3 r3 q3 u hu => ?_⟩
  rw [hK]
  exact atsA_ok ok r3 hu (R.mono l3 rd) q3
end
/-! ### own methods -/
section
variable {W : Wd} {wx : WX} {X : Cx} {k n : Nat} {ks : List Str}
abbrev Disp := Nat → Option (List Sl × (List Dat → List Mob → Cou))
/-- what a table of methods must have behind it -/
def DispOk (W : Wd) (X : Cx) (k n : Nat) (ks : List Str) (m : Str) (disp : Disp) : Prop := ∀ c sl call, disp c = some (sl, call) → ∃ f fd ps np, Cls X.K (W.ca c) ∧ Meth X.K (W.ca c) m f ∧ FnG X.prog X.w X.K X.mg X.base k f fd ps (spF W np call) ∧ np = ps.length ∧ CB X.K fd ps (n + 1) ks sl
def mtdA (mx : Ac Rv) (ms mk : Ac (List Dat)) (n j : Nat) (m : Str) (disp : Disp) : Ac Rv := mx.bind fun x => match x with
  | .val d => (lookA (.val d)).bind fun w => match w.inst with
    | some (c, fs) => (match disp c with
      | some (sl, call) => if (fs.lookup m).isNone then argA (fun _ => [d]) ms mk n j sl (couA call) else Ac.stk
      | none => Ac.stk)
    | none => Ac.stk
  | _ => Ac.stk
theorem se_mtd {m : Str} {apos pos : Pos} {o : Expr} {es : List Expr} {kws : List Keyword} {mx : Ac Rv} {ms mk : Ac (List Dat)} {disp : Disp} {pl : Sem Bool} (ok : DispOk W X k n ks m disp) (hr : RoomG k X.A) (tk : Takes X wx) (po : SE W wx X mx o)
    (pa : SA W wx X ms es) (pk : SK W wx X mk kws)
    (hall : (backToKw pos (keywordEach kws X.env)).all (·.1.isSome) = true) (hks : (backToKw pos (keywordEach kws X.env)).filterMap (·.1) = ks)
    (hn : es = [] → ms = Ac.ret [])
    (he : ∀ e es', es = e :: es' → starEach (e :: es') X.env = (false, eval e X.env) :: starEach es' X.env)
    (hpl : ((backTo pos (starEach es X.env)).any (·.1) || (backToKw pos (keywordEach kws X.env)).any (·.1.isNone)) = false)
    (ht : eval (.Call (.Attribute o m apos) es kws pos) X.env = (do
      let ov ← eval o X.env
      standAt apos.atName
      let (f, first) ← holding [ov] (getMethod ov m pl)
      callWith pos f first (backTo pos (starEach es X.env)) (backToKw pos (keywordEach kws X.env)))) :
    SE W wx X (mtdA mx ms mk n ks.length m disp) (.Call (.Attribute o m apos) es kws pos) := ⟨fun pins s σ H Q I h => by
  obtain ⟨g, P, st, r, q⟩ := h
  refine PySem.W.methodCall_KW (pl := pl) (thn (po.run pins s σ H (fun v H1 => ∃ g1 s1 d c sl call fs w, Rel W g1 P s1 σ H1 ∧ R W g1 d v ∧ Vw.of s1 d = some w ∧ w.inst = some (c, fs) ∧ disp c = some (sl, call) ∧ fs.lookup m = none ∧
    Post W wx g1 P σ (argA (fun _ => [d]) ms mk n ks.length sl (couA call) s1) fun x s' g' H' => ∀ v, RvR W g' P s' σ H' x v → Q v H') I ⟨g, P, st, r, (Post.bindE q).mono fun x s1 g1 H1 l1 r1 q1 v hv => ?_⟩) fun u s1 ⟨v, H1, I1, rv, g1, st1, d, c, sl, call, fs, w, r1, rd, e1, e2, e3, e4, q1⟩ => ?_) ht
  · cases x with
    | own _ => exact q1.elim
    | bor _ => exact q1.elim
    | val d =>
      obtain ⟨w, e1, q2⟩ := Post.lookE q1
      cases e2 : w.inst with
      | none =>
        rw [e2] at q2
        exact q2.elim
      | some p =>
        obtain ⟨c, fs⟩ := p
        simp only [e2] at q2
        cases e3 : disp c with
        | none =>
          simp only [e3] at q2
          exact q2.elim
        | some p =>
          obtain ⟨sl, call⟩ := p
          simp only [e3] at q2
          by_cases hl : (fs.lookup m).isNone = true
          · rw [if_pos hl] at q2
            exact ⟨g1, s1, d, c, sl, call, fs, w, r1, hv, e1, e2, e3, Option.isNone_iff_eq_none.mp hl, q2⟩
          · rw [if_neg hl] at q2
            exact q2.elim
  · obtain ⟨f, fd, ps, np, hc, hm, F, hnp, cb⟩ := ok c sl call e3
    obtain ⟨a, dx, fv, rfl, k1, k2⟩ := (Vw.of_ok r1 rd e1).inst r1 e2
    obtain rfl : u = Value.ref a := rv
    refine getmeth_ok I1 k1 hc hm (k2.none e4) ?_
    refine callG (first := [.ref a]) hm.kp pa pk I1 r1 q1 hall hks hn he hpl fun us ws s2 vs zs H2 I2 rv rz ⟨g2, st2, ds, es2, xs, l2, r2, rds, re, l1, l3, e, p2⟩ => ?_
    have rv' : Vals (V.ref a :: vs) (Value.ref a :: us) := .cons rfl rv
    have rds' : Rs W g2 ([d] ++ ds) (V.ref a :: vs) := .cons (R.mono l2 rd) rds
    obtain ⟨bs, hb, hs⟩ := cb.to s2 (.ref a :: us) ws I2.kIn (by rw [← rv'.length, ← rds'.length]; simp [l1]) (by rw [← rz.length, ← re.length]; exact l3)
    obtain ⟨zv, k3, k4⟩ := hs.go rds' re rv' rz e
    have hl : xs.length = np := by rw [k3.length, k4.length, hs.len, cb.len, hnp]
    exact run_fnG (args := ⟨.ref a :: us, ks.zip ws⟩) F hr tk I2 hb k4 (couA_ok r2 k3 hl p2)⟩
/-! ### properties -/
def PropOk (W : Wd) (X : Cx) (k : Nat) (f : Str) (disp : Nat → Option (List Dat → List Mob → Cou)) : Prop := ∀ c call, disp c = some call → ∃ p gA fd ps, Cls X.K (W.ca c) ∧ PropOf X.K (W.ca c) f p gA ∧ FnG X.prog X.w X.K X.mg X.base k gA fd ps (spF W 1 call) ∧ ps.length = 1 ∧ ∀ (s : Shared) (u : Value), X.K.In s.heap → BindsTo s fd ⟨[u], []⟩ (ps.zip [u])
def prpA (mx : Ac Rv) (disp : Nat → Option (List Dat → List Mob → Cou)) : Ac Rv := mx.bind fun x => match x with
  | .val d => (lookA (.val d)).bind fun w => match w.inst with
    | some (c, fs) => (match disp c with
      | some call => noX (couA call [d])
      | none => Ac.stk)
    | none => Ac.stk
  | _ => Ac.stk
theorem getpropG {pins : List (Addr × Obj)} {σ : L2.St} {H : Hp} {s : Shared} {Q : VK} {b : Bool} {E' : Value → Shared → Prop} {C p gA a dx : Addr} {fs : List (Str × V)} {f : Str} {fd : FuncData} {ps : List Str} {sp : Sp} (I : L2.Inv X pins σ H s) (ea : H a = some (.ins C dx fs)) (c : Cls X.K C) (hp : PropOf X.K C f p gA)
    (F : FnG X.prog X.w X.K X.mg X.base k gA fd ps sp) (hr : RoomG (k + 1) X.A) (hb : BindsTo { s with toks := s.toks + 1 } fd ⟨[.ref a], []⟩ (ps.zip [.ref a])) (h : sp [.ref a] H Q fun _ _ _ => False) :
    wpAny (model X.prog X.w) X.A (getAttr (.ref a) f b) (EP X pins σ Q) E' s := by
  obtain ⟨mA, O, _, _, _, _⟩ := ins_get I.hok ea
  obtain ⟨od, J, _⟩ := O.look
  obtain ⟨rest, hrec⟩ := hp.rec_
  have I1 := I.tok (s.toks + 1)
  have hc : (PySem.W.clsIn X.K C).isSome = true := by
    obtain ⟨cd, hc, _⟩ := PySem.W.any_some c.hd
    rw [hc]
    rfl
  have hri : RoomG k X.A.in1 := ⟨hr.room.in1, hr.gd⟩
  refine PySem.W.get_bind I.kIn J (PySem.W.plainGet_of (c.get f)).1 (PySem.W.findObj_data hc hp.at_ hp.get hp.tak) (PySem.W.plainGet_of (c.get f)).2 (wpAny_call (PySem.W.prop_get (s := { s with toks := s.toks + 1 }) I.kIn hrec ?_))
  refine codeAny_mono (F.run X.A.in1 X.stack { s with toks := s.toks + 1 } H ⟨[.ref a], []⟩ [.ref a] [.ref a] Q _ hri I1.env0.in1 hb (.cons rfl .nil) h) fun r s' hq => ?_
  cases r with
  | error er =>
    obtain ⟨_, _, _, _, _, _, _, _, _, _, _, _, w⟩ := hq
    exact w.elim
  | ok fl =>
    cases fl with
    | ret u =>
      obtain ⟨v, H', I3, rv, q3⟩ := I1.after hq
      show wpAny _ _ (handedOut u) _ _ _
      rw [PySem.W.handedOut_of (handed_of rv)]
      exact wpAny_pure ⟨v, H', I3, rv, q3⟩
    | next => exact False.elim hq
    | brk => exact False.elim hq
    | cont => exact False.elim hq
theorem se_prop {e : Expr} {f : Str} {pos : Pos} {mx : Ac Rv} {disp : Nat → Option (List Dat → List Mob → Cou)} (ok : PropOk W X k f disp) (hr : RoomG (k + 1) X.A) (po : SE W wx X mx e) (hab : attributeBase e f X.env (eval e X.env) = eval e X.env) : SE W wx X (prpA mx disp) (.Attribute e f pos) := ⟨fun pins s σ H Q I h => by
  obtain ⟨g, P, st, r, q⟩ := h
  refine attr_of hab (thn (po.run pins s σ H (fun v H1 => ∃ g1 s1 d c call fs w, Rel W g1 P s1 σ H1 ∧ R W g1 d v ∧ Vw.of s1 d = some w ∧ w.inst = some (c, fs) ∧ disp c = some call ∧
    Post W wx0 g1 P σ (couA call [d] s1) fun x s' g' H' => ∀ v, RvR W g' P s' σ H' x v → Q v H') I ⟨g, P, st, r, (Post.bindE q).mono fun x s1 g1 H1 l1 r1 q1 v hv => ?_⟩) fun u s1 ⟨v, H1, I1, rv, g1, st1, d, c, call, fs, w, r1, rd, e1, e2, e3, q1⟩ => ?_)
  · cases x with
    | own _ => exact q1.elim
    | bor _ => exact q1.elim
    | val d =>
      obtain ⟨w, e1, q2⟩ := Post.lookE q1
      cases e2 : w.inst with
      | none =>
        rw [e2] at q2
        exact q2.elim
      | some p =>
        obtain ⟨c, fs⟩ := p
        simp only [e2] at q2
        cases e3 : disp c with
        | none =>
          simp only [e3] at q2
          exact q2.elim
        | some call =>
          simp only [e3] at q2
          exact ⟨g1, s1, d, c, call, fs, w, r1, hv, e1, e2, e3, Post.noX q2⟩
  · obtain ⟨p, gA, fd, ps, hc, hp, F, hl, hb⟩ := ok c call e3
    obtain ⟨a, dx, fv, rfl, k1, k2⟩ := (Vw.of_ok r1 rd e1).inst r1 e2
    obtain rfl : u = Value.ref a := rv
    exact getpropG I1 k1 hc hp F hr (hb _ _ I1.kIn) (couA_ok r1 (.cons rd .nil) rfl q1)⟩
end
/-! ### a def by its body -/
def outC : Out Flw → Cou
  | .ok (.rt (.val d)) s => .ok (.val d) s.sto
  | .ok (.rt (.own o)) s => .ok (.own o) s.sto
  | .ok .nx s => .ok (.val .non) s.sto
  | .exc x s => .exc x s.sto
  | _ => .stuck
def bodyC (m : Ac Flw) (N : Nat) (ds : List Dat) (sto : List Mob) : Cou := outC (m ⟨ds.map .val ++ List.replicate (N - ds.length) .no, sto⟩)
section
variable {W : Wd}
theorem Rel.drop {g : Gh} {P : Hp} {s : Stt} {σ : L2.St} {H : Hp} (r : Rel W g P s σ H) : Rel W g P ⟨[], s.sto⟩ [] H :=
  ⟨r.fz, r.pr, rfl, r.n, r.sto, r.inj, r.stf, fun i d e => by simp at e, fun i o e => by simp at e, fun i j a ⟨o, e⟩ => by simp at e⟩
theorem Rel.enter {g : Gh} {P : Hp} {sto : List Mob} {H : Hp} {ds : List Dat} {vs : List V} {N : List Str} (r : Rel W g P ⟨[], sto⟩ [] H) (q : Rs W g ds vs) : Rel W g P ⟨ds.map .val ++ List.replicate (N.length - ds.length) .no, sto⟩ (L2.start N vs) H := by
  have val : ∀ {i : Nat} {x : Slt}, (ds.map Slt.val ++ List.replicate (N.length - ds.length) Slt.no)[i]? = some x → x ≠ .no → ∃ d, x = .val d ∧ ds[i]? = some d := fun {i x} e hx => by
    by_cases hi : i < (ds.map Slt.val).length
    · rw [List.getElem?_append_left hi, List.getElem?_map] at e
      cases h : ds[i]? with
      | none => rw [h] at e; cases e
      | some d =>
        rw [h] at e
        cases e
        exact ⟨d, rfl, rfl⟩
    · rw [List.getElem?_append_right (by omega), List.getElem?_replicate] at e
      split at e
      · cases e
        exact absurd rfl hx
      · cases e
  refine ⟨r.fz, r.pr, ?_, r.n, r.sto, r.inj, r.stf, fun i d e => ?_, fun i o e => ?_, fun i j a ⟨o, e⟩ => ?_⟩
  · unfold L2.start
    simp [q.length]
  · obtain ⟨d', h1, h2⟩ := val e (fun z => nomatch z)
    cases h1
    obtain ⟨v, k1, k2⟩ := q.get h2
    refine ⟨v, ?_, k2⟩
    unfold L2.start
    have hi : i < (vs.map some).length := by
      have := (List.getElem?_eq_some_iff.mp k1).1
      simpa using this
    rw [List.getElem?_append_left hi, List.getElem?_map, k1]
    rfl
  · obtain ⟨d', h1, _⟩ := val e (fun z => nomatch z)
    cases h1
  · obtain ⟨d', h1, _⟩ := val e (fun z => nomatch z)
    cases h1
theorem body_post {g : Gh} {P : Hp} {sto : List Mob} {H : Hp} {ds : List Dat} {vs : List V} {N : List Str} {m : Ac Flw} {Q : VK} {E : XK} (r : Rel W g P ⟨[], sto⟩ [] H) (q : Rs W g ds vs) (h : PostC W g P (bodyC m N.length ds sto) Q E) :
    tS W (fun cls d _ H => E cls d H) m { nx := fun _ H' => Q .non H', rt := Q } (L2.start N vs) H := by
  refine ⟨g, P, _, r.enter (N := N) q, ?_⟩
  unfold bodyC at h
  revert h
  generalize m ⟨ds.map .val ++ List.replicate (N.length - ds.length) .no, sto⟩ = o
  intro h
  cases o with
  | ok f s =>
    cases f with
    | nx => exact fun g' σ' H' l r' => h g' H' .non l r'.drop R.non
    | bk => exact h.elim
    | ct => exact h.elim
    | rt x =>
      cases x with
      | val d => exact fun g' σ' H' v l r' q' => h g' H' v l r'.drop q'
      | own o => exact fun g' σ' H' v l r' q' => h g' H' v l r'.drop (by
          obtain ⟨a, ho, e, k1, k2, k3, k4, k5, k6⟩ := q'
          exact ⟨a, ho, e, k1, k2, k3, k4, k5, fun i ⟨o', z⟩ => by simp at z⟩)
      | bor i => exact h.elim
  | exc x s => exact fun g' σ' H' cls d l r' q' => h g' H' cls d l r'.drop q'
  | stuck => exact h.elim
/-- THE RULE: a def of the text -/
theorem fnG_of {P : Program} {w : World} {mg : Str → Option Value} {base : Heap} {k : Nat} {f : Addr} {name qual : Str} {params : Arguments} {body : List Stmt} {scope : Scope} {dV kV doc pm cdv ct oc : Value} {an od : Option Addr}
    {osl : Array (Option Value)} {N ps : List Str} {m : Ac Flw} (lk : W.K.lookup f = some ⟨oc, od, .func (PySem.W.fnOf name qual params body scope dV kV doc pm an cdv ct), osl⟩) (hcd : PySem.W.codeIn W.K cdv qual = true) (S : FnScope N ps scope)
    (hbody : ∀ (X : Cx) (E : XK), X.prog = P → X.w = w → X.K = W.K → X.mg = mg → X.base = base → X.N = N → X.env.scope = scope → X.calm = true → X.ex = [] → X.fn = (fun _ => true) → X.stack = X.env :: X.outer → X.env.frame = some X.env.locals → RoomG k X.A → Takes X (fun cls d _ H => E cls d H) → PassesOwn (model X.prog X.w) X.A X.env X.xe → SSs W (fun cls d _ H => E cls d H) X m body) :
    FnG P w W.K mg base (k + 1) f (PySem.W.fnOf name qual params body scope dV kV doc pm an cdv ct) ps (spF W ps.length (bodyC m N.length)) := by
  refine ⟨fun vs H Q E ⟨g, Pp, sto, ds, r, q, hl, _⟩ => by rw [← q.length]; exact hl, fun A outer s H args us vs Q E hr e0 hb r hsp => ?_⟩
  obtain ⟨g, Pp, sto, ds, rr, rq, hld, hpost⟩ := hsp
  have hl : vs.length = ps.length := by rw [← rq.length]; exact hld
  have KX : W.K.In s.heap := e0.mod.kin.keeps fun b o e => (e0.bs b o e).1
  have lim : s.heap.NoLimit := e0.mod.nolimit.keeps fun b o e => (e0.bs b o e).1
  have hkind : ∀ y ∈ ps.zip us, scope.names.lookup y.1 = some .local ∨ (scope.names.lookup y.1 = some .cell ∧ ((cellsFrom (s.heap.objs.size + 1) scope.names []).lookup y.1).isSome = true) := fun ⟨n, v⟩ hy => by
    rcases S.par n (List.of_mem_zip hy).1 with q | q
    · exact .inl q
    · exact .inr ⟨q, PySem.W.cellsFrom_some _ _ _ (.inl q)⟩
  refine codeAny_call_function hr.room.depth (KX _ _ lk) rfl S.co S.gen rfl (PySem.W.codeRec_of KX hcd) (hb _ _ _ _ ?_)
  refine wpAny_newFunctionEnv_cells S.kind hkind fun env he s1 x => ?_
  subst he
  refine ⟨lim.keeps x.toInCall.keep, codeAny_func ?_⟩
  have I : L2.Inv (cxOf (CX P w) P w W.K mg base N qual scope f cdv A outer s H E) [] (L2.start N vs) H s1 := inv_start S hr.room.hd e0 hl r x
  have ht := hbody (cxOf (CX P w) P w W.K mg base N qual scope f cdv A outer s H E) E rfl rfl rfl rfl rfl rfl rfl rfl rfl rfl rfl rfl (hr.deeper _) (takes_of rfl rfl rfl rfl) (passes_of rfl)
  have hq := body_post (N := N) rr rq hpost
  refine wpAny_mono (ht.run [] s1 (L2.start N vs) H _ I hq) (fun fl s' hs => ?_) fun e s' hs => hs
  have fin : ∀ {σ' : L2.St} {H' : Hp} {v : V} {u : Value}, L2.Inv (cxOf (CX P w) P w W.K mg base N qual scope f cdv A outer s H E) [] σ' H' s' → L2.RelV v u → Q v H' → CE outer P w H s Q u s' :=
    fun {σ' H' v u} J rv q => ⟨v, H', J.os, J.bare, J.base, J.hok, rv, q⟩
  cases fl with
  | ret u =>
    obtain ⟨v, σ', H', J, rv, q⟩ := hs
    exact fin J rv q
  | next =>
    obtain ⟨σ', H', J, q⟩ := hs
    exact fin (v := V.non) (u := Value.none) J rfl q
  | brk =>
    obtain ⟨_, _, _, q⟩ := hs
    exact False.elim q
  | cont =>
    obtain ⟨_, _, _, q⟩ := hs
    exact False.elim q
end
end En
set_option maxHeartbeats 4000000
/-! En16: names, displays of dicts, small statements. -/
namespace En
open PySem PySem.Spec PyProof.Rows L2
section
variable {W : Wd} {wx : WX} {X : Cx}
theorem se_var {i : Nat} {x : Str} {pos : Pos} (hN : X.N[i]? = some x) (hv : Vis X.env.scope x) (hd : (x == ("__debug__" : Str)) = false) (hcd : (x == ("__classdict__" : Str)) = false) : SE W wx X (slotA i) (.Name x pos) := se_slot (pe_var hN hv hd hcd)
/-- a global name that leads to data -/
theorem se_glob {x : Str} {d : Dat} {v : V} {u : Value} {pos : Pos} (hg : Gl X x) (hm : X.mg x = some u) (rv : L2.RelV v u) (rd : ∀ g, R W g d v) (hd : (x == ("__debug__" : Str)) = false) : SE W wx X (Ac.ret (.val d)) (.Name x pos) := peImp (pe_glob hg hm rv hd) fun σ H Q h => by
  obtain ⟨g, P, s, r, q⟩ := h
  exact q g H (.refl g) r v (rd g)
theorem se_bltn {x : Str} {d : Dat} {v : V} {u : Value} {pos : Pos} (hg : Gl X x) (hm : X.mg x = none) (hv : bootBuiltins x = some u) (rv : L2.RelV v u) (rd : ∀ g, R W g d v) (hn : x ≠ "__name__") (hd : (x == ("__debug__" : Str)) = false) : SE W wx X (Ac.ret (.val d)) (.Name x pos) := peImp (pe_bltn hg hm hv rv hn hd) fun σ H Q h => by
  obtain ⟨g, P, s, r, q⟩ := h
  exact q g H (.refl g) r v (rd g)
/-! ### a display of a dict -/
inductive Rp (W : Wd) (g : Gh) : List (Dat × Dat) → List (V × V) → Prop
  | nil : Rp W g [] []
  | cons {d e : Dat} {v u : V} {ds : List (Dat × Dat)} {vs : List (V × V)} : R W g d v → R W g e u → Rp W g ds vs → Rp W g ((d, e) :: ds) ((v, u) :: vs)
theorem Rp.mono {g g' : Gh} (l : g.Le g') {ds : List (Dat × Dat)} {vs : List (V × V)} (h : Rp W g ds vs) : Rp W g' ds vs := by
  induction h with
  | nil => exact .nil
  | cons h1 h2 _ ih => exact .cons (R.mono l h1) (R.mono l h2) ih
def prsA : List (Ac Dat × Ac Dat) → Ac (List (Dat × Dat))
  | [] => Ac.ret []
  | p :: r => p.1.bind fun k => p.2.bind fun v => (prsA r).bind fun ps => Ac.ret ((k, v) :: ps)
def keysOf : List (Dat × Dat) → Option (List (Key × Dat))
  | [] => some []
  | p :: r => match kyD p.1, keysOf r with
    | some k, some kvs => some ((k, p.2) :: kvs)
    | _, _ => none
def mergeD (kvs : List (Key × Dat)) : List (Key × Dat) → List (Key × Dat)
  | [] => kvs
  | p :: r => mergeD (putD kvs p.1 p.2) r
def dicA (ms : List (Ac Dat × Ac Dat)) : Ac Rv := (prsA ms).bind fun ps => match keysOf ps with
  | some kvs => if kvs.length ≤ 15 then Ac.ret (.own (.dct (mergeD [] kvs))) else Ac.stk
  | none => Ac.stk
def trsP (W : Wd) (wx : WX) (ms : List (Ac Dat × Ac Dat)) : List (TE × TE) := ms.map fun p => (tX W wx dtK p.1, tX W wx dtK p.2)
theorem prs_imp : ∀ {ms : List (Ac Dat × Ac Dat)} {g : Gh} {P : Hp} {s : Stt} {σ : L2.St} {H : Hp} {Q : List (V × V) → Hp → Prop}, Rel W g P s σ H → (Post W wx g P σ (prsA ms s) fun ps s' g' H' => ∀ vs, Rp W g' ps vs → Q vs H') → tPairs (trsP W wx ms) σ H Q
  | [], g, P, s, σ, H, Q, r, q => q g H (.refl g) r [] .nil
  | p :: ms, g, P, s, σ, H, Q, r, q => by
    refine ⟨g, P, s, r, (Post.bindE q).mono fun k s1 g1 H1 l1 r1 q1 v hv => ?_⟩
    refine ⟨g1, P, s1, r1, (Post.bindE q1).mono fun e s2 g2 H2 l2 r2 q2 u hu => ?_⟩
    refine prs_imp r2 ((Post.bindE q2).mono fun ps s3 g3 H3 l3 r3 q3 vs hvs => ?_)
    exact q3 g3 H3 (.refl g3) r3 _ (.cons (R.mono (l2.trans l3) hv) (R.mono l3 hu) hvs)
theorem keysOf_ok {g : Gh} {ps : List (Dat × Dat)} {vs : List (V × V)} (h : Rp W g ps vs) : ∀ {kvs}, keysOf ps = some kvs → ∃ kv, vs = kv.map (fun p => (kV p.1, p.2)) ∧ Rk W g kvs kv := by
  induction h with
  | nil =>
    intro kvs e
    cases e
    exact ⟨[], rfl, .nil⟩
  | @cons d e v u ds vs h1 h2 h3 ih =>
    intro kvs e
    unfold keysOf at e
    cases e1 : kyD d with
    | none => simp [e1] at e
    | some k =>
      cases e2 : keysOf ds with
      | none => simp [e1, e2] at e
      | some kvs' =>
        simp [e1, e2] at e
        subst e
        obtain ⟨kv, rfl, k2⟩ := ih e2
        obtain rfl := kyD_ok e1 h1
        exact ⟨(k, u) :: kv, rfl, .cons h2 k2⟩
theorem Rk.merge {g : Gh} : ∀ {more : List (Key × Dat)} {mv : List (Key × V)} {ds : List (Key × Dat)} {vs : List (Key × V)}, Rk W g more mv → Rk W g ds vs → Rk W g (mergeD ds more) (mergeK vs mv)
  | _, _, _, _, .nil, h => h
  | _, _, _, _, .cons (ds := r) (vs := rv) h1 h2, h => Rk.merge (more := r) (mv := rv) h2 (h.put h1)
theorem se_dic {keys : List (Option Expr)} {values : List Expr} {ms : List (Ac Dat × Ac Dat)} {pos : Pos} (h : PPs X pos keys values (trsP W wx ms)) (hall : keys.all (·.isSome) = true) (hl : keys.length = values.length) (h0 : keys ≠ []) (h15 : keys.length ≤ 15) : SE W wx X (dicA ms) (.Dict keys values pos) :=
  peImp (pe_disp h hall hl h0 h15) fun σ H Q hh => by
    obtain ⟨g, P, s, r, q⟩ := hh
    intro p hp
    obtain ⟨f1, f2, f3, f4⟩ := r.newF hp
    have r0 : Rel W g (upd P p (.dK [])) s σ (upd H p (.dK [])) := Rel.prot (o := .dct []) (ho := .dK []) (r.laid hp) upd_same f1 f2 f3 f4
    refine prs_imp r0 (((Post.bindE q).under (up_le (ho := .dK []) f2) up_none).mono fun ps s1 g1 H1 l1 r1 q1 vs hvs => ?_)
    obtain ⟨p1, p2, p3⟩ := r1.pr p _ upd_same
    cases e : keysOf ps with
    | none =>
      simp only [e] at q1
      exact q1.elim
    | some kvs =>
      simp only [e] at q1
      by_cases hz : kvs.length ≤ 15
      · rw [if_pos hz] at q1
        obtain ⟨kv, rfl, k2⟩ := keysOf_ok hvs e
        refine ⟨p1, kv, rfl, by rw [← k2.length]; exact hz, ?_⟩
        have r2 := r1.reprot (u' := .dK (mergeK [] kv)) f2
        refine q1 g1 _ (.refl g1) (r2.unprot f2) _ ⟨p, _, rfl, upd_same, show RO W g1 (.dct _) (.dK _) from Rk.merge k2 .nil, p2, f2, p3, fun j ⟨o, ho⟩ z => ?_⟩
        obtain ⟨b, hb, k1, k2, k3, k4, k5, k6⟩ := r2.slo j o ho
        rw [z] at k1
        cases k1
        rw [upd_same] at k5
        cases k5
      · rw [if_neg hz] at q1
        exact q1.elim
theorem se_dic0 {pos : Pos} : SE W wx X (Ac.ret (.own (.dct []))) (.Dict [] [] pos) := peImp pe_dnewK fun σ H Q hh => by
  obtain ⟨g, P, s, r, q⟩ := hh
  intro p hp
  obtain ⟨n1, n2⟩ := r.newOwn (o := .dct []) (ho := .dK []) hp .nil
  exact q g _ (.refl g) n1 _ n2
/-! ### statements -/
def augK (op : BOp) (a : Int) (w : Vw) : Option Int := match op, w with
  | .add, .dt (.int b) => some (a + b)
  | .sub, .dt (.int b) => some (a - b)
  | _, _ => none
def augN (i : Nat) (op : BOp) (m : Ac Rv) : Ac Flw := fun s => match s.env[i]? with
  | some (.val (.int a)) => (m.bind fun y => (lookA y).bind fun w => (Ac.opt (augK op a w)).bind fun k => (setA i (.val (.int k))).bind fun _ => nxA) s
  | _ => .stuck
theorem PostS.lookE {g : Gh} {P : Hp} {s : Stt} {x : Rv} {f : Vw → Ac Flw} {D : Ends} (h : PostS W wx g P ((lookA x).bind f s) D) : ∃ w, look s x = some w ∧ PostS W wx g P (f w s) D := by
  unfold Ac.bind lookA at h
  cases e : look s x with
  | none =>
    simp only [e] at h
    exact h.elim
  | some w =>
    simp only [e] at h
    exact ⟨w, rfl, h⟩
theorem PostS.optE {α : Type} {g : Gh} {P : Hp} {s : Stt} {o : Option α} {f : α → Ac Flw} {D : Ends} (h : PostS W wx g P ((Ac.opt o).bind f s) D) : ∃ b, o = some b ∧ PostS W wx g P (f b s) D := by
  cases o with
  | none => exact h.elim
  | some b => exact ⟨b, rfl, h⟩
theorem setA_nx {g : Gh} {P : Hp} {s : Stt} {σ : L2.St} {H : Hp} {i : Nat} {x : Rv} {v : V} {k : Ac Flw} {D : Ends} (r : Rel W g P s σ H) (q : RvR W g P s σ H x v) (h : PostS W wx g P (((setA i x).bind fun _ => k) s) D) : ∃ s' g', g.Le g' ∧ Rel W g' P s' (σ.set i (some v)) H ∧ PostS W wx g' P (k s') D :=
  setA_ok (vs := [i]) (by simp) r q (PostS.bindV [i] h)
theorem aug_imp {i : Nat} {op : BOp} {m : Ac Rv} {f : Int → Int → Int} (hf : ∀ a w k, augK op a w = some k → ∃ b, w = .dt (.int b) ∧ k = f a b) {D : Ends} {σ : L2.St} {H : Hp} (h : tS W wx (augN i op m) D σ H) : tAug i (tX W wx rvK m) (ipI f) D σ H := by
  obtain ⟨g, P, s, r, q⟩ := h
  unfold augN at q
  split at q
  · rename_i a e
    obtain ⟨v, k1, k2⟩ := r.slv i _ e
    obtain rfl := R.intE k2
    refine ⟨_, k1, g, P, s, r, (PostS.bindE q).mono fun y s1 g1 H1 l1 r1 q1 u hu => ?_⟩
    obtain ⟨w, e1, q2⟩ := PostS.lookE q1
    obtain ⟨k, e2, q3⟩ := PostS.optE q2
    obtain ⟨b, rfl, rfl⟩ := hf a w k e2
    have hb := look_ok r1 hu e1
    obtain rfl := R.intE hb
    obtain ⟨s', g', l', r', q4⟩ := setA_nx (x := .val _) (v := .int (f a b)) r1 (R.int _) q3
    exact ⟨a, b, rfl, rfl, q4 g' _ H1 (.refl g') r'⟩
  · exact q.elim
theorem ss_aug {i : Nat} {x : Str} {e : Expr} {m : Ac Rv} {op : BOp} {pos' pos : Pos} (hop : op = .add ∨ op = .sub) (hN : X.N.Nodup) (hi : X.N[i]? = some x) (hx : Loc X.env.scope x) (he : SE W wx X m e) (hf : X.fn x = true ∨ X.env.scope.names.lookup x = some .local) : SS W wx X (augN i op m) (.AugAssign (.Name x pos') op.py e pos) := by
  rcases hop with rfl | rfl
  · exact psImp (ps_aug hN hi hx he ip_add hf) fun D σ H h => aug_imp (fun a w k e => by
      unfold augK at e
      split at e <;> first | cases e; exact ⟨_, rfl, rfl⟩ | (rename_i hh; cases hh) | cases e) h
  · exact psImp (ps_aug hN hi hx he ip_sub hf) fun D σ H h => aug_imp (fun a w k e => by
      unfold augK at e
      split at e <;> first | cases e; exact ⟨_, rfl, rfl⟩ | (rename_i hh; cases hh) | cases e) h
def parA2 (i j : Nat) (ms : Ac (List Dat)) : Ac Flw := ms.bind fun ds => match ds with
  | [a, b] => (setA i (.val a)).bind fun _ => (setA j (.val b)).bind fun _ => nxA
  | _ => Ac.stk
def parA3 (i j l : Nat) (ms : Ac (List Dat)) : Ac Flw := ms.bind fun ds => match ds with
  | [a, b, c] => (setA i (.val a)).bind fun _ => (setA j (.val b)).bind fun _ => (setA l (.val c)).bind fun _ => nxA
  | _ => Ac.stk
theorem ss_par {i j : Nat} {x y : Str} {a b : Expr} {ms : Ac (List Dat)} {px py pt pos : Pos} {kt k2 pt2} (hc : X.calm = true) (hN : X.N.Nodup) (hi : X.N[i]? = some x) (hj : X.N[j]? = some y) (hij : i ≠ j)
    (hx : X.env.scope.names.lookup x = some .local) (hy : X.env.scope.names.lookup y = some .local) (ha : SA W wx X ms [a, b])
    (hw : swappedStores [.Tuple [.Name x px, .Name y py] kt pt] (.Tuple [a, b] k2 pt2) X.env = pure (some [x, y]))
    (hs : swapsWithSole [.Tuple [.Name x px, .Name y py] kt pt] (.Tuple [a, b] k2 pt2) pos.line X.env = pure false) :
    SS W wx X (parA2 i j ms) (.Assign [.Tuple [.Name x px, .Name y py] kt pt] (.Tuple [a, b] k2 pt2) pos) := psImp (ps_par hc hN hi hj hij hx hy ha hw hs) fun D σ H h => by
  obtain ⟨g, P, s, r, q⟩ := h
  refine ⟨g, P, s, r, (PostS.bindE q).mono fun ds s1 g1 H1 l1 r1 q1 vs hv => ?_⟩
  cases hv with
  | nil => exact q1.elim
  | cons h1 t =>
    cases t with
    | nil => exact q1.elim
    | cons h2 t =>
      cases t with
      | cons _ _ => exact q1.elim
      | nil =>
        obtain ⟨s2, g2, l2, r2, q2⟩ := setA_nx (x := .val _) r1 h1 q1
        obtain ⟨s3, g3, l3, r3, q3⟩ := setA_nx (x := .val _) r2 (R.mono l2 h2) q2
        exact ⟨_, _, rfl, q3 g3 _ H1 (.refl g3) r3⟩
theorem ss_par3 {i j l : Nat} {x y z : Str} {a b c : Expr} {ms : Ac (List Dat)} {px py pz pt pos : Pos} {kt k2 pt2} (hc : X.calm = true) (hN : X.N.Nodup) (hi : X.N[i]? = some x) (hj : X.N[j]? = some y) (hl : X.N[l]? = some z) (hij : i ≠ j) (hil : i ≠ l) (hjl : j ≠ l)
    (hx : X.env.scope.names.lookup x = some .local) (hy : X.env.scope.names.lookup y = some .local) (hz : X.env.scope.names.lookup z = some .local) (ha : SA W wx X ms [a, b, c])
    (hw : swappedStores [.Tuple [.Name x px, .Name y py, .Name z pz] kt pt] (.Tuple [a, b, c] k2 pt2) X.env = pure (some [x, y, z]))
    (hs : swapsWithSole [.Tuple [.Name x px, .Name y py, .Name z pz] kt pt] (.Tuple [a, b, c] k2 pt2) pos.line X.env = pure false) :
    SS W wx X (parA3 i j l ms) (.Assign [.Tuple [.Name x px, .Name y py, .Name z pz] kt pt] (.Tuple [a, b, c] k2 pt2) pos) := psImp (ps_par3 hc hN hi hj hl hij hil hjl hx hy hz ha hw hs) fun D σ H h => by
  obtain ⟨g, P, s, r, q⟩ := h
  refine ⟨g, P, s, r, (PostS.bindE q).mono fun ds s1 g1 H1 l1 r1 q1 vs hv => ?_⟩
  cases hv with
  | nil => exact q1.elim
  | cons h1 t =>
    cases t with
    | nil => exact q1.elim
    | cons h2 t =>
      cases t with
      | nil => exact q1.elim
      | cons h3 t =>
        cases t with
        | cons _ _ => exact q1.elim
        | nil =>
          obtain ⟨s2, g2, l2, r2, q2⟩ := setA_nx (x := .val _) r1 h1 q1
          obtain ⟨s3, g3, l3, r3, q3⟩ := setA_nx (x := .val _) r2 (R.mono l2 h2) q2
          obtain ⟨s4, g4, l4, r4, q4⟩ := setA_nx (x := .val _) r3 (R.mono (l2.trans l3) h3) q3
          exact ⟨_, _, _, rfl, q4 g4 _ H1 (.refl g4) r4⟩
end
end En
set_option maxHeartbeats 4000000
/-! En17: the small language, its evaluator, the compiler to it. -/
namespace En
open PySem PySem.Spec PyProof.Rows L2
mutual
inductive Ex where
  | con (d : Dat) | slot (i : Nat)
  | tup (es : List Ex) | lst (es : List Ex) | dic (kvs : List (Ex × Ex))
  | bin (op : BOp) (a b : Ex) | neg (a : Ex)
  | cmp (op : COp) (a b : Ex) | chn (op op' : COp) (a b c : Ex)
  | and (a b : Ex) | or (a b : Ex) | nt (a : Ex) | ite (c a b : Ex)
  | att (e : Ex) (f : Str) | prp (e : Ex) (f : Str)
  | sub (e i : Ex) | slc (e : Ex) (lo hi : Option Ex) | rev (e : Ex)
  | call (f : Nat) (es zs : List Ex) (sl : List Sl) | mtd (e : Ex) (m : Str) (es zs : List Ex) (ks : List Str)
  | bi (b : Bi) (a : Ex) (es : List Ex) | mth (e : Ex) (m : Mt) (es : List Ex)
  | lc (e : Ex) (t : Tg) (src : Src) (cond : Option Ex) (own : List Nat)
  | sto (e : Ex)
inductive Src where
  | ex (e : Ex) | rng1 (a : Ex) | rng2 (a b : Ex) | enm (e : Ex) | zip (a b : Ex)
inductive Tg where
  | slot (i : Nat) | tup (ts : List Tg) | sub (e i : Ex)
end
inductive Sm where
  | asg (t : Tg) (e : Ex) | att (o : Ex) (f : Str) (e : Ex) | par2 (i j : Nat) (es : List Ex) | par3 (i j l : Nat) (es : List Ex)
  | aug (i : Nat) (op : BOp) (e : Ex)
  | exp (e : Ex) | ret (e : Option Ex)
  | ife (c : Ex) (a b : List Sm) | whl (c : Ex) (b : List Sm) | for (t : Tg) (src : Src) (b els : List Sm)
  | brk | cnt | pas
/-- where a global name leads -/
inductive Gv where
  | dat (d : Dat) | fn (f : Nat) | cls (c : Nat)
structure Tb where
  T : Tab
  flds : Nat → Str → Bool
  isf : Str → Bool
  isp : Str → Bool
  ism : Str → Bool
  meth : Nat → Str → Option Nat
  prop : Nat → Str → Option Nat
  bnd : Nat → Nat → List Str → Option (List Sl)
  gl : Str → Option Gv
  bl : Str → Bool
structure Ec where
  t : Tb
  call : Nat → List Dat → List Mob → Cou
  low : Nat → List Dat → List Mob → Cou
  wf : Nat
def Ec.disp (C : Ec) (m : Str) (n : Nat) (ks : List Str) : Disp := fun c => (C.t.meth c m).bind fun f => (C.t.bnd f (n + 1) ks).map fun sl => (sl, C.call f)
def Ec.dispP (C : Ec) (f : Str) : Nat → Option (List Dat → List Mob → Cou) := fun c => (C.t.prop c f).map fun i => C.low i
def condA (f : Ex → Ac Bool) : Option Ex → Ac Bool
  | none => Ac.ret true
  | some c => f c
def tgsA (f : Tg → Rv → Ac Unit) : List Tg → List Dat → Ac Unit
  | [] => fun ds => match ds with
    | [] => Ac.ret ()
    | _ => Ac.stk
  | t :: ts => fun ds => match ds with
    | d :: ds => (f t (.val d)).bind fun _ => tgsA f ts ds
    | _ => Ac.stk
mutual
def ev (C : Ec) : Nat → Ex → Ac Rv
  | 0, _ => Ac.stk
  | n + 1, e => match e with
    | .con d => Ac.ret (.val d)
    | .slot i => slotA i
    | .tup es => (seqA (fun e => (ev C n e).bind toVal) es).bind fun ds => if ds.length ≤ sizeLine then Ac.ret (.val (.tup ds)) else Ac.stk
    | .lst es => (seqA (fun e => (ev C n e).bind toVal) es).bind fun ds => if ds.length ≤ sizeLine then Ac.ret (.own (.lst ds)) else Ac.stk
    | .dic [] => Ac.ret (.own (.dct []))
    | .dic kvs => dicA (kvs.map fun p => ((ev C n p.1).bind toVal, (ev C n p.2).bind toVal))
    | .bin op a b => (ev C n a).bind fun x => (ev C n b).bind fun y => binK op x y
    | .neg a => (ev C n a).bind fun x => (lookA x).bind fun w => match w with
      | .dt (.int i) => Ac.ret (.val (.int (-i)))
      | _ => Ac.stk
    | .cmp op a b => (ev C n a).bind fun x => (ev C n b).bind fun y => cmpK op x y
    | .chn op op' a b c => chnA op op' (ev C n a) ((ev C n b).bind toVal) (ev C n c)
    | .and a b => (ev C n a).bind fun x => (lookA x).bind fun w => (Ac.opt w.truth).bind fun k => if k then ev C n b else Ac.ret x
    | .or a b => (ev C n a).bind fun x => (lookA x).bind fun w => (Ac.opt w.truth).bind fun k => if k then Ac.ret x else ev C n b
    | .nt a => (ev C n a).bind fun x => (lookA x).bind fun w => (Ac.opt w.truth).bind fun k => Ac.ret (.val (.bl (!k)))
    | .ite c a b => (evT C n c).bind fun k => if k then ev C n a else ev C n b
    | .att e f => (ev C n e).bind fun x => (lookA x).bind fun w => Ac.opt (fldK C.t.flds w f)
    | .prp e f => prpA (ev C n e) (C.dispP f)
    | .sub e i => (ev C n e).bind fun x => (ev C n i).bind fun y => subK x y
    | .slc e lo hi => (ev C n e).bind fun x => (optA (fun e => (ev C n e).bind intA) lo).bind fun l => (optA (fun e => (ev C n e).bind intA) hi).bind fun h => slcK x l h
    | .rev e => (ev C n e).bind fun x => (lookA x).bind fun w => match w.lst with
      | some xs => Ac.ret (.own (.lst xs.reverse))
      | none => Ac.stk
    | .call f es zs sl => argA (fun _ => []) (seqA (fun e => (ev C n e).bind toVal) es) (seqA (fun e => (ev C n e).bind toVal) zs) es.length zs.length sl (couA (C.call f))
    | .mtd e m es zs ks => mtdA (ev C n e) (seqA (fun e => (ev C n e).bind toVal) es) (seqA (fun e => (ev C n e).bind toVal) zs) es.length ks.length m (C.disp m es.length ks)
    | .bi b a es => biA C.t.T b (ev C n a) (seqA (fun e => (ev C n e).bind toVal) es)
    | .mth e m es => mthA m (ev C n e) (seqA (fun e => (ev C n e).bind toVal) es)
    | .lc e t src cond own => lcA (srcA C n src) (tgA C n t) (condA (evT C n) cond) ((ev C n e).bind toVal) own
    | .sto e => (ev C n e).bind stoA
def evT (C : Ec) : Nat → Ex → Ac Bool
  | 0, _ => Ac.stk
  | n + 1, e => match e with
    | .nt a => (evT C n a).bind fun k => Ac.ret (!k)
    | .and a b => (evT C n a).bind fun k => if k then evT C n b else Ac.ret false
    | .or a b => (evT C n a).bind fun k => if k then Ac.ret true else evT C n b
    | .ite c a b => (evT C n c).bind fun k => if k then evT C n a else evT C n b
    | e => (ev C n e).bind truA
def srcA (C : Ec) : Nat → Src → Ac (List Dat)
  | 0, _ => Ac.stk
  | n + 1, e => match e with
    | .ex e => walkA (ev C n e)
    | .rng1 a => ((ev C n a).bind toVal).bind fun d => Ac.opt (rngD [d])
    | .rng2 a b => ((ev C n a).bind toVal).bind fun d => ((ev C n b).bind toVal).bind fun d' => Ac.opt (rngD [d, d'])
    | .enm a => ((ev C n a).bind toVal).bind fun d => Ac.opt (enmK d)
    | .zip a b => ((ev C n a).bind toVal).bind fun d => ((ev C n b).bind toVal).bind fun d' => Ac.opt (zipK d d')
def tgA (C : Ec) : Nat → Tg → Rv → Ac Unit
  | 0, _ => fun _ => Ac.stk
  | n + 1, t => match t with
    | .slot i => setA i
    | .tup ts => unpA ts.length (tgsA (fun t => tgA C n t) ts)
    | .sub o i => fun x => (toVal x).bind fun d => (ev C n o).bind fun o => (ev C n i).bind fun k => stpK d o k
end
def seqsA (f : Sm → Ac Flw) : List Sm → Ac Flw
  | [] => nxA
  | s :: r => seqM (f s) (seqsA f r)
def ex (C : Ec) : Nat → Sm → Ac Flw
  | 0, _ => Ac.stk
  | n + 1, s => match s with
    | .asg t e => (ev C n e).bind fun x => (tgA C n t x).bind fun _ => nxA
    | .att o f e => (ev C n e).bind fun x => (toVal x).bind fun d => (ev C n o).bind fun o => atsA C.t.flds f d o
    | .par2 i j es => parA2 i j (seqA (fun e => (ev C n e).bind toVal) es)
    | .par3 i j l es => parA3 i j l (seqA (fun e => (ev C n e).bind toVal) es)
    | .aug i op e => augN i op (ev C n e)
    | .exp e => (ev C n e).bind fun _ => nxA
    | .ret none => Ac.ret (.rt (.val .non))
    | .ret (some e) => (ev C n e).bind retA
    | .ife c a b => (evT C n c).bind fun k => if k then seqsA (ex C n) a else seqsA (ex C n) b
    | .whl c b => whlA (evT C n c) (seqsA (ex C n) b) C.wf
    | .for t src b els => (srcA C n src).bind (forA (tgA C n t) (seqsA (ex C n) b) (seqsA (ex C n) els))
    | .brk => Ac.ret .bk
    | .cnt => Ac.ret .ct
    | .pas => nxA
/-! ### the compiler -/
structure Ge where
  N : List Str
  sc : Scope
  fnl : Str → Bool
  /- where displays lie that are put into the store -/
  st : List (Nat × Nat)
def Ge.wrap (Γ : Ge) (p : Pos) (x : Ex) : Ex := if Γ.st.contains (p.line, p.col) then .sto x else x
def mapO {α β : Type} (f : α → Option β) : List α → Option (List β)
  | [] => some []
  | a :: r => match f a, mapO f r with
    | some b, some bs => some (b :: bs)
    | _, _ => none
def ixOf (x : Str) : List Str → Option Nat
  | [] => none
  | y :: r => if y = x then some 0 else (ixOf x r).map (· + 1)
def nmOk (x : Str) : Bool := !(x == ("__debug__" : Str)) && !(x == ("__classdict__" : Str))
def Ge.glob (Γ : Ge) (x : Str) : Bool := decide (Γ.sc.names.lookup x = some .globalImplicit)
def Ge.vis (Γ : Ge) (x : Str) : Bool := match Γ.sc.names.lookup x with
  | some .local => true
  | some .cell => true
  | some .free => true
  | _ => false
def Ge.loc (Γ : Ge) (x : Str) : Bool := match Γ.sc.names.lookup x with
  | some .local => true
  | some .cell => Γ.fnl x
  | _ => false
def Ge.isl (Γ : Ge) (x : Str) : Bool := decide (Γ.sc.names.lookup x = some .local)
def binOf : Operator → Option BOp
  | .Add => some .add
  | .Sub => some .sub
  | .Mult => some .mul
  | .FloorDiv => some .fdiv
  | .Mod => some .mod
  | .Pow => some .pow
  | _ => none
def cmpOf : CmpOp → Option COp
  | .Eq => some .eq
  | .NotEq => some .ne
  | .Lt => some .lt
  | .LtE => some .le
  | .Gt => some .gt
  | .GtE => some .ge
  | .In => some .isin
  | .NotIn => some .notin
  | .Is => some .is
  | .IsNot => some .isnot
def biOf (x : Str) : Option Bi :=
  if x = "len" then some .len else if x = "tuple" then some .tuple else if x = "list" then some .list else if x = "str" then some .str
  else if x = "repr" then some .repr else if x = "all" then some .all else if x = "any" then some .any else if x = "isinstance" then some .isi else none
def tyOf (x : Str) : Option String :=
  if x = "str" then some "str" else if x = "int" then some "int" else if x = "tuple" then some "tuple" else if x = "list" then some "list" else if x = "dict" then some "dict" else if x = "bool" then some "bool" else none
def mtOf (x : Str) : Option Mt :=
  if x = "append" then some .append else if x = "pop" then some .pop else if x = "extend" then some .extend else if x = "upper" then some .upper
  else if x = "split" then some .split else if x = "join" then some .join else if x = "get" then some .get else none
/-- what is no slice, no star -/
def plainE : Expr → Bool
  | .Starred .. => false
  | .Slice .. => false
  | _ => true
def attOk : Expr → Bool
  | .Call (.Name id _) [] [] _ => !(id == ("super" : Str))
  | _ => true
def isSet : Expr → Bool
  | .Set .. => true
  | _ => false
def isLc : Expr → Bool
  | .ListComp .. => true
  | .SetComp .. => true
  | .DictComp .. => true
  | _ => false
def ownOf (N : List Str) (scope : Scope) : List (Str × Nat) := scope.names.filterMap fun p => match p.2 with
  | .local => (ixOf p.1 N).map fun i => (p.1, i)
  | .cell => (ixOf p.1 N).map fun i => (p.1, i)
  | _ => none
def Ge.blk (Γ : Ge) (scope : Scope) : Ge := ⟨Γ.N, relS scope Γ.sc, fun x => scope.names.lookup x == some .cell, Γ.st⟩
mutual
def Tg.slots : Tg → List Nat
  | .slot i => [i]
  | .tup ts => Tg.slotss ts
  | .sub _ _ => []
def Tg.slotss : List Tg → List Nat
  | [] => []
  | t :: ts => t.slots ++ Tg.slotss ts
end
def boolX (op : PySem.BoolOp) (x y : Ex) : Ex := match op with
  | .And => .and x y
  | .Or => .or x y
def boolC (f : Expr → Option Ex) (op : PySem.BoolOp) : List Expr → Option Ex
  | [] => none
  | [a] => f a
  | a :: r => match f a, boolC f op r with
    | some x, some y => some (boolX op x y)
    | _, _ => none
def optC (f : Expr → Option Ex) : Option Expr → Option (Option Ex)
  | none => some none
  | some e => (f e).map some
def kwsC (f : Expr → Option Ex) (kws : List Keyword) : Option (List Ex × List Str) := match mapO (fun (k : Keyword) => f k.value) kws, mapO (fun (k : Keyword) => k.arg) kws with
  | some zs, some ks => some (zs, ks)
  | _, _ => none
def dicC (f : Expr → Option Ex) : List (Option Expr) → List Expr → Option (List (Ex × Ex))
  | [], [] => some []
  | some k :: ks, v :: vs => match f k, f v, dicC f ks vs with
    | some a, some b, some r => some ((a, b) :: r)
    | _, _, _ => none
  | _, _ => none
mutual
def compE (tb : Tb) : Nat → Ge → Expr → Option Ex
  | 0, _, _ => none
  | n + 1, Γ, e => match e with
    | .Constant .none _ _ => some (.con .non)
    | .Constant (.bool b) _ _ => some (.con (.bl b))
    | .Constant (.int i) _ _ => some (.con (.int i))
    | .Constant (.str x) _ _ => some (.con (.str x))
    | .Name x _ => if nmOk x then (if Γ.glob x then (match tb.gl x with
        | some (.dat d) => some (.con d)
        | some (.cls c) => some (.con (.cls c))
        | some (.fn _) => none
        | none => if tb.bl x then (tyOf x).map fun n => .con (.ty n) else none)
      else if Γ.vis x then (ixOf x Γ.N).map .slot else none) else none
    | .Tuple es _ _ => if es.all plainE then (mapO (compE tb n Γ) es).map .tup else none
    | .List es pos => if es.all plainE then (mapO (compE tb n Γ) es).map fun xs => Γ.wrap pos (.lst xs) else none
    | .Dict ks vs pos => if ks.length ≤ 15 then (dicC (compE tb n Γ) ks vs).map fun xs => Γ.wrap pos (.dic xs) else none
    | .BinOp a op b _ => match binOf op, compE tb n Γ a, compE tb n Γ b with
      | some o, some x, some y => some (.bin o x y)
      | _, _, _ => none
    | .UnaryOp .Not a _ => (compE tb n Γ a).map .nt
    | .UnaryOp .USub a _ => (compE tb n Γ a).map .neg
    | .BoolOp op es _ => boolC (compE tb n Γ) op es
    | .IfExp c a b _ => match compE tb n Γ c, compE tb n Γ a, compE tb n Γ b with
      | some z, some x, some y => some (.ite z x y)
      | _, _, _ => none
    | .Compare a [op] [b] _ => if isSet b then none else match cmpOf op, compE tb n Γ a, compE tb n Γ b with
      | some o, some x, some y => some (.cmp o x y)
      | _, _, _ => none
    | .Compare a [op, op'] [b, c] _ => if isSet c then none else match cmpOf op, cmpOf op', compE tb n Γ a, compE tb n Γ b, compE tb n Γ c with
      | some o, some o', some x, some y, some z => some (.chn o o' x y z)
      | _, _, _, _, _ => none
    | .Attribute o f _ => if attOk o then (if tb.isf f then (compE tb n Γ o).map fun x => .att x f else if tb.isp f then (compE tb n Γ o).map fun x => .prp x f else none) else none
    | .Subscript o (.Slice none none (some (.UnaryOp .USub (.Constant (.int 1) _ _) _)) _) _ => (compE tb n Γ o).map .rev
    | .Subscript o (.Slice lo hi none _) _ => match compE tb n Γ o, optC (compE tb n Γ) lo, optC (compE tb n Γ) hi with
      | some x, some l, some h => some (.slc x l h)
      | _, _, _ => none
    | .Subscript o i _ => if plainE i then (match compE tb n Γ o, compE tb n Γ i with
      | some x, some y => some (.sub x y)
      | _, _ => none) else none
    | .ListComp elt [⟨tg, iter, ifs, 0⟩] scope _ => if blkC Γ.N Γ.sc scope (ownOf Γ.N scope) && !isSet iter then (match compSrc tb n Γ tg iter, compTg tb n (Γ.blk scope) tg, compE tb n (Γ.blk scope) elt with
      | some src, some t, some x => if t.slots.all (fun i => ((ownOf Γ.N scope).map (·.2)).contains i) then (match ifs with
        | [] => some (.lc x t src none ((ownOf Γ.N scope).map (·.2)))
        | [c] => (compE tb n (Γ.blk scope) c).map fun z => .lc x t src (some z) ((ownOf Γ.N scope).map (·.2))
        | _ => none) else none
      | _, _, _ => none) else none
    | .Call f es kws pos => if es.all plainE then (match mapO (compE tb n Γ) es, kwsC (compE tb n Γ) kws with
      | some xs, some (zs, ks) => (match f with
        | .Name x _ => if nmOk x && Γ.glob x then (match tb.gl x with
          | some (.fn i) => (tb.bnd i es.length ks).map fun sl => .call i xs zs sl
          | some _ => none
          | none => if tb.bl x && kws.isEmpty then (match biOf x, xs with
            | some b, a :: r => some (.bi b a r)
            | _, _ => none) else none) else none
        | .Attribute o m apos => (match compE tb n Γ o with
          | some y => if attOk o && (apos.endLine == pos.line) && decide (es.length + kws.length < 28) then (if tb.ism m then some (.mtd y m xs zs ks) else if kws.isEmpty then (mtOf m).map fun t => .mth y t xs else none) else none
          | none => none)
        | _ => none)
      | _, _ => none) else none
    | _ => none
def compSrc (tb : Tb) : Nat → Ge → Expr → Expr → Option Src
  | 0, _, _, _ => none
  | n + 1, Γ, tg, e => match e, tg with
    | .Call (.Name x _) [a] [] _, tg => if x = "range" then (if Γ.glob x && tb.bl x && plainE a then (compE tb n Γ a).map .rng1 else none)
      else if x = "enumerate" then (match tg with
        | .Tuple .. => if Γ.glob x && tb.bl x && plainE a then (compE tb n Γ a).map .enm else none
        | _ => none)
      else (compE tb n Γ e).map .ex
    | .Call (.Name x _) [a, b] [] _, tg => if x = "range" then (if Γ.glob x && tb.bl x && plainE a && plainE b then (match compE tb n Γ a, compE tb n Γ b with
        | some y, some z => some (.rng2 y z)
        | _, _ => none) else none)
      else if x = "zip" then (match tg with
        | .Tuple .. => if Γ.glob x && tb.bl x && plainE a && plainE b then (match compE tb n Γ a, compE tb n Γ b with
          | some y, some z => some (.zip y z)
          | _, _ => none) else none
        | _ => none)
      else (compE tb n Γ e).map .ex
    | e, _ => (compE tb n Γ e).map .ex
def compTg (tb : Tb) : Nat → Ge → Expr → Option Tg
  | 0, _, _ => none
  | n + 1, Γ, e => match e with
    | .Name x _ => if Γ.loc x then (ixOf x Γ.N).map .slot else none
    | .Tuple es _ _ => if es.all plainE then (mapO (compTg tb n Γ) es).map .tup else none
    | .Subscript o i _ => if plainE i then (match compE tb n Γ o, compE tb n Γ i with
      | some x, some y => some (.sub x y)
      | _, _ => none) else none
    | _ => none
end
end En
set_option maxHeartbeats 4000000
/-! En18: the compiler is right: helpers. -/
namespace En
open PySem PySem.Spec PyProof.Rows L2
section
variable {W : Wd} {wx : WX} {X : Cx}
theorem tX_stk {β γ : Type} {B : RR W β γ} {σ : L2.St} {H : Hp} {Q : γ → Hp → Prop} : ¬ tX W wx B Ac.stk σ H Q := fun ⟨g, P, s, r, q⟩ => q
theorem se_stk {e : Expr} : SE W wx X Ac.stk e := ⟨fun pins s σ H Q I h => absurd h tX_stk⟩
theorem st_stk {e : Expr} : ST W wx X Ac.stk e := ⟨fun pins s σ H Q I h => absurd h tX_stk⟩
theorem si_stk {tg e : Expr} : SI W wx X tg Ac.stk e := ⟨fun pins s σ H R I ⟨g, P, st, r, q⟩ => q.elim⟩
theorem sg_stk {e : Expr} {vs : List Nat} : SG W wx X (fun _ => Ac.stk) vs e := ⟨fun pins s σ H v u Q I rv ⟨g, P, st, x, r, q, p⟩ => p.elim⟩
theorem ss_stk {st : Stmt} : SS W wx X Ac.stk st := ⟨fun pins s σ H D I ⟨g, P, s, r, q⟩ => q.elim⟩
end
/-- the world of a body at depth k + 1 -/
structure Wo (P : Program) (w : World) (W : Wd) (C : Ec) (k : Nat) (mg : Str → Option Value) (base : Heap) : Prop where
  fns : ∀ f n ks sl, C.t.bnd f n ks = some sl → ∃ fd ps, FnG P w W.K mg base (k + 1) (W.fa f) fd ps (spF W ps.length (C.call f)) ∧ CB W.K fd ps n ks sl ∧ PySem.W.keepIn W.K (.ref (W.fa f)) = true
  meth : ∀ c m f, C.t.meth c m = some f → Cls W.K (W.ca c) ∧ Meth W.K (W.ca c) m (W.fa f)
  prop : ∀ c m f, C.t.prop c m = some f → Cls W.K (W.ca c) ∧ (∃ p, PropOf W.K (W.ca c) m p (W.fa f)) ∧ ∃ fd ps, FnG P w W.K mg base k (W.fa f) fd ps (spF W 1 (C.low f)) ∧ ps.length = 1 ∧ ∀ (s : Shared) (u : Value), W.K.In s.heap → BindsTo s fd ⟨[u], []⟩ (ps.zip [u])
  gl : ∀ x d, C.t.gl x = some (.dat d) → ∃ u v, mg x = some u ∧ L2.RelV v u ∧ ∀ g, R W g d v
  glc : ∀ x c, C.t.gl x = some (.cls c) → mg x = some (.ref (W.ca c))
  glf : ∀ x f, C.t.gl x = some (.fn f) → mg x = some (.ref (W.fa f))
  bl : ∀ x, C.t.bl x = true → mg x = none
  flds : FldOk W C.t.flds
  wk : Wk W C.t.T
structure Ctx (W : Wd) (C : Ec) (k : Nat) (Γ : Ge) (X : Cx) (wx : WX) : Prop where
  wo : Wo X.prog X.w W C k X.mg X.base
  hK : X.K = W.K
  hN : X.N = Γ.N
  nd : X.N.Nodup
  sc : X.env.scope = Γ.sc
  fnl : ∀ x, Γ.fnl x = true → X.fn x = true
  calm : X.calm = true
  room : RoomG (k + 1) X.A
  tk : Takes X wx
theorem Ctx.un {W : Wd} {C : Ec} {k : Nat} {Γ : Ge} {X : Cx} {wx : WX} (c : Ctx W C k Γ X wx) : X.A.units + 70 < cLine := by have := c.room.room.un; omega
theorem Ctx.blk {W : Wd} {C : Ec} {k : Nat} {Γ : Ge} {X : Cx} {wx : WX} (c : Ctx W C k Γ X wx) (scope : Scope) (s : Shared) (H : Hp) (Ca : Addr) (cl : List (Str × Addr)) (fp : List Addr) :
    Ctx W C k (Γ.blk scope) (X.blk s H scope (compEnvC scope cl Ca X.env) fp) wx0 :=
  ⟨c.wo, c.hK, c.hN, c.nd, by
    show relabel scope X.env = relS scope Γ.sc
    rw [← c.sc]
    rfl, fun x h => h, c.calm, c.room, fun _ _ ⟨_, _, _, _, _, _, _, _, _, _, _, _, _, _, _, _, w⟩ => w.elim⟩
/-! pure facts -/
theorem ixOf_ok {x : Str} : ∀ {N : List Str} {i : Nat}, ixOf x N = some i → N[i]? = some x
  | [], _, h => by cases h
  | y :: r, i, h => by
    unfold ixOf at h
    split at h
    · rename_i e
      cases h
      rw [e]
      rfl
    · obtain ⟨j, h1, rfl⟩ := Option.map_eq_some_iff.mp h
      show r[j]? = some x
      exact ixOf_ok h1
theorem nmOk_ok {x : Str} (h : nmOk x = true) : (x == ("__debug__" : Str)) = false ∧ (x == ("__classdict__" : Str)) = false := by
  unfold nmOk at h
  simp only [Bool.and_eq_true, Bool.not_eq_true'] at h
  exact h
theorem Ctx.gl1 {W : Wd} {C : Ec} {k : Nat} {Γ : Ge} {X : Cx} {wx : WX} (c : Ctx W C k Γ X wx) {x : Str} (h : Γ.glob x = true) : Gl X x := by
  unfold Ge.glob at h
  show X.env.scope.names.lookup x = _
  rw [c.sc]
  simpa using h
theorem Ctx.vis1 {W : Wd} {C : Ec} {k : Nat} {Γ : Ge} {X : Cx} {wx : WX} (c : Ctx W C k Γ X wx) {x : Str} (h : Γ.vis x = true) : Vis X.env.scope x := by
  unfold Ge.vis at h
  unfold Vis
  rw [c.sc]
  split at h
  · rename_i e
    exact .inl e
  · rename_i e
    exact .inr (.inl e)
  · rename_i e
    exact .inr (.inr e)
  · cases h
theorem Ctx.loc1 {W : Wd} {C : Ec} {k : Nat} {Γ : Ge} {X : Cx} {wx : WX} (c : Ctx W C k Γ X wx) {x : Str} (h : Γ.loc x = true) : L2.Loc X.env.scope x ∧ (X.fn x = true ∨ X.env.scope.names.lookup x = some .local) := by
  unfold Ge.loc at h
  unfold L2.Loc
  rw [c.sc]
  split at h
  · rename_i e
    exact ⟨.inl e, .inr e⟩
  · rename_i e
    exact ⟨.inr e, .inl (c.fnl x h)⟩
  · cases h
theorem mapO_nil {α β : Type} {f : α → Option β} {bs : List β} (h : mapO f [] = some bs) : bs = [] := (Option.some.inj h).symm
theorem mapO_cons {α β : Type} {f : α → Option β} {a : α} {r : List α} {bs : List β} (h : mapO f (a :: r) = some bs) : ∃ b bs', f a = some b ∧ mapO f r = some bs' ∧ bs = b :: bs' := by
  unfold mapO at h
  split at h
  · rename_i b bs' h1 h2
    cases h
    exact ⟨b, bs', h1, h2, rfl⟩
  · cases h
theorem mapO_len {α β : Type} {f : α → Option β} : ∀ {l : List α} {bs : List β}, mapO f l = some bs → bs.length = l.length
  | [], bs, h => by rw [mapO_nil h]; rfl
  | a :: r, bs, h => by
    obtain ⟨b, bs', h1, h2, rfl⟩ := mapO_cons h
    rw [List.length_cons, List.length_cons, mapO_len h2]
theorem star_cons {e : Expr} {es : List Expr} {env : Env} (h : plainE e = true) : starEach (e :: es) env = (false, eval e env) :: starEach es env := by
  cases e <;> first | rfl | cases h
theorem star_false : ∀ {es : List Expr} {env : Env} {pos : Pos}, es.all plainE = true → (backTo pos (starEach es env)).any (·.1) = false
  | [], _, _, _ => rfl
  | e :: es, env, pos, h => by
    simp only [List.all_cons, Bool.and_eq_true] at h
    rw [star_cons h.1]
    show (false || (backTo pos (starEach es env)).any (·.1)) = false
    rw [star_false h.2]
    rfl
theorem attB_ok {o : Expr} {f : Str} {env : Env} (h : attOk o = true) : attributeBase o f env (eval o env) = eval o env := by
  unfold attributeBase
  split
  · rename_i id p pos
    have h' : (id == ("super" : Str)) = false := by simpa [attOk] using h
    have h2 : (id != ("super" : Str)) = true := by simp [bne, h']
    simp only [h2, Bool.true_or, if_true]
  · rfl
theorem foldS_ok {e : Expr} {env : Env} (h : isSet e = false) : ∀ x, foldedSetIterable e env x = pure x := by
  intro x
  cases e <;> first | rfl | cases h
theorem marks_ok {op : CmpOp} {e : Expr} (h : isSet e = false) : behindInMarks op e = false := by
  cases e <;> first | rfl | cases h
theorem plainIx_ok {e : Expr} (h : plainE e = true) : PlainIx e := by
  intro o i
  cases e <;> first | rfl | cases h
theorem kws_all {kws : List Keyword} {ks : List Str} {env : Env} {pos : Pos} (h : mapO (fun (k : Keyword) => k.arg) kws = some ks) : (backToKw pos (keywordEach kws env)).all (·.1.isSome) = true ∧ (backToKw pos (keywordEach kws env)).filterMap (·.1) = ks ∧ (backToKw pos (keywordEach kws env)).any (·.1.isNone) = false := by
  induction kws generalizing ks with
  | nil =>
    rw [mapO_nil h]
    exact ⟨rfl, rfl, rfl⟩
  | cons k r ih =>
    obtain ⟨b, bs', h1, h2, rfl⟩ := mapO_cons h
    obtain ⟨e1, e2, e3⟩ := ih h2
    obtain ⟨nm, v, p⟩ := k
    have h1' : nm = some b := h1
    subst h1'
    refine ⟨?_, ?_, ?_⟩
    · show (true && (backToKw pos (keywordEach r env)).all (·.1.isSome)) = true
      rw [e1]
      rfl
    · show b :: (backToKw pos (keywordEach r env)).filterMap (·.1) = _
      rw [e2]
    · show (false || (backToKw pos (keywordEach r env)).any (·.1.isNone)) = false
      rw [e3]
      rfl
theorem bi_boot {x : Str} {b : Bi} (h : biOf x = some b) : bootBuiltins x = some b.py ∧ x ≠ "__name__" := by
  unfold biOf at h
  repeat' (split at h)
  all_goals first | (cases h; rename_i e; subst e; exact ⟨by decide +kernel, by decide +kernel⟩) | cases h
theorem ty_boot {x : Str} {n : String} (h : tyOf x = some n) : bootBuiltins x = some (.type n) ∧ x ≠ "__name__" := by
  unfold tyOf at h
  repeat' (split at h)
  all_goals first | (cases h; rename_i e; subst e; exact ⟨by decide +kernel, by decide +kernel⟩) | cases h
theorem py_bin {o : Operator} {b : BOp} (h : binOf o = some b) : b.py = o := by
  cases o <;> first | (cases h; rfl) | cases h
theorem py_cmp {o : CmpOp} {b : COp} (h : cmpOf o = some b) : b.py = o := by
  cases o <;> (cases h; rfl)
end En
set_option maxHeartbeats 4000000
/-! En19: the compiler is right: expressions. -/
namespace En
open PySem PySem.Spec PyProof.Rows L2
section
variable {W : Wd} {C : Ec} {k : Nat}
def EOk (W : Wd) (C : Ec) (k n : Nat) : Prop := ∀ Γ X wx e ir, Ctx W C k Γ X wx → compE C.t n Γ e = some ir → ∀ m, SE W wx X (ev C m ir) e ∧ ST W wx X (evT C m ir) e
def SrcOk (W : Wd) (C : Ec) (k n : Nat) : Prop := ∀ Γ X wx tg e ir, Ctx W C k Γ X wx → isSet e = false → compSrc C.t n Γ tg e = some ir → ∀ m, SI W wx X tg (srcA C m ir) e
def TgOk (W : Wd) (C : Ec) (k n : Nat) : Prop := ∀ Γ X wx e t vs, Ctx W C k Γ X wx → compTg C.t n Γ e = some t → (∀ i ∈ t.slots, i ∈ vs) → ∀ m, SG W wx X (tgA C m t) vs e
variable {Γ : Ge} {X : Cx} {wx : WX}
/-- by a plain truth of the value -/
theorem both_def {e : Expr} {ir : Ex} (hK : X.K = W.K) (h : ∀ m, SE W wx X (ev C m ir) e) (he : ∀ whole, isTrue e X.env whole = (do let v ← whole; standAt e.pos; holding [v] (truthy v))) (ht : ∀ m, evT C (m + 1) ir = (ev C m ir).bind truA) : ∀ m, SE W wx X (ev C m ir) e ∧ ST W wx X (evT C m ir) e := fun m => by
  refine ⟨h m, ?_⟩
  cases m with
  | zero => exact st_stk
  | succ m =>
    rw [ht]
    exact st_truth hK (h m) he
theorem lift0 {e : Expr} {ir : Ex} (h : ∀ m, SE W wx X (ev C (m + 1) ir) e) : ∀ m, SE W wx X (ev C m ir) e := fun m => by
  cases m with
  | zero => exact se_stk
  | succ m => exact h m
theorem liftT {e : Expr} {ir : Ex} (h : ∀ m, ST W wx X (evT C (m + 1) ir) e) : ∀ m, ST W wx X (evT C m ir) e := fun m => by
  cases m with
  | zero => exact st_stk
  | succ m => exact h m
theorem wrapE {e : Expr} {ir : Ex} {p : Pos} (h : ∀ m, SE W wx X (ev C m ir) e) : ∀ m, SE W wx X (ev C m (Γ.wrap p ir)) e := by
  unfold Ge.wrap
  split
  · exact lift0 fun m => se_sto (h m)
  · exact h
theorem wrapT {ir : Ex} {p : Pos} (h : ∀ m, evT C (m + 1) ir = (ev C m ir).bind truA) : ∀ m, evT C (m + 1) (Γ.wrap p ir) = (ev C m (Γ.wrap p ir)).bind truA := by
  unfold Ge.wrap
  split
  · exact fun m => rfl
  · exact h
theorem sa_list {n : Nat} (ih : EOk W C k n) (c : Ctx W C k Γ X wx) : ∀ {es : List Expr} {irs : List Ex}, es.all plainE = true → mapO (compE C.t n Γ) es = some irs → ∀ m, SA W wx X (seqA (fun e => (ev C m e).bind toVal) irs) es
  | [], irs, _, h, m => by
    rw [mapO_nil h]
    exact sa_nil
  | e :: es, irs, hp, h, m => by
    obtain ⟨b, bs, h1, h2, rfl⟩ := mapO_cons h
    simp only [List.all_cons, Bool.and_eq_true] at hp
    exact sa_cons (sd_of (ih Γ X wx e b c h1 m).1) (sa_list ih c hp.2 h2 m) (star_cons hp.1)
theorem sk_list {n : Nat} (ih : EOk W C k n) (c : Ctx W C k Γ X wx) : ∀ {kws : List Keyword} {irs : List Ex}, mapO (fun (q : Keyword) => compE C.t n Γ q.value) kws = some irs → ∀ m, SK W wx X (seqA (fun e => (ev C m e).bind toVal) irs) kws
  | [], irs, h, m => by
    rw [mapO_nil h]
    exact sk_nil
  | ⟨nm, e, p⟩ :: es, irs, h, m => by
    obtain ⟨b, bs, h1, h2, rfl⟩ := mapO_cons h
    exact sk_cons (sd_of (ih Γ X wx e b c h1 m).1) (sk_list ih c h2 m)
theorem kwsC_ok {f : Expr → Option Ex} {kws : List Keyword} {zs : List Ex} {ks : List Str} (h : kwsC f kws = some (zs, ks)) : mapO (fun (q : Keyword) => f q.value) kws = some zs ∧ mapO (fun (q : Keyword) => q.arg) kws = some ks := by
  unfold kwsC at h
  split at h
  · rename_i h1 h2
    cases h
    exact ⟨h1, h2⟩
  · cases h
theorem pps_list {n : Nat} (ih : EOk W C k n) (c : Ctx W C k Γ X wx) {pos : Pos} : ∀ {ks : List (Option Expr)} {vs : List Expr} {kvs : List (Ex × Ex)}, dicC (compE C.t n Γ) ks vs = some kvs → ∀ m, PPs X pos ks vs (trsP W wx (kvs.map fun p => ((ev C m p.1).bind toVal, (ev C m p.2).bind toVal))) ∧ ks.all (·.isSome) = true ∧ ks.length = vs.length ∧ kvs.length = ks.length
  | [], [], kvs, h, m => by
    cases h
    exact ⟨pps_nil, rfl, rfl, rfl⟩
  | [], _ :: _, kvs, h, m => by cases h
  | none :: _, _, kvs, h, m => by
    unfold dicC at h
    cases h
  | some _ :: _, [], kvs, h, m => by cases h
  | some a :: ks, v :: vs, kvs, h, m => by
    unfold dicC at h
    split at h
    · rename_i x y r h1 h2 h3
      cases h
      obtain ⟨k1, k2, k3, k4⟩ := pps_list ih c (pos := pos) h3 m
      refine ⟨pps_cons (sd_of (ih Γ X wx a x c h1 m).1) (sd_of (ih Γ X wx v y c h2 m).1) k1, ?_, ?_, ?_⟩
      · show (true && ks.all (·.isSome)) = true
        rw [k2]
        rfl
      · rw [List.length_cons, List.length_cons, k3]
      · rw [List.length_cons, List.length_cons, k4]
    · cases h
theorem bool_list {n : Nat} (ih : EOk W C k n) (c : Ctx W C k Γ X wx) {op : PySem.BoolOp} {pos : Pos} : ∀ {es : List Expr} {ir : Ex}, boolC (compE C.t n Γ) op es = some ir → ∀ m, SE W wx X (ev C m ir) (.BoolOp op es pos) ∧ SW W wx X (evT C m ir) (.BoolOp op es pos)
  | [], ir, h, m => by cases h
  | [a], ir, h, m => by
    have h1 : compE C.t n Γ a = some ir := h
    obtain ⟨p1, p2⟩ := ih Γ X wx a ir c h1 m
    refine ⟨pe_one p1, ?_⟩
    cases op with
    | And => exact sw_and1 p2
    | Or => exact sw_or1 p2
  | a :: b :: r, ir, h, m => by
    have h' : (match compE C.t n Γ a, boolC (compE C.t n Γ) op (b :: r) with
      | some x, some y => some (boolX op x y)
      | _, _ => none) = some ir := h
    split at h'
    · rename_i x y h1 h2
      cases m with
      | zero =>
        cases h'
        exact ⟨se_stk, ⟨fun whole pins s σ H Q I h => absurd h tX_stk⟩⟩
      | succ m =>
        obtain ⟨p1, p2⟩ := ih Γ X wx a x c h1 m
        obtain ⟨q1, q2⟩ := bool_list ih c (pos := pos) h2 m
        cases op with
        | And =>
          cases h'
          exact ⟨se_and c.hK p1 q1, sw_and p2 q2⟩
        | Or =>
          cases h'
          exact ⟨se_or c.hK p1 q1, sw_or p2 q2⟩
    · cases h'
theorem so_opt {n : Nat} (ih : EOk W C k n) (c : Ctx W C k Γ X wx) {o : Option Expr} {ir : Option Ex} (h : optC (compE C.t n Γ) o = some ir) (m : Nat) : SO W wx X (optA (fun e => (ev C m e).bind intA) ir) o := by
  cases o with
  | none =>
    cases h
    exact so_none
  | some e =>
    obtain ⟨x, h1, rfl⟩ := Option.map_eq_some_iff.mp h
    exact so_some (ih Γ X wx e x c h1 m).1
/-- a method call on one line -/
theorem mcall_eq {o : Expr} {name : Str} {es : List Expr} {kws : List Keyword} {apos pos : Pos} {env : Env} {ks : List Str} (ha : attOk o = true) (hl : (apos.endLine == pos.line) = true) (hn : es.length + kws.length < 28) (hp : es.all plainE = true) (hk : mapO (fun (q : Keyword) => q.arg) kws = some ks) :
    eval (.Call (.Attribute o name apos) es kws pos) env = (do
      let ov ← eval o env
      standAt apos.atName
      let (f, first) ← holding [ov] (getMethod ov name (plainOf o env))
      callWith pos f first (backTo pos (starEach es env)) (backToKw pos (keywordEach kws env))) := by
  have hf : methodCallForm (es.length + kws.length) (backTo pos (starEach es env)) (backToKw pos (keywordEach kws env)) = true := by
    unfold methodCallForm
    have h1 : (backTo pos (starEach es env)).all (!·.1) = true := by
      rw [List.all_eq_true]
      intro x hx
      have := star_false (env := env) (pos := pos) hp
      rw [List.any_eq_false] at this
      simpa using this x hx
    rw [h1, (kws_all hk).1]
    simp only [Bool.and_self, Bool.true_and, decide_eq_true_eq]
    split <;> omega
  rw [arm_eval_Call, attB_ok ha]
  simp only [mcall_line hf hl]
theorem mt_ok {X : Cx} {W : Wd} {wx : WX} (hK : X.K = W.K) (hu : X.A.units + 64 < cLine) {name : Str} {t : Mt} (h : mtOf name = some t) : ∃ id, PlainAttrs (mtTy t) ∧ Slot (mtTy t) name id ∧ typeOf (.builtin id) = pure (.type "method_descriptor") ∧ MtR X id (rMth W wx t) := by
  unfold mtOf at h
  repeat' (split at h)
  all_goals (first | (cases h; rename_i e; subst e) | cases h)
  · exact ⟨_, F.plainAttrs_list, F.slot_list_append, F.type_list_append, mtr_append⟩
  · exact ⟨_, F.plainAttrs_list, F.slot_list_pop, F.type_list_pop, mtr_pop⟩
  · exact ⟨_, F.plainAttrs_list, F.slot_list_extend, F.type_list_extend, mtr_extend⟩
  · exact ⟨_, F.plainAttrs_str, F.slot_str_upper, F.type_str_upper, mtr_upper⟩
  · exact ⟨_, F.plainAttrs_str, F.slot_str_split, F.type_str_split, mtr_split⟩
  · exact ⟨_, F.plainAttrs_str, F.slot_str_join, F.type_str_join, mtr_join hK⟩
  · exact ⟨_, F.plainAttrs_dict, F.slot_dict_get, F.type_dict_get, mtr_get hu⟩
theorem own_ok {Γ : Ge} {scope : Scope} {X : Cx} (hN : X.N = Γ.N) (hs : X.env.scope = Γ.sc) (h : blkC Γ.N Γ.sc scope (ownOf Γ.N scope) = true) : BlkOk X.N X.env.scope scope (ownOf Γ.N scope) := by
  rw [hN, hs]
  exact blkOk_by h
theorem call_step {n : Nat} {x : Str} {p pos : Pos} {es : List Expr} {kws : List Keyword} {xs zs : List Ex} {ks : List Str} {i : Nat} {sl : List Sl} (ih : EOk W C k n) (c : Ctx W C k Γ X wx) (hnm : nmOk x = true) (hgl : Γ.glob x = true) (hp : es.all plainE = true)
    (h1 : mapO (compE C.t n Γ) es = some xs) (h2 : mapO (fun (q : Keyword) => compE C.t n Γ q.value) kws = some zs) (h3 : mapO (fun (q : Keyword) => q.arg) kws = some ks) (hg : C.t.gl x = some (.fn i)) (hb : C.t.bnd i es.length ks = some sl) (m : Nat) :
    SE W wx X (ev C (m + 1) (.call i xs zs sl)) (.Call (.Name x p) es kws pos) := by
  obtain ⟨fd, ps, F, cb, hk⟩ := c.wo.fns i _ _ _ hb
  obtain ⟨k1, k2, k3⟩ := kws_all (env := X.env) (pos := pos) h3
  have hz : zs.length = ks.length := (mapO_len h2).trans (mapO_len h3).symm
  have hx : xs.length = es.length := mapO_len h1
  have q := se_call (x := x) (p := p) (pos := pos) (W := W) (wx := wx) (X := X) (k := k + 1) (f := W.fa i) (fd := fd) (ps := ps) (ks := ks) (np := ps.length) (n := es.length) (c := C.call i) (sl := sl) (by rw [c.hK]; exact F) rfl c.room c.tk (c.gl1 hgl) (c.wo.glf x i hg) (by rw [c.hK]; exact hk) (by rw [c.hK]; exact cb)
    (sa_list ih c hp h1 m) (sk_list ih c h2 m) (nmOk_ok hnm).1 k1 k2 (fun e => by
      subst e
      rw [mapO_nil h1]
      rfl) (fun e es' e' => by
      subst e'
      simp only [List.all_cons, Bool.and_eq_true] at hp
      exact star_cons hp.1) (by rw [star_false hp, k3]; rfl)
  rw [← hx, ← hz] at q
  exact q
theorem mtd_step {n : Nat} {nm : Str} {apos pos : Pos} {o : Expr} {es : List Expr} {kws : List Keyword} {y : Ex} {xs zs : List Ex} {ks : List Str} (ih : EOk W C k n) (c : Ctx W C k Γ X wx) (hp : es.all plainE = true)
    (h0 : compE C.t n Γ o = some y) (h1 : mapO (compE C.t n Γ) es = some xs) (h2 : mapO (fun (q : Keyword) => compE C.t n Γ q.value) kws = some zs) (h3 : mapO (fun (q : Keyword) => q.arg) kws = some ks) (ha : attOk o = true) (hl : (apos.endLine == pos.line) = true) (hn : es.length + kws.length < 28) (m : Nat) :
    SE W wx X (ev C (m + 1) (.mtd y nm xs zs ks)) (.Call (.Attribute o nm apos) es kws pos) := by
  obtain ⟨k1, k2, k3⟩ := kws_all (env := X.env) (pos := pos) h3
  have hx : xs.length = es.length := mapO_len h1
  have ok : DispOk W X (k + 1) es.length ks nm (C.disp nm es.length ks) := by
    intro cc sl call hd
    unfold Ec.disp at hd
    obtain ⟨f, e1, e2⟩ := Option.bind_eq_some_iff.mp hd
    obtain ⟨sl', e3, e4⟩ := Option.map_eq_some_iff.mp e2
    cases e4
    obtain ⟨fd, ps, F, cb, hk⟩ := c.wo.fns f _ _ _ e3
    obtain ⟨m1, m2⟩ := c.wo.meth cc nm f e1
    rw [← c.hK] at m1 m2 F cb
    exact ⟨W.fa f, fd, ps, ps.length, m1, m2, F, rfl, cb⟩
  have q := se_mtd (W := W) (wx := wx) (X := X) (k := k + 1) (n := es.length) (ks := ks) (m := nm) (apos := apos) (pos := pos) (disp := C.disp nm es.length ks) ok c.room c.tk (ih Γ X wx o y c h0 m).1
    (sa_list ih c hp h1 m) (sk_list ih c h2 m) k1 k2 (fun e => by
      subst e
      rw [mapO_nil h1]
      rfl) (fun e es' e' => by
      subst e'
      simp only [List.all_cons, Bool.and_eq_true] at hp
      exact star_cons hp.1) (by rw [star_false hp, k3]; rfl) (mcall_eq ha hl hn hp h3)
  rw [← hx] at q
  exact q
theorem mth_step {n : Nat} {nm : Str} {apos pos : Pos} {o : Expr} {es : List Expr} {y : Ex} {xs : List Ex} {t : Mt} (ih : EOk W C k n) (c : Ctx W C k Γ X wx) (hp : es.all plainE = true)
    (h0 : compE C.t n Γ o = some y) (h1 : mapO (compE C.t n Γ) es = some xs) (ha : attOk o = true) (hl : (apos.endLine == pos.line) = true) (hn : es.length < 28) (ht : mtOf nm = some t) (m : Nat) :
    SE W wx X (ev C (m + 1) (.mth y t xs)) (.Call (.Attribute o nm apos) es [] pos) := by
  obtain ⟨id, t1, t2, t3, t4⟩ := mt_ok (X := X) (W := W) (wx := wx) c.hK c.room.room.units ht
  cases es with
  | nil =>
    have hx := mapO_nil h1
    subst hx
    exact se_mth0 c.hK t1 t2 t3 t4 (ih Γ X wx o y c h0 m).1 (attB_ok ha) hl
  | cons e es =>
    have hp' := hp
    simp only [List.all_cons, Bool.and_eq_true] at hp'
    refine se_mth c.hK t1 t2 t3 t4 (ih Γ X wx o y c h0 m).1 (sa_list ih c hp h1 m) (attB_ok ha) ?_ hl (star_cons hp'.1) (star_false hp'.2)
    have hf : (backTo pos (starEach (e :: es) X.env)).all (fun x => !x.1) = true := by
      rw [List.all_eq_true]
      intro x hx
      have := star_false (env := X.env) (pos := pos) hp
      rw [List.any_eq_false] at this
      simpa using this x hx
    rw [hf]
    simp only [Bool.true_and, Bool.and_eq_true, decide_eq_true_eq]
    refine ⟨rfl, ?_⟩
    have : (e :: es).length < 28 := hn
    simp only [List.length_cons, List.length_nil, List.isEmpty_nil, if_true] at this ⊢
    omega
theorem bi_step {n : Nat} {x : Str} {p pos : Pos} {es : List Expr} {b : Bi} {a : Ex} {r : List Ex} (ih : EOk W C k n) (c : Ctx W C k Γ X wx) (hnm : nmOk x = true) (hgl : Γ.glob x = true) (hp : es.all plainE = true)
    (h1 : mapO (compE C.t n Γ) es = some (a :: r)) (hbl : C.t.bl x = true) (hb : biOf x = some b) (m : Nat) : SE W wx X (ev C (m + 1) (.bi b a r)) (.Call (.Name x p) es [] pos) := by
  cases es with
  | nil => cases h1
  | cons e es =>
    obtain ⟨a', r', e1, e2, e3⟩ := mapO_cons h1
    cases e3
    simp only [List.all_cons, Bool.and_eq_true] at hp
    obtain ⟨b1, b2⟩ := bi_boot hb
    exact se_bi c.hK c.wo.wk c.calm c.room.gd c.un (c.gl1 hgl) (c.wo.bl x hbl) b1 (ih Γ X wx e a c e1 m).1 (sa_list ih c hp.2 e2 m) b2 (nmOk_ok hnm).1 (star_cons hp.1) (star_false hp.2)
theorem lc_step {n : Nat} {elt tg iter : Expr} {ifs : List Expr} {scope : Scope} {pos : Pos} {src : Src} {t : Tg} {x : Ex} {cond : Option Ex} (hE : EOk W C k n) (hS : SrcOk W C k n) (hT : TgOk W C k n) (c : Ctx W C k Γ X wx)
    (hb : blkC Γ.N Γ.sc scope (ownOf Γ.N scope) = true) (hi : isSet iter = false) (h1 : compSrc C.t n Γ tg iter = some src) (h2 : compTg C.t n (Γ.blk scope) tg = some t) (h3 : compE C.t n (Γ.blk scope) elt = some x)
    (ht : t.slots.all (fun i => ((ownOf Γ.N scope).map (·.2)).contains i) = true) (hc : (ifs = [] ∧ cond = none) ∨ ∃ e z, ifs = [e] ∧ cond = some z ∧ compE C.t n (Γ.blk scope) e = some z) (m : Nat) :
    SE W wx X (ev C (m + 1) (.lc x t src cond ((ownOf Γ.N scope).map (·.2)))) (.ListComp elt [⟨tg, iter, ifs, 0⟩] scope pos) := by
  refine se_lc c.calm c.nd (hS Γ X wx tg iter src c hi h1 m) (own_ok c.hN c.sc hb) (fun s H Ca cl fp => hT _ _ _ tg t _ (c.blk scope s H Ca cl fp) h2 (fun i h => ?_) m) (fun s H Ca cl fp => ?_) (fun s H Ca cl fp => sd_of (hE _ _ _ elt x (c.blk scope s H Ca cl fp) h3 m).1) (foldS_ok hi)
  · rw [List.all_eq_true] at ht
    simpa using ht i h
  · rcases hc with ⟨rfl, rfl⟩ | ⟨e, z, rfl, rfl, hz⟩
    · exact ⟨fun pins s σ H Q I h => pts_nil.run pins s σ H Q I (by
        obtain ⟨g, P, st, r, q⟩ := h
        exact q g H (.refl g) r true rfl)⟩
    · exact pts_one (hE _ _ _ e z (c.blk scope s H Ca cl fp) hz m).2
theorem st_ite {c a b : Expr} {mc ma mb : Ac Bool} {pos : Pos} (pc : ST W wx X mc c) (pa : ST W wx X ma a) (pb : ST W wx X mb b) : ST W wx X (mc.bind fun k => if k then ma else mb) (.IfExp c a b pos) := ⟨fun pins s σ H Q I h => by
  have h2 := tb_ite h
  refine isTrue_IfExp (thn (pc.run pins s σ H _ I h2) fun d s1 ⟨H1, I1, q1⟩ => ?_)
  cases d with
  | true => exact pa.run pins s1 σ H1 Q I1 q1
  | false => exact pb.run pins s1 σ H1 Q I1 q1⟩
theorem e_step {n : Nat} (hE : EOk W C k n) (hS : SrcOk W C k n) (hT : TgOk W C k n) : EOk W C k (n + 1) := by
  intro Γ X wx e ir c h
  unfold compE at h
  split at h
  · cases h
    exact both_def c.hK (lift0 fun m => se_con pe_non fun g => .non) (fun _ => rfl) fun _ => rfl
  · cases h
    exact both_def c.hK (lift0 fun m => se_con pe_bl fun g => .bl _) (fun _ => rfl) fun _ => rfl
  · cases h
    exact both_def c.hK (lift0 fun m => se_con pe_int fun g => .int _) (fun _ => rfl) fun _ => rfl
  · cases h
    exact both_def c.hK (lift0 fun m => se_con pe_str fun g => .str _) (fun _ => rfl) fun _ => rfl
  · -- a name
    rename_i x p
    split at h
    · rename_i hnm
      obtain ⟨n1, n2⟩ := nmOk_ok hnm
      split at h
      · rename_i hgl
        split at h
        · rename_i d hg
          cases h
          obtain ⟨u, v, e1, e2, e3⟩ := c.wo.gl x d hg
          exact both_def c.hK (lift0 fun m => se_glob (c.gl1 hgl) e1 e2 e3 n1) (fun _ => rfl) fun _ => rfl
        · rename_i cc hg
          cases h
          exact both_def c.hK (lift0 fun m => se_glob (c.gl1 hgl) (c.wo.glc x cc hg) (v := .ref (W.ca cc)) rfl (fun g => .cls cc) n1) (fun _ => rfl) fun _ => rfl
        · cases h
        · split at h
          · rename_i hbl
            obtain ⟨ty, e1, rfl⟩ := Option.map_eq_some_iff.mp h
            obtain ⟨b1, b2⟩ := ty_boot e1
            exact both_def c.hK (lift0 fun m => se_bltn (c.gl1 hgl) (c.wo.bl x hbl) b1 (v := .ty ty) rfl (fun g => .ty ty) b2 n1) (fun _ => rfl) fun _ => rfl
          · cases h
      · split at h
        · rename_i hv
          obtain ⟨i, e1, rfl⟩ := Option.map_eq_some_iff.mp h
          exact both_def c.hK (lift0 fun m => se_var (by rw [c.hN]; exact ixOf_ok e1) (c.vis1 hv) n1 n2) (fun _ => rfl) fun _ => rfl
        · cases h
    · cases h
  · -- a tuple
    split at h
    · rename_i hp
      obtain ⟨irs, e1, rfl⟩ := Option.map_eq_some_iff.mp h
      exact both_def c.hK (lift0 fun m => se_tup (sa_list hE c hp e1 m)) (fun _ => rfl) fun _ => rfl
    · cases h
  · split at h
    · rename_i hp
      obtain ⟨irs, e1, rfl⟩ := Option.map_eq_some_iff.mp h
      exact both_def c.hK (wrapE (lift0 fun m => se_lst (sa_list hE c hp e1 m))) (fun _ => rfl) (wrapT fun _ => rfl)
    · cases h
  · -- a dict
    rename_i ks vs pos
    split at h
    · rename_i h15
      obtain ⟨kvs, e1, rfl⟩ := Option.map_eq_some_iff.mp h
      refine both_def c.hK (wrapE (lift0 fun m => ?_)) (fun _ => rfl) (wrapT fun _ => rfl)
      obtain ⟨k1, k2, k3, k4⟩ := pps_list hE c (pos := pos) e1 m
      cases ks with
      | nil =>
        cases vs with
        | nil =>
          cases e1
          exact se_dic0
        | cons _ _ => cases e1
      | cons a ks =>
        cases kvs with
        | nil => cases k4
        | cons p kvs => exact se_dic k1 k2 k3 (fun z => by cases z) h15
    · cases h
  · -- arithmetic
    split at h
    · rename_i o x y h1 h2 h3
      cases h
      rw [← py_bin h1]
      exact both_def c.hK (lift0 fun m => se_bin c.hK o (hE Γ X wx _ x c h2 m).1 (hE Γ X wx _ y c h3 m).1) (fun _ => rfl) fun _ => rfl
    · cases h
  · -- not
    obtain ⟨x, e1, rfl⟩ := Option.map_eq_some_iff.mp h
    exact fun m => ⟨lift0 (fun m => se_not c.hK (hE Γ X wx _ x c e1 m).1) m, liftT (fun m => st_not (hE Γ X wx _ x c e1 m).2) m⟩
  · obtain ⟨x, e1, rfl⟩ := Option.map_eq_some_iff.mp h
    exact both_def c.hK (lift0 fun m => se_neg (hE Γ X wx _ x c e1 m).1) (fun _ => rfl) fun _ => rfl
  · -- and, or
    exact fun m => ⟨(bool_list hE c h m).1, (bool_list hE c h m).2.pt⟩
  · -- if else
    split at h
    · rename_i z x y h1 h2 h3
      cases h
      exact fun m => ⟨lift0 (fun m => se_ite (hE Γ X wx _ z c h1 m).2 (hE Γ X wx _ x c h2 m).1 (hE Γ X wx _ y c h3 m).1) m, liftT (fun m => st_ite (hE Γ X wx _ z c h1 m).2 (hE Γ X wx _ x c h2 m).2 (hE Γ X wx _ y c h3 m).2) m⟩
    · cases h
  · -- comparisons
    split at h
    · cases h
    · rename_i hs
      rw [Bool.not_eq_true] at hs
      split at h
      · rename_i o x y h1 h2 h3
        cases h
        rw [← py_cmp h1]
        exact fun m => ⟨lift0 (fun m => se_cmp c.hK c.room.room.units o (hE Γ X wx _ x c h2 m).1 (hE Γ X wx _ y c h3 m).1 (marks_ok hs)) m, by
          cases m with
          | zero => exact st_stk
          | succ m =>
            cases m with
            | zero => exact ⟨fun pins s σ H Q I h => absurd h tX_stk⟩
            | succ m => exact st_cmp c.hK c.room.room.units o (hE Γ X wx _ x c h2 m).1 (hE Γ X wx _ y c h3 m).1 (marks_ok hs)⟩
      · cases h
  · split at h
    · cases h
    · rename_i hs
      rw [Bool.not_eq_true] at hs
      split at h
      · rename_i o o' x y z h1 h2 h3 h4 h5
        cases h
        rw [← py_cmp h1, ← py_cmp h2]
        have hm : ∀ {b : Expr}, lastMarks [o.py, o'.py] [b, _] = false := fun {b} => marks_ok hs
        exact fun m => ⟨lift0 (fun m => se_chn c.hK c.room.room.units o o' (hE Γ X wx _ x c h3 m).1 (sd_of (hE Γ X wx _ y c h4 m).1) (hE Γ X wx _ z c h5 m).1 hm) m, by
          cases m with
          | zero => exact st_stk
          | succ m =>
            cases m with
            | zero => exact ⟨fun pins s σ H Q I h => absurd h tX_stk⟩
            | succ m => exact st_chn c.hK c.room.room.units o o' (hE Γ X wx _ x c h3 m).1 (sd_of (hE Γ X wx _ y c h4 m).1) (hE Γ X wx _ z c h5 m).1 hm⟩
      · cases h
  · -- attributes
    split at h
    · rename_i ha
      split at h
      · obtain ⟨x, e1, rfl⟩ := Option.map_eq_some_iff.mp h
        exact both_def c.hK (lift0 fun m => se_att c.hK c.wo.flds (hE Γ X wx _ x c e1 m).1 (attB_ok ha)) (fun _ => rfl) fun _ => rfl
      · split at h
        · obtain ⟨x, e1, rfl⟩ := Option.map_eq_some_iff.mp h
          refine both_def c.hK (lift0 fun m => se_prop (k := k) ?_ c.room (hE Γ X wx _ x c e1 m).1 (attB_ok ha)) (fun _ => rfl) fun _ => rfl
          intro cc call hd
          obtain ⟨f, e2, rfl⟩ := Option.map_eq_some_iff.mp hd
          obtain ⟨m1, ⟨p, m2⟩, fd, ps, F, hl, hb⟩ := c.wo.prop cc _ f e2
          rw [← c.hK] at m1 m2 F hb
          exact ⟨p, W.fa f, fd, ps, m1, m2, F, hl, hb⟩
        · cases h
    · cases h
  · obtain ⟨x, e1, rfl⟩ := Option.map_eq_some_iff.mp h
    exact both_def c.hK (lift0 fun m => se_rev (hE Γ X wx _ x c e1 m).1) (fun _ => rfl) fun _ => rfl
  · split at h
    · rename_i x l hh h1 h2 h3
      cases h
      exact both_def c.hK (lift0 fun m => se_slc c.hK (hE Γ X wx _ x c h1 m).1 (so_opt hE c h2 m) (so_opt hE c h3 m)) (fun _ => rfl) fun _ => rfl
    · cases h
  · split at h
    · rename_i hp
      split at h
      · rename_i x y h1 h2
        cases h
        exact both_def c.hK (lift0 fun m => se_sub c.hK c.room.room.units (hE Γ X wx _ x c h1 m).1 (hE Γ X wx _ y c h2 m).1 (plainIx_ok hp)) (fun _ => rfl) fun _ => rfl
      · cases h
    · cases h
  · -- comprehensions
    split at h
    · rename_i hb
      simp only [Bool.and_eq_true, Bool.not_eq_true'] at hb
      split at h
      · rename_i src t x h1 h2 h3
        split at h
        · rename_i ht
          split at h
          · cases h
            exact both_def c.hK (lift0 fun m => lc_step hE hS hT c hb.1 hb.2 h1 h2 h3 ht (.inl ⟨rfl, rfl⟩) m) (fun _ => rfl) fun _ => rfl
          · obtain ⟨z, e1, rfl⟩ := Option.map_eq_some_iff.mp h
            exact both_def c.hK (lift0 fun m => lc_step hE hS hT c hb.1 hb.2 h1 h2 h3 ht (.inr ⟨_, z, rfl, rfl, e1⟩) m) (fun _ => rfl) fun _ => rfl
          · cases h
        · cases h
      · cases h
    · cases h
  · -- calls
    split at h
    · rename_i hp
      split at h
      · rename_i xs zs ks h1 h2
        obtain ⟨h3, h4⟩ := kwsC_ok h2
        split at h
        · split at h
          · rename_i hg
            simp only [Bool.and_eq_true] at hg
            split at h
            · rename_i i hf
              obtain ⟨sl, e1, rfl⟩ := Option.map_eq_some_iff.mp h
              exact both_def c.hK (lift0 fun m => call_step hE c hg.1 hg.2 hp h1 h3 h4 hf e1 m) (fun _ => rfl) fun _ => rfl
            · cases h
            · split at h
              · rename_i hb
                simp only [Bool.and_eq_true, List.isEmpty_iff] at hb
                obtain ⟨hb1, rfl⟩ := hb
                split at h
                · rename_i b a r e1
                  cases h
                  exact both_def c.hK (lift0 fun m => bi_step hE c hg.1 hg.2 hp h1 hb1 e1 m) (fun _ => rfl) fun _ => rfl
                · cases h
              · cases h
          · cases h
        · split at h
          · rename_i y h0
            split at h
            · rename_i hc
              simp only [Bool.and_eq_true, decide_eq_true_eq] at hc
              obtain ⟨⟨hc1, hc2⟩, hc3⟩ := hc
              split at h
              · cases h
                exact both_def c.hK (lift0 fun m => mtd_step hE c hp h0 h1 h3 h4 hc1 hc2 hc3 m) (fun _ => rfl) fun _ => rfl
              · split at h
                · rename_i hk
                  rw [List.isEmpty_iff] at hk
                  subst hk
                  obtain ⟨t, e1, rfl⟩ := Option.map_eq_some_iff.mp h
                  exact both_def c.hK (lift0 fun m => mth_step hE c hp h0 h1 hc1 hc2 hc3 e1 m) (fun _ => rfl) fun _ => rfl
                · cases h
            · cases h
          · cases h
        · cases h
      · cases h
    · cases h
  · cases h
end
end En
set_option maxHeartbeats 4000000
/-! En20: the compiler is right: sources, targets, statements. -/
namespace En
open PySem PySem.Spec PyProof.Rows L2
section
variable {W : Wd} {C : Ec} {k : Nat} {Γ : Ge} {X : Cx} {wx : WX}
theorem liftI {tg e : Expr} {ir : Src} (h : ∀ m, SI W wx X tg (srcA C (m + 1) ir) e) : ∀ m, SI W wx X tg (srcA C m ir) e := fun m => by
  cases m with
  | zero => exact si_stk
  | succ m => exact h m
theorem star1 {a : Expr} {env : Env} (h : plainE a = true) : starEach [a] env = [(false, eval a env)] := by
  rw [star_cons h]
  rfl
theorem s_step {n : Nat} (hE : EOk W C k n) : SrcOk W C k (n + 1) := by
  intro Γ X wx tg e ir c hs h
  unfold compSrc at h
  have any : ∀ {e : Expr}, (compE C.t n Γ e).map Src.ex = some ir → ∀ m, SI W wx X tg (srcA C m ir) e := fun {e} h => by
    obtain ⟨x, e1, rfl⟩ := Option.map_eq_some_iff.mp h
    exact liftI fun m => si_any c.hK (hE Γ X wx _ x c e1 m).1
  split at h
  · rename_i x p a pos
    split at h
    · rename_i ex
      subst ex
      split at h
      · rename_i hc
        simp only [Bool.and_eq_true] at hc
        obtain ⟨⟨c1, c2⟩, c3⟩ := hc
        obtain ⟨y, e1, rfl⟩ := Option.map_eq_some_iff.mp h
        exact liftI fun m => si_rng1 (c.gl1 c1) (c.wo.bl _ c2) (sd_of (hE Γ X wx a y c e1 m).1) (star1 c3)
      · cases h
    · split at h
      · rename_i ex
        subst ex
        split at h
        · split at h
          · rename_i hc
            simp only [Bool.and_eq_true] at hc
            obtain ⟨⟨c1, c2⟩, c3⟩ := hc
            obtain ⟨y, e1, rfl⟩ := Option.map_eq_some_iff.mp h
            exact liftI fun m => si_enum (c.gl1 c1) (c.wo.bl _ c2) (sd_of (hE Γ X wx a y c e1 m).1) (star1 c3)
          · cases h
        · cases h
      · exact any h
  · rename_i x p a b pos
    split at h
    · rename_i ex
      subst ex
      split at h
      · rename_i hc
        simp only [Bool.and_eq_true] at hc
        obtain ⟨⟨⟨c1, c2⟩, c3⟩, c4⟩ := hc
        split at h
        · rename_i y z h1 h2
          cases h
          exact liftI fun m => si_rng2 (c.gl1 c1) (c.wo.bl _ c2) (sd_of (hE Γ X wx a y c h1 m).1) (sd_of (hE Γ X wx b z c h2 m).1) (by rw [star_cons c3, star1 c4]) (star1 c4)
        · cases h
      · cases h
    · split at h
      · rename_i ex
        subst ex
        split at h
        · split at h
          · rename_i hc
            simp only [Bool.and_eq_true] at hc
            obtain ⟨⟨⟨c1, c2⟩, c3⟩, c4⟩ := hc
            split at h
            · rename_i y z h1 h2
              cases h
              exact liftI fun m => si_zip (c.gl1 c1) (c.wo.bl _ c2) (sd_of (hE Γ X wx a y c h1 m).1) (sd_of (hE Γ X wx b z c h2 m).1) (star_cons c3) (star_cons c4) (by rw [star1 c4]; rfl)
            · cases h
          · cases h
        · cases h
      · exact any h
  · exact any h
theorem asg_len : ∀ {es : List Expr} {env : Env}, es.all plainE = true → (assignEach es env).length = es.length ∧ (assignEach es env).findIdx? (·.1) = none
  | [], _, _ => ⟨rfl, rfl⟩
  | e :: es, env, h => by
    simp only [List.all_cons, Bool.and_eq_true] at h
    obtain ⟨h1, h2⟩ := asg_len (env := env) h.2
    have e0 : assignEach (e :: es) env = (false, assign e env) :: assignEach es env := by
      have hp := h.1
      cases e <;> first | rfl | cases hp
    rw [e0]
    refine ⟨congrArg (· + 1) h1, ?_⟩
    rw [List.findIdx?_cons, h2]
    rfl
theorem asg_map {e : Expr} {es : List Expr} {env : Env} (h : plainE e = true) : (assignEach (e :: es) env).map (·.2) = assign e env :: (assignEach es env).map (·.2) := by
  cases e <;> first | rfl | cases h
theorem tgs_list {n : Nat} (hT : TgOk W C k n) (c : Ctx W C k Γ X wx) {vs : List Nat} : ∀ {es : List Expr} {ts : List Tg}, es.all plainE = true → mapO (compTg C.t n Γ) es = some ts → (∀ i ∈ Tg.slotss ts, i ∈ vs) → ∀ m, SGs W wx X (tgsA (fun t => tgA C m t) ts) vs es
  | [], ts, _, h, _, m => by
    rw [mapO_nil h]
    exact sgs_nil
  | e :: es, ts, hp, h, hv, m => by
    obtain ⟨b, bs, h1, h2, rfl⟩ := mapO_cons h
    simp only [List.all_cons, Bool.and_eq_true] at hp
    have hv' : ∀ i ∈ b.slots ++ Tg.slotss bs, i ∈ vs := hv
    exact sgs_cons (hT Γ X wx e b vs c h1 (fun i hi => hv' i (List.mem_append_left _ hi)) m) (tgs_list hT c hp.2 h2 (fun i hi => hv' i (List.mem_append_right _ hi)) m) (asg_map hp.1)
theorem t_step {n : Nat} (hE : EOk W C k n) (hT : TgOk W C k n) : TgOk W C k (n + 1) := by
  intro Γ X wx e t vs c h hv m
  cases m with
  | zero =>
    unfold tgA
    exact sg_stk
  | succ m =>
    unfold compTg at h
    split at h
    · rename_i x p
      split at h
      · rename_i hl
        obtain ⟨i, e1, rfl⟩ := Option.map_eq_some_iff.mp h
        obtain ⟨l1, l2⟩ := c.loc1 hl
        exact sg_name (hv i (List.mem_singleton.mpr rfl)) c.nd (by rw [c.hN]; exact ixOf_ok e1) l1 l2
      · cases h
    · rename_i es kk pos
      split at h
      · rename_i hp
        obtain ⟨ts, e1, rfl⟩ := Option.map_eq_some_iff.mp h
        obtain ⟨a1, a2⟩ := asg_len (env := X.env) hp
        exact sg_tup c.hK c.calm (tgs_list hT c hp e1 hv m) (a1.trans (mapO_len e1).symm) a2
      · cases h
    · rename_i o i pos
      split at h
      · rename_i hp
        split at h
        · rename_i x y h1 h2
          cases h
          refine sg_sub c.room.room.units (hE Γ X wx o x c h1 m).1 (hE Γ X wx i y c h2 m).1 fun v => ?_
          cases i <;> first | rfl | cases hp
        · cases h
      · cases h
    · cases h
theorem all_ok (n : Nat) : EOk W C k n ∧ SrcOk W C k n ∧ TgOk W C k n := by
  induction n with
  | zero =>
    refine ⟨?_, ?_, ?_⟩
    · intro Γ X wx e ir c h
      cases h
    · intro Γ X wx tg e ir c _ h
      cases h
    · intro Γ X wx e t vs c h
      cases h
  | succ n ih =>
    obtain ⟨h1, h2, h3⟩ := ih
    exact ⟨e_step h1 h2 h3, s_step h1, t_step h1 h3⟩
end
/-! ### statements -/
def fnK (sc : Scope) : Bool := (if sc.kind.isAnnotationScope then ScopeKind.function else sc.kind) == .function
/-- whether a comprehension is stored ahead of its own names -/
def swB (Γ : Ge) (e tg : Expr) : Bool := match e, tg with
  | .ListComp elt gens sc p, .Name t pos => fnK Γ.sc && Γ.sc.names.lookup t == some .local && pos.line == p.line && !(sc.names.any fun (n, k) => n == t && (k == .local || k == .cell))
  | _, _ => false
def isTL : Expr → Bool
  | .Tuple .. => true
  | .List .. => true
  | _ => false
def nameOf : Expr → Option (Str × Nat)
  | .Name x p => some (x, p.line)
  | _ => none
/-- names of a plain exchange -/
def parN (Γ : Ge) (ts vs : List Expr) : Option (List Str) := match mapO nameOf ts with
  | some ((x, l) :: r) => if (!vs.all (constantsAlone 8)) && (!vs.all (foldedForSure 8)) && vs.all plainE && decide (vs.length = ts.length) && (decide (ts.length = 2) || decide (ts.length = 3)) && fnK Γ.sc && ((x, l) :: r).all (fun p => Γ.sc.names.lookup p.1 == some .local && p.2 == l) && decide (((x, l) :: r).map (·.1)).Nodup then some (((x, l) :: r).map (·.1)) else none
  | _ => none
/-- a tuple that is unpacked in the usual way -/
def tupOk (Γ : Ge) (ts vs : List Expr) : Bool := (ts.any fun t => (nameOf t).isNone) && decide (vs.length = ts.length)
mutual
def compS (tb : Tb) : Nat → Ge → Stmt → Option Sm
  | 0, _, _ => none
  | n + 1, Γ, st => match st with
    | .Pass _ => some .pas
    | .Break _ => some .brk
    | .Continue _ => some .cnt
    | .Expr (.Constant (.str _) _ _) _ => some .pas
    | .Expr e _ => if isLc e then none else (compE tb n Γ e).map .exp
    | .Return none _ => some (.ret none)
    | .Return (some e) _ => (compE tb n Γ e).map fun x => .ret (some x)
    | .If c a b _ => match compE tb n Γ c, compSs tb n Γ a, compSs tb n Γ b with
      | some x, some y, some z => some (.ife x y z)
      | _, _, _ => none
    | .While c b [] _ => match compE tb n Γ c, compSs tb n Γ b with
      | some x, some y => some (.whl x y)
      | _, _ => none
    | .For tg it b els _ => if isSet it then none else match compSrc tb n Γ tg it, compTg tb n Γ tg, compSs tb n Γ b, compSs tb n Γ els with
      | some src, some t, some x, some y => some (.for t src x y)
      | _, _, _, _ => none
    | .AugAssign (.Name x _) op e _ => if Γ.loc x then (match binOf op, ixOf x Γ.N, compE tb n Γ e with
      | some .add, some i, some y => some (.aug i .add y)
      | some .sub, some i, some y => some (.aug i .sub y)
      | _, _, _ => none) else none
    | .Assign [.Name x p] e _ => if Γ.loc x then (match ixOf x Γ.N, compE tb n Γ e with
      | some i, some y => if isLc e then (if swB Γ e (.Name x p) && Γ.isl x then some (.asg (.slot i) y) else none) else some (.asg (.slot i) y)
      | _, _ => none) else none
    | .Assign [.Subscript o i p] e _ => if plainE i && !isLc e then (match compTg tb n Γ (.Subscript o i p), compE tb n Γ e with
      | some t, some y => some (.asg t y)
      | _, _ => none) else none
    | .Assign [.Attribute o f _] e _ => if !isLc e then (match compE tb n Γ o, compE tb n Γ e with
      | some x, some y => some (.att x f y)
      | _, _ => none) else none
    | .Assign [.Tuple ts tk tp] (.Tuple vs vk vp) _ => if tupOk Γ ts vs then (match compTg tb n Γ (.Tuple ts tk tp), compE tb n Γ (.Tuple vs vk vp) with
        | some t, some y => some (.asg t y)
        | _, _ => none)
      else (match parN Γ ts vs, mapO (compE tb n Γ) vs with
        | some [x, y], some es => (match ixOf x Γ.N, ixOf y Γ.N with
          | some i, some j => some (.par2 i j es)
          | _, _ => none)
        | some [x, y, z], some es => (match ixOf x Γ.N, ixOf y Γ.N, ixOf z Γ.N with
          | some i, some j, some l => some (.par3 i j l es)
          | _, _, _ => none)
        | _, _ => none)
    | .Assign [.Tuple ts tk tp] e _ => if isTL e || isLc e then none else (match compTg tb n Γ (.Tuple ts tk tp), compE tb n Γ e with
      | some t, some y => some (.asg t y)
      | _, _ => none)
    | _ => none
def compSs (tb : Tb) : Nat → Ge → List Stmt → Option (List Sm)
  | 0, _, _ => none
  | n + 1, Γ, sts => mapO (compS tb n Γ) sts
end
end En
set_option maxHeartbeats 4000000
/-! En21: the compiler is right: statements. -/
namespace En
open PySem PySem.Spec PyProof.Rows L2
/-- a body's context -/
structure CtxS (W : Wd) (C : Ec) (k : Nat) (Γ : Ge) (X : Cx) (wx : WX) : Prop where
  c : Ctx W C k Γ X wx
  pass : PassesOwn (model X.prog X.w) X.A X.env X.xe
  stack : X.stack = X.env :: X.outer
  frame : X.env.frame = some X.env.locals
  ex : X.ex = []
section
variable {W : Wd} {C : Ec} {k : Nat} {Γ : Ge} {X : Cx} {wx : WX}
theorem sw_plain {e : Expr} {t : Option Expr} {l : Nat} {env : Env} (h : isLc e = false) : swapsWith e t l env = pure false := by
  cases e <;> first | rfl | cases h
theorem sws_plain {e t : Expr} {l : Nat} {env : Env} (h : isLc e = false) : swapsWithSole [t] e l env = pure false := sw_plain h
theorem sw_lc {e : Expr} {x : Str} {p : Pos} {l : Nat} {env : Env} (hs : env.scope = Γ.sc) (h : swB Γ e (.Name x p) = true) : swapsWith e (some (.Name x p)) l env = pure true := by
  cases e <;> first | cases h | skip
  rename_i elt gens sc pos
  have h' : ((if Γ.sc.kind.isAnnotationScope then ScopeKind.function else Γ.sc.kind) == .function && Γ.sc.names.lookup x == some .local && p.line == pos.line && !(sc.names.any fun (n, k) => n == x && (k == .local || k == .cell))) = true := h
  rw [← hs] at h'
  show pure ((if env.scope.kind.isAnnotationScope then ScopeKind.function else env.scope.kind) == .function && env.scope.names.lookup x == some .local && p.line == pos.line && !(sc.names.any fun (n, k) => n == x && (k == .local || k == .cell))) = pure true
  rw [h']
theorem fm_ne {α β : Type} (f : α → Option β) : ∀ (l : List α), (∃ a ∈ l, f a = none) → (l.filterMap f).length ≠ l.length
  | [], ⟨a, h, _⟩ => by cases h
  | a :: r, ⟨b, hb, hf⟩ => by
    have le : (r.filterMap f).length ≤ r.length := List.length_filterMap_le f r
    cases e : f a with
    | none =>
      rw [List.filterMap_cons_none e, List.length_cons]
      omega
    | some c =>
      rw [List.filterMap_cons_some e, List.length_cons, List.length_cons]
      rcases List.mem_cons.mp hb with h | h
      · rw [h, e] at hf
        cases hf
      · have := fm_ne f r ⟨b, h, hf⟩
        omega
theorem swap_none {ts vs : List Expr} {tk vk : Nat} {tp vp : Pos} {env : Env} (h : (ts.any fun t => (nameOf t).isNone) = true) : swappedStores [.Tuple ts tk tp] (.Tuple vs vk vp) env = pure none := by
  unfold swappedStores
  dsimp only
  split
  · rfl
  · split
    · rfl
    · split
      · rfl
      · rename_i hn
        exfalso
        apply hn
        rw [Bool.or_eq_true]
        refine .inl ?_
        rw [bne_iff_ne]
        refine fm_ne _ _ ?_
        obtain ⟨t, ht, hz⟩ := List.any_eq_true.mp h
        refine ⟨t, ht, ?_⟩
        cases t <;> first | rfl | cases hz
theorem swap_ntl {ts : List Expr} {tk : Nat} {tp : Pos} {e : Expr} {env : Env} (h : isTL e = false) : swappedStores [.Tuple ts tk tp] e env = pure none := by
  cases e <;> first | rfl | cases h
theorem mapO_names : ∀ {ts : List Expr} {ns : List (Str × Nat)}, mapO nameOf ts = some ns → ∃ ps : List Pos, ps.map (·.line) = ns.map (·.2) ∧ ts = (ns.zip ps).map fun q => Expr.Name q.1.1 q.2
  | [], ns, h => by
    rw [mapO_nil h]
    exact ⟨[], rfl, rfl⟩
  | t :: ts, ns, h => by
    obtain ⟨b, bs, h1, h2, rfl⟩ := mapO_cons h
    obtain ⟨ps, k1, k2⟩ := mapO_names h2
    cases t <;> first | cases h1 | skip
    rename_i x p
    refine ⟨p :: ps, ?_, ?_⟩
    · rw [List.map_cons, List.map_cons, k1]
    · rw [List.zip_cons_cons, List.map_cons, ← k2]
end
end En
set_option maxHeartbeats 4000000
/-! En22: exchanges; statements. -/
namespace En
open PySem PySem.Spec PyProof.Rows L2
section
variable {W : Wd} {C : Ec} {k : Nat} {Γ : Ge} {X : Cx} {wx : WX}
theorem star_not {e : Expr} (h : plainE e = true) : (match e with
    | .Starred .. => true
    | _ => false) = false := by
  cases e <;> first | rfl | cases h
theorem bk_env {env : Env} {sc : Scope} (hs : env.scope = sc) (h : ((if sc.kind.isAnnotationScope then ScopeKind.function else sc.kind) == .function) = true) : (env.blockKind != .function) = false := by
  unfold Env.blockKind
  rw [hs]
  simp only [bne, h, Bool.not_true]
theorem swap_two {x y : Str} {px py tp vp : Pos} {tk vk : Nat} {a b : Expr} {env : Env} (hb : (env.blockKind != .function) = false) (hx : env.scope.names.lookup x = some .local) (hy : env.scope.names.lookup y = some .local) (hl : (py.line == px.line) = true) (hne : x ≠ y) (ha : plainE a = true) (hb' : plainE b = true)
    (hf : ([a, b].all (foldedForSure 8)) = false) (hc : ([a, b].all (constantsAlone 8)) = false) : swappedStores [.Tuple [.Name x px, .Name y py] tk tp] (.Tuple [a, b] vk vp) env = pure (some [x, y]) := by
  have kx : (env.kindOf x == some NameKind.local) = true := by
    show (env.scope.names.lookup x == _) = true
    rw [hx]
    rfl
  have ky : (env.kindOf y == some NameKind.local) = true := by
    show (env.scope.names.lookup y == _) = true
    rw [hy]
    rfl
  have hll : (px.line == px.line) = true := by simp
  have ed : ([x, y].eraseDups.length != [x, y].length) = false := by
    have h1 : (y == x) = false := by simpa using fun z => hne z.symm
    have h2 : ([x, y] : List Str).eraseDups = [x, y] := by simp [List.eraseDups, List.eraseDupsBy, List.eraseDupsBy.loop, h1]
    rw [h2]
    simp
  unfold swappedStores
  simp only [hb, Option.map, List.head?, Option.getD, Expr.pos, List.filterMap, kx, ky, hl, hll, Bool.and_self, if_true, ed, hf, hc]
  split
  · rename_i h
    simp at h
  · split
    · rename_i h
      exfalso
      obtain ⟨e, he, hz⟩ := List.any_eq_true.mp h
      have hp : plainE e = true := by
        simp only [List.mem_cons, List.mem_nil_iff, or_false] at he
        rcases he with rfl | rfl
        · exact ha
        · exact hb'
      cases e <;> first | exact absurd hz Bool.false_ne_true | exact absurd hp Bool.false_ne_true
    · rfl
theorem swap_three {x y z : Str} {px py pz tp vp : Pos} {tk vk : Nat} {a b c : Expr} {env : Env} (hb : (env.blockKind != .function) = false) (hx : env.scope.names.lookup x = some .local) (hy : env.scope.names.lookup y = some .local) (hz : env.scope.names.lookup z = some .local) (hl : (py.line == px.line) = true) (hl2 : (pz.line == px.line) = true)
    (hxy : x ≠ y) (hxz : x ≠ z) (hyz : y ≠ z) (ha : plainE a = true) (hb' : plainE b = true) (hc' : plainE c = true)
    (hf : ([a, b, c].all (foldedForSure 8)) = false) (hc : ([a, b, c].all (constantsAlone 8)) = false) : swappedStores [.Tuple [.Name x px, .Name y py, .Name z pz] tk tp] (.Tuple [a, b, c] vk vp) env = pure (some [x, y, z]) := by
  have kx : (env.kindOf x == some NameKind.local) = true := by
    show (env.scope.names.lookup x == _) = true
    rw [hx]
    rfl
  have ky : (env.kindOf y == some NameKind.local) = true := by
    show (env.scope.names.lookup y == _) = true
    rw [hy]
    rfl
  have kz : (env.kindOf z == some NameKind.local) = true := by
    show (env.scope.names.lookup z == _) = true
    rw [hz]
    rfl
  have hll : (px.line == px.line) = true := by simp
  have ed : ([x, y, z].eraseDups.length != [x, y, z].length) = false := by
    have h1 : (y == x) = false := by simpa using fun z => hxy z.symm
    have h2 : (z == x) = false := by simpa using fun z => hxz z.symm
    have h3 : (z == y) = false := by simpa using fun z => hyz z.symm
    have h4 : ([x, y, z] : List Str).eraseDups = [x, y, z] := by simp [List.eraseDups, List.eraseDupsBy, List.eraseDupsBy.loop, h1, h2, h3]
    rw [h4]
    simp
  unfold swappedStores
  simp only [hb, Option.map, List.head?, Option.getD, Expr.pos, List.filterMap, kx, ky, kz, hl, hl2, hll, Bool.and_self, if_true, ed, hf, hc]
  split
  · rename_i h
    simp at h
  · split
    · rename_i h
      exfalso
      obtain ⟨e, he, hz⟩ := List.any_eq_true.mp h
      have hp : plainE e = true := by
        simp only [List.mem_cons, List.mem_nil_iff, or_false] at he
        rcases he with rfl | rfl | rfl
        · exact ha
        · exact hb'
        · exact hc'
      cases e <;> first | exact absurd hz Bool.false_ne_true | exact absurd hp Bool.false_ne_true
    · rfl
def SOk (W : Wd) (C : Ec) (k n : Nat) : Prop := ∀ Γ X wx st ir, CtxS W C k Γ X wx → compS C.t n Γ st = some ir → ∀ m, SS W wx X (ex C m ir) st
def SsOk (W : Wd) (C : Ec) (k n : Nat) : Prop := ∀ Γ X wx sts irs, CtxS W C k Γ X wx → compSs C.t n Γ sts = some irs → ∀ m, SSs W wx X (seqsA (ex C m) irs) sts
theorem liftS {st : Stmt} {ir : Sm} (h : ∀ m, SS W wx X (ex C (m + 1) ir) st) : ∀ m, SS W wx X (ex C m ir) st := fun m => by
  cases m with
  | zero => exact ss_stk
  | succ m => exact h m
theorem ss_list {n : Nat} (ih : SOk W C k n) (c : CtxS W C k Γ X wx) : ∀ {sts : List Stmt} {irs : List Sm}, mapO (compS C.t n Γ) sts = some irs → ∀ m, SSs W wx X (seqsA (ex C m) irs) sts
  | [], irs, h, m => by
    rw [mapO_nil h]
    exact ss_nil
  | st :: sts, irs, h, m => by
    obtain ⟨b, bs, h1, h2, rfl⟩ := mapO_cons h
    exact ss_cons (ih Γ X wx st b c h1 m) (ss_list ih c h2 m)
theorem par_ok {ts vs : List Expr} {ns : List Str} (h : parN Γ ts vs = some ns) : ∃ ps : List Pos, ps.length = ns.length ∧ ts = (ns.zip ps).map (fun q => Expr.Name q.1 q.2) ∧ (∀ x ∈ ns, Γ.sc.names.lookup x = some .local) ∧ (∀ p ∈ ps, ∀ q ∈ ps, (p.line == q.line) = true) ∧ ns.Nodup ∧ vs.all plainE = true ∧ vs.all (foldedForSure 8) = false ∧ vs.all (constantsAlone 8) = false ∧ vs.length = ts.length ∧ fnK Γ.sc = true := by
  unfold parN at h
  split at h
  · rename_i x l r hm
    split at h
    · rename_i hc
      cases h
      simp only [Bool.and_eq_true, Bool.not_eq_true', decide_eq_true_eq] at hc
      obtain ⟨⟨⟨⟨⟨⟨⟨c1, c2⟩, c3⟩, c4⟩, c5⟩, c6⟩, c7⟩, c8⟩ := hc
      obtain ⟨ps, k1, k2⟩ := mapO_names hm
      have hlen : ps.length = ((x, l) :: r).length := by
        have := congrArg List.length k1
        simpa using this
      refine ⟨ps, by simpa using hlen, ?_, ?_, ?_, c8, c3, c2, c1, c4, c6⟩
      · rw [k2]
        generalize ((x, l) :: r) = ns
        clear k1 k2 c7 c8 hm hlen
        induction ns generalizing ps with
        | nil => rfl
        | cons n ns ih =>
          cases ps with
          | nil => rfl
          | cons p ps =>
            simp only [List.zip_cons_cons, List.map_cons]
            rw [ih]
      · intro y hy
        obtain ⟨p, hp, rfl⟩ := List.mem_map.mp hy
        have := (List.all_eq_true.mp c7) p hp
        simp only [Bool.and_eq_true, beq_iff_eq] at this
        exact this.1
      · have hall : ∀ p ∈ ps, p.line = l := by
          intro p hp
          have : p.line ∈ ((x, l) :: r).map (·.2) := by
            rw [← k1]
            exact List.mem_map.mpr ⟨p, hp, rfl⟩
          obtain ⟨q, hq, e⟩ := List.mem_map.mp this
          have := (List.all_eq_true.mp c7) q hq
          simp only [Bool.and_eq_true, beq_iff_eq] at this
          rw [← e]
          exact this.2
        intro p hp q hq
        rw [hall p hp, hall q hq]
        simp
    · cases h
  · cases h
end
end En
set_option maxHeartbeats 4000000
/-! En23: the compiler is right: statements; a table of defs. -/
namespace En
open PySem PySem.Spec PyProof.Rows L2
section
variable {W : Wd} {C : Ec} {k : Nat} {Γ : Ge} {X : Cx} {wx : WX}
theorem cE {n : Nat} (c : CtxS W C k Γ X wx) {e : Expr} {ir : Ex} (h : compE C.t n Γ e = some ir) (m : Nat) : SE W wx X (ev C m ir) e ∧ ST W wx X (evT C m ir) e := (all_ok n).1 Γ X wx e ir c.c h m
theorem cT {n : Nat} (c : CtxS W C k Γ X wx) {e : Expr} {t : Tg} (h : compTg C.t n Γ e = some t) (m : Nat) : SG W wx X (tgA C m t) t.slots e := (all_ok n).2.2 Γ X wx e t _ c.c h (fun _ h => h) m
theorem set_step {n : Nat} (c : CtxS W C k Γ X wx) {x : Str} {p pos : Pos} {e : Expr} {i : Nat} {y : Ex} (hl : Γ.loc x = true) (hi : ixOf x Γ.N = some i) (he : compE C.t n Γ e = some y) (hc : isLc e = false) : ∀ m, SS W wx X (ex C m (.asg (.slot i) y)) (.Assign [.Name x p] e pos) := liftS fun m => by
  cases m with
  | zero => exact ⟨fun pins s σ H D I ⟨g, P, st, r, q⟩ => q.elim⟩
  | succ m =>
    obtain ⟨l1, l2⟩ := c.c.loc1 hl
    exact ss_set c.c.nd (by rw [c.c.hN]; exact ixOf_ok hi) l1 (cE c he (m + 1)).1 (sw_plain hc) l2
theorem setLc_step {n : Nat} (c : CtxS W C k Γ X wx) {x : Str} {p pos : Pos} {e : Expr} {i : Nat} {y : Ex} (hl : Γ.isl x = true) (hi : ixOf x Γ.N = some i) (he : compE C.t n Γ e = some y) (hs : swB Γ e (.Name x p) = true) : ∀ m, SS W wx X (ex C m (.asg (.slot i) y)) (.Assign [.Name x p] e pos) := liftS fun m => by
  cases m with
  | zero => exact ⟨fun pins s σ H D I ⟨g, P, st, r, q⟩ => q.elim⟩
  | succ m =>
    have hsw := sw_lc (l := pos.line) c.c.sc hs
    cases n with
    | zero => cases he
    | succ n =>
      have hil : X.env.scope.names.lookup x = some .local := by
        rw [c.c.sc]
        unfold Ge.isl at hl
        simpa using hl
      cases e <;> first | cases hs | skip
      rename_i elt gens scope lpos
      unfold compE at he
      split at he <;> first | cases he | skip
      all_goals (rename_i heq; cases heq)
      rename_i tg iter ifs
      obtain ⟨ihE, ihS, ihT⟩ := all_ok (W := W) (C := C) (k := k) n
      split at he
      · rename_i hb
        simp only [Bool.and_eq_true, Bool.not_eq_true'] at hb
        split at he
        · rename_i src t x' h1 h2 h3
          split at he
          · rename_i ht
            have fin : ∀ {cond : Option Ex}, ((ifs = [] ∧ cond = none) ∨ ∃ e z, ifs = [e] ∧ cond = some z ∧ compE C.t n (Γ.blk scope) e = some z) → y = .lc x' t src cond ((ownOf Γ.N scope).map (·.2)) → SS W wx X (ex C (m + 1 + 1) (.asg (.slot i) y)) (.Assign [.Name x p] (.ListComp elt [⟨tg, iter, ifs, 0⟩] scope lpos) pos) := fun {cond} hc hy => by
              subst hy
              have q := ss_setLc (i := i) (y := x) (py := p) (elt := elt) (tg := tg) (iter := iter) (ifs := ifs) (pos := lpos) (spos := pos) c.c.calm c.c.nd (by rw [c.c.hN]; exact ixOf_ok hi) hil hsw (ihS Γ X wx tg iter src c.c hb.2 h1 m) (own_ok c.c.hN c.c.sc hb.1)
                (a := tgA C m t) (mt := condA (evT C m) cond) (me := (ev C m x').bind toVal)
                (fun s H Ca cl fp => ihT _ _ _ tg t _ (c.c.blk scope s H Ca cl fp) h2 (fun i h => by
                  rw [List.all_eq_true] at ht
                  simpa using ht i h) m) (fun s H Ca cl fp => by
                  rcases hc with ⟨rfl, rfl⟩ | ⟨e, z, rfl, rfl, hz⟩
                  · exact ⟨fun pins s σ H Q I h => pts_nil.run pins s σ H Q I (by
                      obtain ⟨g, P, st, r, q⟩ := h
                      exact q g H (.refl g) r true rfl)⟩
                  · exact pts_one (ihE _ _ _ e z (c.c.blk scope s H Ca cl fp) hz m).2) (fun s H Ca cl fp => sd_of (ihE _ _ _ elt x' (c.c.blk scope s H Ca cl fp) h3 m).1) (foldS_ok hb.2)
              exact q
            split at he
            · cases he
              exact fin (.inl ⟨rfl, rfl⟩) rfl
            · obtain ⟨z, e1, rfl⟩ := Option.map_eq_some_iff.mp he
              exact fin (.inr ⟨_, z, rfl, rfl, e1⟩) rfl
            · cases he
          · cases he
        · cases he
      · cases he
theorem st_step {n : Nat} (ih : SOk W C k n) (ihs : SsOk W C k n) : SOk W C k (n + 1) := by
  intro Γ X wx st ir c h
  unfold compS at h
  split at h
  · cases h
    exact liftS fun m => ss_pass
  · cases h
    exact liftS fun m => ss_break
  · cases h
    exact liftS fun m => ss_continue
  · cases h
    exact liftS fun m => ss_doc
  · split at h
    · cases h
    · rename_i hc
      rw [Bool.not_eq_true] at hc
      obtain ⟨x, e1, rfl⟩ := Option.map_eq_some_iff.mp h
      exact liftS fun m => ss_expr (cE c e1 m).1 (sw_plain hc)
  · cases h
    exact liftS fun m => ss_retN
  · obtain ⟨x, e1, rfl⟩ := Option.map_eq_some_iff.mp h
    exact liftS fun m => ss_ret (cE c e1 m).1
  · split at h
    · rename_i x y z h1 h2 h3
      cases h
      exact liftS fun m => ss_if (cE c h1 m).2 (ihs Γ X wx _ y c h2 m) (ihs Γ X wx _ z c h3 m)
    · cases h
  · split at h
    · rename_i x y h1 h2
      cases h
      exact liftS fun m => ss_while c.pass (cE c h1 m).2 (ihs Γ X wx _ y c h2 m)
    · cases h
  · split at h
    · cases h
    · rename_i hi
      rw [Bool.not_eq_true] at hi
      split at h
      · rename_i src t x y h1 h2 h3 h4
        cases h
        exact liftS fun m => ss_for c.pass c.c.calm ((all_ok n).2.1 Γ X wx _ _ src c.c hi h1 m) (cT c h2 m) (ihs Γ X wx _ x c h3 m) (ihs Γ X wx _ y c h4 m) (foldS_ok hi)
      · cases h
  · split at h
    · rename_i hl
      obtain ⟨l1, l2⟩ := c.c.loc1 hl
      split at h
      · rename_i i y h1 h2 h3
        cases h
        rw [← py_bin h1]
        exact liftS fun m => ss_aug (.inl rfl) c.c.nd (by rw [c.c.hN]; exact ixOf_ok h2) l1 (cE c h3 m).1 l2
      · rename_i i y h1 h2 h3
        cases h
        rw [← py_bin h1]
        exact liftS fun m => ss_aug (.inr rfl) c.c.nd (by rw [c.c.hN]; exact ixOf_ok h2) l1 (cE c h3 m).1 l2
      · cases h
    · cases h
  · split at h
    · rename_i hl
      split at h
      · rename_i i y h1 h2
        split at h
        · split at h
          · rename_i hs
            simp only [Bool.and_eq_true] at hs
            cases h
            exact setLc_step c hs.2 h1 h2 hs.1
          · cases h
        · rename_i hc
          rw [Bool.not_eq_true] at hc
          cases h
          exact set_step c hl h1 h2 hc
      · cases h
    · cases h
  · split at h
    · rename_i hc
      simp only [Bool.and_eq_true, Bool.not_eq_true'] at hc
      split at h
      · rename_i t y h1 h2
        cases h
        exact liftS fun m => ss_asg (cE c h2 m).1 (cT c h1 m) (sws_plain hc.2) rfl rfl
      · cases h
    · cases h
  · split at h
    · rename_i hc
      simp only [Bool.not_eq_true'] at hc
      split at h
      · rename_i x y h1 h2
        cases h
        exact liftS fun m => ss_att c.c.hK c.c.wo.flds (cE c h1 m).1 (cE c h2 m).1 (sw_plain hc)
      · cases h
    · cases h
  · rename_i ts tk tp vs vk vp pos
    split at h
    · rename_i ht
      unfold tupOk at ht
      simp only [Bool.and_eq_true] at ht
      split at h
      · rename_i t y h1 h2
        cases h
        exact liftS fun m => ss_asg (cE c h2 m).1 (cT c h1 m) rfl (swap_none ht.1) rfl
      · cases h
    · split at h
      · rename_i x y es h1 h2
        split at h
        · rename_i i j h3 h4
          cases h
          obtain ⟨ps, p1, p2, p3, p4, p5, p6, p7, p8, p9, p10⟩ := par_ok h1
          match ps, p1, p2, p4 with
          | [px, py], _, p2, p4 =>
            subst p2
            match vs, p6, p7, p8, p9, h2 with
            | [a, b], p6, p7, p8, _, h2 =>
              simp only [List.all_cons, List.all_nil, Bool.and_true, Bool.and_eq_true] at p6
              have hne : x ≠ y := by
                intro z
                subst z
                simp at p5
              have hxi := ixOf_ok h3
              have hyi := ixOf_ok h4
              have hij : i ≠ j := by
                intro z
                subst z
                rw [hxi] at hyi
                exact hne (Option.some.inj hyi)
              have lx := p3 x (by simp)
              have ly := p3 y (by simp)
              rw [← c.c.sc] at lx ly
              exact liftS fun m => ss_par c.c.calm c.c.nd (by rw [c.c.hN]; exact hxi) (by rw [c.c.hN]; exact hyi) hij lx ly (sa_list (all_ok n).1 c.c (by simp [p6.1, p6.2]) h2 m) (swap_two (bk_env c.c.sc p10) lx ly (p4 py (by simp) px (by simp)) hne p6.1 p6.2 p7 p8) rfl
        · cases h
      · rename_i x y z es h1 h2
        split at h
        · rename_i i j l h3 h4 h5
          cases h
          obtain ⟨ps, p1, p2, p3, p4, p5, p6, p7, p8, p9, p10⟩ := par_ok h1
          match ps, p1, p2, p4 with
          | [px, py, pz], _, p2, p4 =>
            subst p2
            match vs, p6, p7, p8, p9, h2 with
            | [a, b, d], p6, p7, p8, _, h2 =>
              simp only [List.all_cons, List.all_nil, Bool.and_true, Bool.and_eq_true] at p6
              simp only [List.nodup_cons, List.mem_cons, List.mem_nil_iff, or_false, not_or] at p5
              have hxi := ixOf_ok h3
              have hyi := ixOf_ok h4
              have hzi := ixOf_ok h5
              have dif : ∀ {u v : Str} {a b : Nat}, u ≠ v → Γ.N[a]? = some u → Γ.N[b]? = some v → a ≠ b := fun {u v a b} hne h1 h2 z => by
                subst z
                rw [h1] at h2
                exact hne (Option.some.inj h2)
              have lx := p3 x (by simp)
              have ly := p3 y (by simp)
              have lz := p3 z (by simp)
              rw [← c.c.sc] at lx ly lz
              exact liftS fun m => ss_par3 c.c.calm c.c.nd (by rw [c.c.hN]; exact hxi) (by rw [c.c.hN]; exact hyi) (by rw [c.c.hN]; exact hzi) (dif p5.1.1 hxi hyi) (dif p5.1.2 hxi hzi) (dif p5.2.1 hyi hzi) lx ly lz (sa_list (all_ok n).1 c.c (by simp [p6.1, p6.2.1, p6.2.2]) h2 m)
                (swap_three (bk_env c.c.sc p10) lx ly lz (p4 py (by simp) px (by simp)) (p4 pz (by simp) px (by simp)) p5.1.1 p5.1.2 p5.2.1 p6.1 p6.2.1 p6.2.2 p7 p8) rfl
        · cases h
      · cases h
  · split at h
    · cases h
    · rename_i hc
      simp only [Bool.or_eq_true, not_or, Bool.not_eq_true] at hc
      split at h
      · rename_i t y h1 h2
        cases h
        exact liftS fun m => ss_asg (cE c h2 m).1 (cT c h1 m) (sws_plain hc.2) (swap_ntl hc.1) rfl
      · cases h
  · cases h
theorem sts_ok (n : Nat) : SOk W C k n ∧ SsOk W C k n := by
  induction n with
  | zero =>
    refine ⟨?_, ?_⟩
    · intro Γ X wx st ir c h
      cases h
    · intro Γ X wx st ir c h
      cases h
  | succ n ih =>
    refine ⟨st_step ih.1 ih.2, ?_⟩
    intro Γ X wx sts irs c h m
    exact ss_list ih.1 c h m
end
end En
set_option maxHeartbeats 4000000
/-! En24: a table of defs, each at its depth; a law's end. -/
namespace En
open PySem PySem.Spec PyProof.Rows L2
structure Fn where
  N : List Str
  np : Nat
  ir : List Sm
/-- what def f does, k calls deep at most -/
def calT (tb : Tb) (wf fu : Nat) (tab : Nat → Option Fn) : Nat → Nat → List Dat → List Mob → Cou
  | 0 => fun _ _ _ => .stuck
  | 1 => fun _ _ _ => .stuck
  | k + 2 => fun f ds sto => match tab f with
    | some fn => bodyC (seqsA (ex ⟨tb, calT tb wf fu tab (k + 1), calT tb wf fu tab k, wf⟩ fu) fn.ir) fn.N.length ds sto
    | none => .stuck
/-- a def of the table as the text has it -/
structure FnW (W : Wd) (tb : Tb) (f : Nat) (fn : Fn) (fd : FuncData) (ps : List Str) : Prop where
  ob : ∃ (name qual : Str) (params : Arguments) (body : List Stmt) (scope : Scope) (dV kV doc pm cdv ct oc : Value) (an od : Option Addr) (osl : Array (Option Value)) (st : List (Nat × Nat)) (n : Nat),
    fd = PySem.W.fnOf name qual params body scope dV kV doc pm an cdv ct ∧ W.K.lookup (W.fa f) = some ⟨oc, od, .func fd, osl⟩ ∧ PySem.W.codeIn W.K cdv qual = true ∧ FnScope fn.N ps scope ∧ compSs tb n ⟨fn.N, scope, fun _ => true, st⟩ body = some fn.ir
  np : ps.length = fn.np
  bd : ∀ n ks sl, tb.bnd f n ks = some sl → CB W.K fd ps n ks sl
  b1 : ∀ c m, tb.prop c m = some f → ps.length = 1 ∧ ∀ (s : Shared) (u : Value), W.K.In s.heap → BindsTo s fd ⟨[u], []⟩ (ps.zip [u])
structure Ws (W : Wd) (tb : Tb) (tab : Nat → Option Fn) (mg : Str → Option Value) : Prop where
  fn : ∀ f fn, tab f = some fn → ∃ fd ps, FnW W tb f fn fd ps
  has : ∀ f n ks sl, tb.bnd f n ks = some sl → ∃ fn, tab f = some fn
  hasP : ∀ c m f, tb.prop c m = some f → ∃ fn, tab f = some fn
  kp : ∀ f fn, tab f = some fn → PySem.W.keepIn W.K (.ref (W.fa f)) = true
  meth : ∀ c m f, tb.meth c m = some f → Cls W.K (W.ca c) ∧ Meth W.K (W.ca c) m (W.fa f)
  prop : ∀ c m f, tb.prop c m = some f → Cls W.K (W.ca c) ∧ ∃ p, PropOf W.K (W.ca c) m p (W.fa f)
  gl : ∀ x d, tb.gl x = some (.dat d) → ∃ u v, mg x = some u ∧ L2.RelV v u ∧ ∀ g, R W g d v
  glc : ∀ x c, tb.gl x = some (.cls c) → mg x = some (.ref (W.ca c))
  glf : ∀ x f, tb.gl x = some (.fn f) → mg x = some (.ref (W.fa f))
  bl : ∀ x, tb.bl x = true → mg x = none
  flds : FldOk W tb.flds
  wk : Wk W tb.T
section
variable {P : Program} {w : World} {W : Wd} {tb : Tb} {tab : Nat → Option Fn} {mg : Str → Option Value} {wf fu : Nat}
theorem fnG_stuck {base : Heap} {k : Nat} {f : Addr} {fd : FuncData} {ps : List Str} {np : Nat} : FnG P w W.K mg base k f fd ps (spF W np fun _ _ => .stuck) :=
  ⟨fun vs H Q E ⟨_, _, _, _, _, _, _, h⟩ => h.elim, fun A outer s H args us vs Q E _ _ _ _ ⟨_, _, _, _, _, _, _, h⟩ => h.elim⟩
theorem calG2 (S : Ws W tb tab mg) (base : Heap) : ∀ k : Nat, (∀ f fn fd ps, tab f = some fn → FnW W tb f fn fd ps → FnG P w W.K mg base k (W.fa f) fd ps (spF W ps.length (calT tb wf fu tab k f))) ∧ (∀ f fn fd ps, tab f = some fn → FnW W tb f fn fd ps → FnG P w W.K mg base (k + 1) (W.fa f) fd ps (spF W ps.length (calT tb wf fu tab (k + 1) f)))
  | 0 => ⟨fun _ _ _ _ _ _ => fnG_stuck, fun _ _ _ _ _ _ => fnG_stuck⟩
  | k + 1 => by
    obtain ⟨h0, h1⟩ := calG2 S base k
    refine ⟨h1, fun f fn fd ps hf F => ?_⟩
    obtain ⟨name, qual, params, body, scope, dV, kV, doc, pm, cdv, ct, oc, an, od, osl, st, n, e1, lk, hcd, sc, hc⟩ := F.ob
    subst e1
    have e2 : calT tb wf fu tab (k + 1 + 1) f = bodyC (seqsA (ex ⟨tb, calT tb wf fu tab (k + 1), calT tb wf fu tab k, wf⟩ fu) fn.ir) fn.N.length := by
      funext ds sto
      show (match tab f with
        | some fn => bodyC (seqsA (ex ⟨tb, calT tb wf fu tab (k + 1), calT tb wf fu tab k, wf⟩ fu) fn.ir) fn.N.length ds sto
        | none => .stuck) = _
      rw [hf]
    rw [e2]
    refine fnG_of lk hcd sc fun X E x1 x2 x3 x4 x5 x6 x7 x8 x9 x10 x11 x12 x13 x14 x15 => ?_
    have wo : Wo X.prog X.w W ⟨tb, calT tb wf fu tab (k + 1), calT tb wf fu tab k, wf⟩ k X.mg X.base := by
      rw [x1, x2, x4, x5]
      refine ⟨fun f n ks sl hb => ?_, S.meth, fun c m f hp => ?_, S.gl, S.glc, S.glf, S.bl, S.flds, S.wk⟩
      · obtain ⟨fn', hf'⟩ := S.has f n ks sl hb
        obtain ⟨fd', ps', F'⟩ := S.fn f fn' hf'
        exact ⟨fd', ps', h1 f fn' fd' ps' hf' F', F'.bd n ks sl hb, S.kp f fn' hf'⟩
      · obtain ⟨fn', hf'⟩ := S.hasP c m f hp
        obtain ⟨fd', ps', F'⟩ := S.fn f fn' hf'
        obtain ⟨b1, b2⟩ := F'.b1 c m hp
        obtain ⟨p1, p2⟩ := S.prop c m f hp
        refine ⟨p1, p2, fd', ps', ?_, b1, b2⟩
        have := h0 f fn' fd' ps' hf' F'
        rw [b1] at this
        exact this
    exact (sts_ok (W := W) (C := ⟨tb, calT tb wf fu tab (k + 1), calT tb wf fu tab k, wf⟩) (k := k) n).2 ⟨fn.N, scope, fun _ => true, st⟩ X _ body fn.ir
      ⟨⟨wo, x3, x6, by rw [x6]; exact sc.nd, x7, fun _ _ => by rw [x10], x8, x13, x14⟩, x15, x11, x12, x9⟩ hc fu
theorem calG (S : Ws W tb tab mg) (base : Heap) (k : Nat) {f : Nat} {fn : Fn} {fd : FuncData} {ps : List Str} (hf : tab f = some fn) (F : FnW W tb f fn fd ps) : FnG P w W.K mg base k (W.fa f) fd ps (spF W ps.length (calT tb wf fu tab k f)) := (calG2 S base k).1 f fn fd ps hf F
end
/-! ### a law's end -/
theorem law_callG {P : Program} {w : World} {K : PySem.W.Frag} {mg mb : Str → Option Value} {k : Nat} {fa a : Addr} {fd : FuncData} {x : Str} {sp : Sp} {s₁ : Shared} {vs : List Value} {ns : List Int}
    (KX : K.In s₁.heap) (hns : s₁.heap.Ns mainGlobals mg) (hb : s₁.heap.Ns builtinsNs mb) (hbb : ∀ x : Str, x ≠ "__name__" → mb x = bootBuiltins x) (hlim : s₁.heap.NoLimit) (hg : s₁.gens = #[])
    (ha : s₁.heap.get? a = some { cls := .type "list", data := .seq vs.toArray }) (hi : IntsAre vs ns) (hl : ns.length ≤ sizeLine) (hr : Room k callerA)
    (F : ∀ base : Heap, K.In base → base.Ns mainGlobals mg → FnG P w K mg base k fa fd [x] sp) (hbind : ∀ (s : Shared) (u : Value), BindsTo s fd ⟨[u], []⟩ [(x, u)])
    (hsp : ∀ H : Hp, Only H → SqL K H a (ns.map V.int) → sp [.ref a] H (fun v _ => v = .bl true) fun _ _ _ => False) :
    codeAny (model P w) callerA (.call (.ref fa) ⟨[.ref a], []⟩) (fun r s' => r = .ok (.ret (.bool true)) ∧ OldK s₁.heap s'.heap ∧ s'.os = s₁.os ∧ AllBare s'.gens) s₁ := by
  have room : RoomG k callerA := ⟨hr, rfl⟩
  have rv := vals_ints hi
  -- the heap without what H tracks is the base of the run
  have run : ∀ H : Hp, Only H → SqL K H a (ns.map V.int) → HOk P w H s₁.heap → (∀ b, H b ≠ none → b = a) → (H a ≠ none → K.lookup a = none) →
      codeAny (model P w) callerA (.call (.ref fa) ⟨[.ref a], []⟩) (fun r s' => r = .ok (.ret (.bool true)) ∧ OldK s₁.heap s'.heap ∧ s'.os = s₁.os ∧ AllBare s'.gens) s₁ := by
    intro H only sq hok isa noK
    have free : ∀ {b : Addr} {o : Obj}, s₁.heap.get? b = some o → (∀ its n, o.data ≠ .seq its n) → H b = none := fun {b o} e hd => by
      cases q : H b with
      | none => rfl
      | some u =>
        have hb : b = a := isa b (fun z => by rw [q] at z; cases z)
        rw [hb, ha] at e
        cases e
        exact absurd rfl (hd _ _)
    have ns' : ∀ {b : Addr} {m : Str → Option Value}, s₁.heap.Ns b m → (hidT s₁.heap H).Ns b m := fun {b m} h => by
      obtain ⟨o, es, ep, e, d, r⟩ := h
      exact ⟨o, es, ep, hidT_get e (free e fun its n z => by rw [d] at z; cases z), d, r⟩
    have kin : K.In (hidT s₁.heap H) := fun b o e => by
      refine hidT_get (KX b o e) ?_
      cases q : H b with
      | none => rfl
      | some u =>
        have hb : b = a := isa b (fun z => by rw [q] at z; cases z)
        subst hb
        rw [noK (fun z => by rw [q] at z; cases z)] at e
        cases e
    obtain ⟨mc, l1, l2⟩ := hlim
    have md : Mod K mg (hidT s₁.heap H) := ⟨kin, ns' hns, ⟨mb, ns' hb, hbb⟩, mc, ns' l1, l2⟩
    have env : Env0 P w K mg (hidT s₁.heap H) callerA [] s₁ H := ⟨rfl, md, fun b o e => of_hidT e, Nat.le_of_eq (hidT_size _ _), trivial, fun b hb => (by cases hb), hok, .of_eq hg⟩
    refine codeAny_mono ((F _ kin (ns' hns)).run callerA [] s₁ H ⟨[.ref a], []⟩ [.ref a] [.ref a] _ _ room env (hbind s₁ (.ref a)) (.cons rfl .nil) (hsp H only sq)) fun r s' h => ?_
    cases r with
    | error e =>
      obtain ⟨_, _, _, _, _, _, _, _, _, _, _, _, w⟩ := h
      exact w.elim
    | ok fl =>
      cases fl <;> first | exact False.elim h | skip
      rename_i u
      obtain ⟨v, H', os, bare, un, hok', rel, q⟩ := h
      obtain rfl : v = .bl true := q
      obtain rfl : u = Value.bool true := rel
      refine ⟨rfl, OldK.of_keep fun b o e => ?_, os, bare⟩
      cases q : H b with
      | none => exact un.keep b o e q (by intro z; cases z) (by simp)
      | some u =>
        rcases only b with z | ⟨ob, xs, z⟩
        · rw [q] at z
          cases z
        · obtain ⟨e1, _⟩ := hok b _ z
          obtain ⟨e2, _⟩ := hok' b _ (un.frzs b ob _ z)
          rw [e] at e1
          cases e1
          exact e2
  cases hk : K.lookup a with
  | some o =>
    have e := KX a o hk
    rw [ha] at e
    cases e
    exact run (fun _ => none) (fun _ => .inl rfl) (.inr ⟨_, vs.toArray, _, hk, rfl, rfl, rfl, by rw [List.size_toArray, hi.length]; exact hl, by simpa using rv⟩) (fun b u z => by cases z) (fun b z => absurd rfl z) fun z => absurd rfl z
  | none =>
    have one : ∀ {b : Addr} {u : HO}, (if b = a then some (HO.frz { cls := .type "list", data := .seq vs.toArray } (.lst (ns.map V.int))) else none) = some u → b = a ∧ u = .frz { cls := .type "list", data := .seq vs.toArray } (.lst (ns.map V.int)) := fun {b u} z => by
      split at z
      · cases z
        exact ⟨by assumption, rfl⟩
      · cases z
    refine run (fun b => if b = a then some (.frz { cls := .type "list", data := .seq vs.toArray } (.lst (ns.map V.int))) else none) (fun b => ?_) (.inl (.inr ⟨_, if_pos rfl⟩)) (fun b u z => ?_) (fun b z => ?_) fun _ => hk
    · by_cases hb : b = a
      · exact .inr ⟨_, _, if_pos hb⟩
      · exact .inl (if_neg hb)
    · obtain ⟨rfl, rfl⟩ := one z
      exact ⟨ha, by rw [List.length_map]; exact hl, vs, _, rv, ha⟩
    · by_cases hb : b = a
      · exact hb
      · exact absurd (if_neg hb) z
/-- the law's walk, over a head by facts -/
theorem walkG {l : PySem.W.OpenLaw} {n k : Nat} {q : Program} {loose : List Str} {XP : (Str → Option Value) → Heap → Prop} {YP : World → Heap → Prop} {d : DefRec} {x : Str}
    (hn : l.most = some n) (hn2 : n ≤ sizeLine) (hdf : d.params.defaults = []) (hr : Room k callerA)
    (F : ∀ (w : World) (mg : Str → Option Value) (fa : Addr) (h : Heap), YP w h → h.Ns mainGlobals mg → mg d.name = some (.ref fa) →
      ∃ (K : PySem.W.Frag) (fd : FuncData) (sp : Sp), K.In h ∧ (∀ (s : Shared) (u : Value), BindsTo s fd ⟨[u], []⟩ [(x, u)]) ∧
        (∀ (H : Hp) (a : Addr) (ns : List Int), ns.length ≤ n → Only H → SqL K H a (ns.map V.int) → sp [.ref a] H (fun v _ => v = .bl true) fun _ _ _ => False) ∧
        ∀ base : Heap, K.In base → base.Ns mainGlobals mg → FnG l.prog w K mg base k fa fd [x] sp) :
    PySem.W.WalkO q loose XP YP l.row.toRowW d [] (fun f vs => PySem.call f vs) := by
  refine Att.attach_call hn hdf fun w s₀ s₁ mg mb fa o pm cd doc a vs ns G Y ho hd hcd hmg hobj hints hlen hg => ?_
  obtain ⟨K, fd, sp, KX, hb, hsp, hF⟩ := F w mg fa _ Y G.T.g hmg
  exact law_callG KX G.T.g G.T.b G.T.builtins G.T.nolimit hg hobj hints (Nat.le_trans hlen hn2) hr hF hb fun H hO hS => hsp H a ns hlen hO hS
/-- the law's promise, from what it does in the small language -/
theorem law_sp {W : Wd} {call : List Dat → List Mob → Cou} {H : Hp} {a : Addr} {ns : List Int} (only : Only H) (sq : SqL W.K H a (ns.map V.int)) (h : ∃ sto, call [.scr (ns.map Dat.int)] [] = .ok (.val (.bl true)) sto) : spF W 1 call [.ref a] H (fun v _ => v = .bl true) fun _ _ _ => False := by
  obtain ⟨sto, e⟩ := h
  have rs : ∀ ns : List Int, Rs W ⟨H, fun _ => 0, 0⟩ (ns.map Dat.int) (ns.map V.int) := by
    intro ns
    induction ns with
    | nil => exact .nil
    | cons n ns ih => exact .cons (.int n) ih
  refine ⟨⟨H, fun _ => 0, 0⟩, fun _ => none, [], [.scr (ns.map Dat.int)], ?_, .cons (.scr sq (rs ns)) .nil, rfl, ?_⟩
  · exact ⟨fun _ _ h => h, fun _ _ h => (by cases h), rfl, rfl, fun k o e => (by simp at e), fun j k h => (by simp at h), fun k h => (by simp at h), fun i d e => (by simp at e), fun i o e => (by simp at e), fun i j a ⟨o, e⟩ => (by simp at e)⟩
  · rw [e]
    intro g' H' v l r q
    exact R.blE q
end En
set_option maxHeartbeats 4000000
/-! En25: a head: facts of the module as one Bool; how calls bind. -/
namespace En
open PySem PySem.Spec PyProof.Rows L2
/- a constant of the module -/
mutual
def datB (K : PySem.W.Frag) : Dat → Value → Bool
  | .non, .none => true
  | .bl b, .bool c => decide (b = c)
  | .int i, .int j _ => decide (i = j)
  | .str x, .str y _ => decide (x = y)
  | .tup ds, .ref a => (match K.lookup a with
    | some ⟨.type c, _, .seq its _, _⟩ => decide (c = "tuple") && (decide (its.size ≤ sizeLine) && datsB K ds its.toList)
    | _ => false)
  | _, _ => false
def datsB (K : PySem.W.Frag) : List Dat → List Value → Bool
  | [], [] => true
  | d :: ds, u :: us => datB K d u && datsB K ds us
  | _, _ => false
end
section
variable {W : Wd}
mutual
theorem datB_ok : ∀ {d : Dat} {u : Value}, datB W.K d u = true → ∃ v, L2.RelV v u ∧ ∀ g, R W g d v
  | .non, u, h => by
    cases u <;> first | cases h | skip
    exact ⟨.non, rfl, fun g => .non⟩
  | .bl b, u, h => by
    cases u <;> first | cases h | skip
    rename_i c
    obtain rfl : b = c := of_decide_eq_true h
    exact ⟨.bl b, rfl, fun g => .bl b⟩
  | .int i, u, h => by
    cases u <;> first | cases h | skip
    rename_i j t
    obtain rfl : i = j := of_decide_eq_true h
    exact ⟨.int i, ⟨t, rfl⟩, fun g => .int i⟩
  | .str x, u, h => by
    cases u <;> first | cases h | skip
    rename_i y t
    obtain rfl : x = y := of_decide_eq_true h
    exact ⟨.str x, ⟨t, rfl⟩, fun g => .str x⟩
  | .tup ds, u, h => by
    cases u <;> first | cases h | skip
    rename_i a
    unfold datB at h
    split at h
    · rename_i c od its n sl q
      simp only [Bool.and_eq_true, decide_eq_true_eq] at h
      obtain ⟨h1, h2, h3⟩ := h
      subst h1
      obtain ⟨vs, k1, k2⟩ := datsB_ok h3
      exact ⟨.ref a, rfl, fun g => .tup (.inr ⟨_, its, n, q, rfl, rfl, h2, k1⟩) (k2 g)⟩
    · cases h
  | .lst _, u, h => by cases u <;> cases h
  | .dct _, u, h => by cases u <;> cases h
  | .obj _ _, u, h => by cases u <;> cases h
  | .err _ _, u, h => by cases u <;> cases h
  | .ref _, u, h => by cases u <;> cases h
  | .fn _, u, h => by cases u <;> cases h
  | .cls _, u, h => by cases u <;> cases h
  | .ty _, u, h => by cases u <;> cases h
  | .scr _, u, h => by cases u <;> cases h
theorem datsB_ok : ∀ {ds : List Dat} {us : List Value}, datsB W.K ds us = true → ∃ vs, Vals vs us ∧ ∀ g, Rs W g ds vs
  | [], [], _ => ⟨[], .nil, fun _ => .nil⟩
  | d :: ds, u :: us, h => by
    have h' : (datB W.K d u && datsB W.K ds us) = true := h
    simp only [Bool.and_eq_true] at h'
    obtain ⟨v, k1, k2⟩ := datB_ok h'.1
    obtain ⟨vs, k3, k4⟩ := datsB_ok h'.2
    exact ⟨v :: vs, .cons k1 k3, fun g => .cons (k2 g) (k4 g)⟩
  | [], _ :: _, h => by cases h
  | _ :: _, [], h => by cases h
end
end
/-- the module's name x is that constant -/
def glB (K : PySem.W.Frag) (x : Str) (d : Dat) : Bool := match PySem.W.nsIn K mainGlobals x with
  | some (some u) => datB K d u
  | _ => false
theorem glB_ok {W : Wd} {h : Heap} {mg : Str → Option Value} {x : Str} {d : Dat} (X : W.K.In h) (G : h.Ns mainGlobals mg) (c : glB W.K x d = true) : ∃ u v, mg x = some u ∧ L2.RelV v u ∧ ∀ g, R W g d v := by
  unfold glB at c
  split at c
  · rename_i u q
    obtain ⟨v, k1, k2⟩ := datB_ok c
    exact ⟨u, v, PySem.W.mg_of X G q, k1, k2⟩
  · cases c
/-! a Hook with a check of one's own -/
def SaysE (ck : PySem.W.Frag → Bool) (fa : List He.Fa) (fn : List He.DefD) (K : PySem.W.Frag) : Prop := (ck K && (He.obsD fa fn K).1, (He.obsD fa fn K).2) = He.valD fn
def obsE (n : Nat) (ck : PySem.W.Frag → Bool) (fa : List He.Fa) (fn : List He.DefD) (g : Addr → Option Obj) : He.AlD := (ck (He.frG g (He.asD g n)) && (He.obsDG n fa fn g).1, (He.obsDG n fa fn g).2)
def hookE (n : Nat) (ck : PySem.W.Frag → Bool) (fa : List He.Fa) (fn : List He.DefD) : PySem.W.Hook where
  α := He.AlD
  obs := fun s => obsE n ck fa fn s.heap.get?
  val := fun _ => He.valD fn
  says := fun _ h => ∃ K : PySem.W.Frag, K.In h ∧ SaysE ck fa fn K
  of := fun _ _ e => ⟨_, He.frG_in, e⟩
  keeps := fun _ _ _ ⟨K, hK, c⟩ k => ⟨K, PySem.W.Frag.In.keeps hK k, c⟩
theorem obsE_eq {n : Nat} {ck : PySem.W.Frag → Bool} {fa : List He.Fa} {fn : List He.DefD} {g : Addr → Option Obj} {s : Shared} (h : ∀ a, g a = s.heap.get? a) : obsE n ck fa fn g = (hookE n ck fa fn).obs s := by
  have e : g = s.heap.get? := funext h
  rw [e] <;> rfl
theorem SaysE.both {ck : PySem.W.Frag → Bool} {fa : List He.Fa} {fn : List He.DefD} {K : PySem.W.Frag} (c : SaysE ck fa fn K) : ck K = true ∧ He.SaysD fa fn K := by
  have c' : (ck K && (He.obsD fa fn K).1, (He.obsD fa fn K).2) = (true, fn.map He.DefD.val) := c
  obtain ⟨c1, c2⟩ := Prod.mk.inj c'
  simp only [Bool.and_eq_true] at c1
  exact ⟨c1.1, Prod.ext c1.2 c2⟩
/-! how calls bind -/
theorem cb_of {K : PySem.W.Frag} {x qual : Str} {params : Arguments} {body : List Stmt} {scope : Scope} {f : Addr} {fd : FuncData} {ps ks : List Str} {n : Nat} {sl : List Sl} (F : FunD K x qual params body scope [] [] f fd) (hl : sl.length = ps.length)
    (h : ∀ (kV doc pm : Value) (an : Option Addr) (cdv ct : Value) (us ws : List Value), us.length = n → ws.length = ks.length → ∃ bs, bindArgs (PySem.W.fnOf x qual params body scope .none kV doc pm an cdv ct) ⟨us, ks.zip ws⟩ = pure (ps.zip bs) ∧ SlV us ws sl bs) : CB K fd ps n ks sl := by
  obtain ⟨oc, od, dV, kV, doc, pm, an, cdv, ct, osl, rfl, lk, hcd, hD, hK⟩ := F.ex
  rcases hD with ⟨_, rfl⟩ | ⟨e, _⟩
  · refine ⟨fun s us ws _ l1 l2 => ?_, hl⟩
    obtain ⟨bs, e1, e2⟩ := h kV doc pm an cdv ct us ws l1 l2
    exact ⟨bs, .of_eq e1, e2⟩
  · exact absurd rfl e
/-- n values, no keywords, no defaults -/
def posSl (n : Nat) : List Sl := (List.range n).map .pos
/-- a def of the table, from the head's fact -/
theorem fnW_of {W : Wd} {tb : Tb} {f : Nat} {fn : Fn} {x qual : Str} {params : Arguments} {body : List Stmt} {scope : Scope} {dvs : List V} {kws : List (Str × V)} {fd : FuncData} {ps : List Str} {st : List (Nat × Nat)} {n : Nat} (F : FunD W.K x qual params body scope dvs kws (W.fa f) fd)
    (sc : FnScope fn.N ps scope) (hc : compSs tb n ⟨fn.N, scope, fun _ => true, st⟩ body = some fn.ir) (hp : ps.length = fn.np) (bd : ∀ n ks sl, tb.bnd f n ks = some sl → CB W.K fd ps n ks sl)
    (b1 : ∀ c m, tb.prop c m = some f → ps.length = 1 ∧ ∀ (s : Shared) (u : Value), W.K.In s.heap → BindsTo s fd ⟨[u], []⟩ (ps.zip [u])) : FnW W tb f fn fd ps := by
  obtain ⟨oc, od, dV, kV, doc, pm, an, cdv, ct, osl, e, lk, hcd, hD, hK⟩ := F.ex
  exact ⟨⟨x, qual, params, body, scope, dV, kV, doc, pm, cdv, ct, oc, an, od, osl, st, n, e, lk, hcd, sc, hc⟩, hp, bd, b1⟩
end En
set_option maxHeartbeats 4000000
/-! En26: the evaluator stepped by simp: every continuation has a name, no lambda stands in a state. -/
namespace En
open PySem PySem.Spec PyProof.Rows L2
section
variable {α β : Type}
theorem b_ok {a : α} {s : Stt} {f : α → Ac β} : Out.bind (.ok a s) f = f a s := rfl
theorem b_exc {x : Dat} {s : Stt} {f : α → Ac β} : Out.bind (.exc x s : Out α) f = .exc x s := rfl
theorem a_bind {m : Ac α} {f : α → Ac β} {s : Stt} : Ac.bind m f s = Out.bind (m s) f := rfl
theorem a_ret {a : α} {s : Stt} : Ac.ret a s = .ok a s := rfl
theorem a_opt {a : α} {s : Stt} : Ac.opt (some a) s = .ok a s := rfl
theorem a_nx {s : Stt} : nxA s = .ok .nx s := rfl
end
theorem look_bind {α : Type} {x : Rv} {s : Stt} {f : Vw → Ac α} : Ac.bind (lookA x) f s = match look s x with
    | some w => f w s
    | none => .stuck := by
  unfold Ac.bind lookA
  cases look s x <;> rfl
theorem opt_bind {α β : Type} {o : Option α} {s : Stt} {f : α → Ac β} : Ac.bind (Ac.opt o) f s = match o with
    | some w => f w s
    | none => .stuck := by
  unfold Ac.bind
  cases o <;> rfl
/-! looks -/
def Dat.pln : Dat → Bool
  | .ref _ => false
  | _ => true
def lkB (s : Stt) : Option Slt → Option Vw
  | some (.own o) => some (.mb o)
  | some (.val d) => Vw.of s d
  | _ => none
theorem lk_bor {s : Stt} {i : Nat} : look s (.bor i) = lkB s s.env[i]? := by
  unfold look lkB
  rfl
theorem lkB_own {s : Stt} {o : Mob} : lkB s (some (.own o)) = some (.mb o) := rfl
theorem lkB_val {s : Stt} {d : Dat} : lkB s (some (.val d)) = look s (.val d) := rfl
theorem lk_own {s : Stt} {o : Mob} : look s (.own o) = some (.mb o) := rfl
theorem lk_ref {s : Stt} {n : Nat} : look s (.val (.ref n)) = (s.sto[n]?).map .mb := rfl
theorem lk_non {s : Stt} : look s (.val .non) = some (.dt .non) := rfl
theorem lk_bl {s : Stt} {b : Bool} : look s (.val (.bl b)) = some (.dt (.bl b)) := rfl
theorem lk_int {s : Stt} {i : Int} : look s (.val (.int i)) = some (.dt (.int i)) := rfl
theorem lk_str {s : Stt} {x : Str} : look s (.val (.str x)) = some (.dt (.str x)) := rfl
theorem lk_tup {s : Stt} {x : List Dat} : look s (.val (.tup x)) = some (.dt (.tup x)) := rfl
theorem lk_lst {s : Stt} {x : List Dat} : look s (.val (.lst x)) = some (.dt (.lst x)) := rfl
theorem lk_dct {s : Stt} {x : List (Key × Dat)} : look s (.val (.dct x)) = some (.dt (.dct x)) := rfl
theorem lk_obj {s : Stt} {c : Nat} {x : List (Str × Dat)} : look s (.val (.obj c x)) = some (.dt (.obj c x)) := rfl
theorem lk_err {s : Stt} {c : Nat} {x : List (Str × Dat)} : look s (.val (.err c x)) = some (.dt (.err c x)) := rfl
theorem lk_cls {s : Stt} {c : Nat} : look s (.val (.cls c)) = some (.dt (.cls c)) := rfl
theorem lk_ty {s : Stt} {c : String} : look s (.val (.ty c)) = some (.dt (.ty c)) := rfl
theorem lk_scr {s : Stt} {x : List Dat} : look s (.val (.scr x)) = some (.dt (.scr x)) := rfl
theorem lk_pln {s : Stt} {d : Dat} (h : d.pln = true) : look s (.val d) = some (.dt d) := by
  cases d <;> first | rfl | cases h
theorem v_of {s : Stt} {d : Dat} : Vw.of s d = look s (.val d) := rfl
/-! data of a result -/
def tvB (i : Nat) (s : Stt) : Option Slt → Out Dat
  | some (.own o) => .ok o.dat { s with env := s.env.set i (.val o.dat) }
  | some (.val d) => .ok d s
  | _ => .stuck
theorem tv_val {d : Dat} {s : Stt} : toVal (.val d) s = .ok d s := rfl
theorem tv_own {o : Mob} {s : Stt} : toVal (.own o) s = .ok o.dat s := rfl
theorem tv_bor {i : Nat} {s : Stt} : toVal (.bor i) s = tvB i s s.env[i]? := by
  unfold toVal tvB
  rfl
theorem tvB_own {i : Nat} {env : List Slt} {sto : List Mob} {o : Mob} : tvB i ⟨env, sto⟩ (some (.own o)) = .ok o.dat ⟨env.set i (.val o.dat), sto⟩ := rfl
theorem tvB_val {i : Nat} {s : Stt} {d : Dat} : tvB i s (some (.val d)) = .ok d s := rfl
theorem md_lst {xs : List Dat} : (Mob.lst xs).dat = .lst xs := rfl
theorem md_dct {xs : List (Key × Dat)} : (Mob.dct xs).dat = .dct xs := rfl
theorem md_ins {c : Nat} {xs : List (Str × Dat)} : (Mob.ins c xs).dat = .obj c xs := rfl
/-! lists of expressions -/
def kSq2 (d : Dat) : List Dat → Ac (List Dat) := fun ds s => .ok (d :: ds) s
theorem kSq2_e {d : Dat} {ds : List Dat} {s : Stt} : kSq2 d ds s = .ok (d :: ds) s := rfl
section
variable {C : Ec} {n : Nat} {s : Stt}
abbrev evs (C : Ec) (n : Nat) (es : List Ex) : Ac (List Dat) := seqA (fun e => (ev C n e).bind toVal) es
def sqD (C : Ec) (n : Nat) (es : List Ex) : Ac (List Dat) := seqA (fun e => (ev C n e).bind toVal) es
def kSq1 (C : Ec) (n : Nat) (r : List Ex) (d : Dat) : Ac (List Dat) := fun s => (sqD C n r s).bind (kSq2 d)
theorem sq_nil : sqD C n [] s = .ok [] s := rfl
theorem sq_cons {e : Ex} {r : List Ex} : sqD C n (e :: r) s = ((ev C n e s).bind toVal).bind (kSq1 C n r) := rfl
theorem kSq1_e {r : List Ex} {d : Dat} : kSq1 C n r d s = (sqD C n r s).bind (kSq2 d) := rfl
/-! expressions -/
def slO (i : Nat) (s : Stt) : Option Slt → Out Rv
  | some (.val d) => .ok (.val d) s
  | some (.own _) => .ok (.bor i) s
  | _ => .stuck
theorem slO_val {i : Nat} {d : Dat} : slO i s (some (.val d)) = .ok (.val d) s := rfl
theorem slO_own {i : Nat} {o : Mob} : slO i s (some (.own o)) = .ok (.bor i) s := rfl
theorem e_con {d : Dat} : ev C (n + 1) (.con d) s = .ok (.val d) s := rfl
theorem e_slot {i : Nat} : ev C (n + 1) (.slot i) s = slO i s s.env[i]? := by
  show slotA i s = _
  unfold slotA slO
  rfl
def kTup : List Dat → Ac Rv := fun ds s => if ds.length ≤ sizeLine then .ok (.val (.tup ds)) s else .stuck
def kLst : List Dat → Ac Rv := fun ds s => if ds.length ≤ sizeLine then .ok (.own (.lst ds)) s else .stuck
theorem kTup_e {ds : List Dat} : kTup ds s = if ds.length ≤ sizeLine then .ok (.val (.tup ds)) s else .stuck := rfl
theorem kLst_e {ds : List Dat} : kLst ds s = if ds.length ≤ sizeLine then .ok (.own (.lst ds)) s else .stuck := rfl
theorem ite_ap {α β : Type} {p : Prop} [Decidable p] {f g : α → β} {x : α} : (if p then f else g) x = if p then f x else g x := by
  split <;> rfl
theorem e_tup {es : List Ex} : ev C (n + 1) (.tup es) s = (sqD C n es s).bind kTup := by
  show Ac.bind _ _ s = _
  unfold Ac.bind
  congr 1
  funext ds s
  show (if _ then Ac.ret _ else Ac.stk) s = _
  rw [ite_ap]
  rfl
theorem e_lst {es : List Ex} : ev C (n + 1) (.lst es) s = (sqD C n es s).bind kLst := by
  show Ac.bind _ _ s = _
  unfold Ac.bind
  congr 1
  funext ds s
  show (if _ then Ac.ret _ else Ac.stk) s = _
  rw [ite_ap]
  rfl
def kBin1 (C : Ec) (n : Nat) (op : BOp) (b : Ex) (x : Rv) : Ac Rv := fun s => (ev C n b s).bind (binK op x)
theorem e_bin {op : BOp} {a b : Ex} : ev C (n + 1) (.bin op a b) s = (ev C n a s).bind (kBin1 C n op b) := rfl
theorem kBin1_e {op : BOp} {b : Ex} {x : Rv} : kBin1 C n op b x s = (ev C n b s).bind (binK op x) := rfl
def biO (s : Stt) (op : BOp) : Option Vw → Option Vw → Out Rv
  | some w, some w' => Ac.opt (w.bin op w') s
  | _, _ => .stuck
theorem binK_e {op : BOp} {x y : Rv} : binK op x y s = biO s op (look s x) (look s y) := by
  unfold binK biO
  rw [look_bind]
  cases look s x with
  | none => rfl
  | some w =>
    show Ac.bind (lookA y) _ s = _
    rw [look_bind]
    cases look s y <;> rfl
theorem biO_e {op : BOp} {w w' : Vw} : biO s op (some w) (some w') = Ac.opt (w.bin op w') s := rfl
def kNeg : Rv → Ac Rv := fun x s => match look s x with
  | some (.dt (.int i)) => .ok (.val (.int (-i))) s
  | _ => .stuck
theorem e_neg {a : Ex} : ev C (n + 1) (.neg a) s = (ev C n a s).bind kNeg := by
  show Ac.bind _ _ s = _
  unfold Ac.bind
  congr 1
  funext x s
  unfold kNeg lookA
  cases look s x with
  | none => rfl
  | some w => cases w with
    | dt d => cases d <;> rfl
    | mb o => rfl
def ngO (s : Stt) : Option Vw → Out Rv
  | some (.dt (.int i)) => .ok (.val (.int (-i))) s
  | _ => .stuck
theorem kNeg_e {x : Rv} : kNeg x s = ngO s (look s x) := rfl
theorem ngO_e {i : Int} : ngO s (some (.dt (.int i))) = .ok (.val (.int (-i))) s := rfl
def kCmp1 (C : Ec) (n : Nat) (op : COp) (b : Ex) (x : Rv) : Ac Rv := fun s => (ev C n b s).bind (cmpK op x)
theorem e_cmp {op : COp} {a b : Ex} : ev C (n + 1) (.cmp op a b) s = (ev C n a s).bind (kCmp1 C n op b) := rfl
theorem kCmp1_e {op : COp} {b : Ex} {x : Rv} : kCmp1 C n op b x s = (ev C n b s).bind (cmpK op x) := rfl
/-- a comparison's answer -/
def cmR (s : Stt) : Option Bool → Out Rv
  | some b => .ok (.val (.bl b)) s
  | none => .stuck
def cmO (s : Stt) (op : COp) : Option Vw → Option Vw → Out Rv
  | some w, some w' => cmR s (w.cmp op w')
  | _, _ => .stuck
theorem cmpK_e {op : COp} {x y : Rv} : cmpK op x y s = cmO s op (look s x) (look s y) := by
  unfold cmpK cmO
  rw [look_bind]
  cases look s x with
  | none => rfl
  | some w =>
    show Ac.bind (lookA y) _ s = _
    rw [look_bind]
    cases look s y with
    | none => rfl
    | some w' =>
      show Ac.opt ((w.cmp op w').map _) s = cmR s (w.cmp op w')
      cases w.cmp op w' <;> rfl
theorem cmO_e {op : COp} {w w' : Vw} : cmO s op (some w) (some w') = cmR s (w.cmp op w') := rfl
theorem cmR_e {b : Bool} : cmR s (some b) = .ok (.val (.bl b)) s := rfl
def kChn1 (C : Ec) (n : Nat) (op op' : COp) (b c : Ex) (x : Rv) : Ac Rv := fun s => ((ev C n b s).bind toVal).bind fun d => (lookA x).bind fun w => (lookA (.val d)).bind fun w' => (Ac.opt (w.cmp op w')).bind fun k =>
  if k then (ev C n c).bind fun z => cmpK op' (.val d) z else Ac.ret (.val (.bl false))
theorem e_chn {op op' : COp} {a b c : Ex} : ev C (n + 1) (.chn op op' a b c) s = (ev C n a s).bind (kChn1 C n op op' b c) := rfl
def kChn2 (C : Ec) (n : Nat) (op op' : COp) (c : Ex) (x : Rv) (d : Dat) : Ac Rv := fun s => (cmpK op x (.val d) s).bind fun k => match k with
  | .val (.bl true) => fun s => (ev C n c s).bind (cmpK op' (.val d))
  | .val (.bl false) => fun s => .ok (.val (.bl false)) s
  | _ => fun _ => .stuck
theorem kChn1_e {op op' : COp} {b c : Ex} {x : Rv} : kChn1 C n op op' b c x s = ((ev C n b s).bind toVal).bind (kChn2 C n op op' c x) := by
  unfold kChn1
  congr 1
  funext d s
  unfold kChn2
  rw [cmpK_e, look_bind]
  unfold cmO
  cases look s x with
  | none => rfl
  | some w =>
    show Ac.bind (lookA (.val d)) _ s = _
    rw [look_bind]
    cases look s (.val d) with
    | none => rfl
    | some w' =>
      show Ac.bind (Ac.opt (w.cmp op w')) _ s = Out.bind (cmR s (w.cmp op w')) _
      rw [opt_bind]
      cases w.cmp op w' with
      | none => rfl
      | some k => cases k <;> rfl
def kChn3 (C : Ec) (n : Nat) (op' : COp) (c : Ex) (d : Dat) : Rv → Ac Rv
  | .val (.bl true) => fun s => (ev C n c s).bind (cmpK op' (.val d))
  | .val (.bl false) => fun s => .ok (.val (.bl false)) s
  | _ => fun _ => .stuck
theorem kChn2_e {op op' : COp} {c : Ex} {x : Rv} {d : Dat} : kChn2 C n op op' c x d s = (cmpK op x (.val d) s).bind (kChn3 C n op' c d) := by
  unfold kChn2
  rfl
theorem kChn3_t {op' : COp} {c : Ex} {d : Dat} : kChn3 C n op' c d (.val (.bl true)) s = (ev C n c s).bind (cmpK op' (.val d)) := rfl
theorem kChn3_f {op' : COp} {c : Ex} {d : Dat} : kChn3 C n op' c d (.val (.bl false)) s = .ok (.val (.bl false)) s := rfl
/-! truth -/
def trO (s : Stt) : Option Vw → Out Bool
  | some w => Ac.opt w.truth s
  | none => .stuck
theorem truA_e {x : Rv} : truA x s = trO s (look s x) := by
  unfold truA Ac.bind lookA trO
  cases look s x <;> rfl
theorem trO_e {w : Vw} : trO s (some w) = Ac.opt w.truth s := rfl
def kNot : Bool → Ac Bool := fun k s => .ok (!k) s
theorem kNot_e {k : Bool} : kNot k s = .ok (!k) s := rfl
def kNotV : Bool → Ac Rv := fun k s => .ok (.val (.bl (!k))) s
theorem kNotV_e {k : Bool} : kNotV k s = .ok (.val (.bl (!k))) s := rfl
theorem e_nt {a : Ex} : ev C (n + 1) (.nt a) s = ((ev C n a s).bind truA).bind kNotV := by
  show (ev C n a s).bind _ = _
  cases ev C n a s <;> try rfl
  rename_i x s1
  show Out.bind (lookA x s1) _ = Out.bind (truA x s1) _
  unfold truA Ac.bind lookA
  cases look s1 x with
  | none => rfl
  | some w => cases h : w.truth <;> (unfold Out.bind; simp only [h]; rfl)
def kAnd (C : Ec) (n : Nat) (b : Ex) (x : Rv) : Bool → Ac Rv
  | true => ev C n b
  | false => fun s => .ok x s
def kOr (C : Ec) (n : Nat) (b : Ex) (x : Rv) : Bool → Ac Rv
  | false => ev C n b
  | true => fun s => .ok x s
def kAnd1 (C : Ec) (n : Nat) (b : Ex) (x : Rv) : Ac Rv := fun s => (truA x s).bind (kAnd C n b x)
def kOr1 (C : Ec) (n : Nat) (b : Ex) (x : Rv) : Ac Rv := fun s => (truA x s).bind (kOr C n b x)
theorem kAnd1_e {b : Ex} {x : Rv} : kAnd1 C n b x s = (truA x s).bind (kAnd C n b x) := rfl
theorem kOr1_e {b : Ex} {x : Rv} : kOr1 C n b x s = (truA x s).bind (kOr C n b x) := rfl
theorem kAnd_t {b : Ex} {x : Rv} : kAnd C n b x true s = ev C n b s := rfl
theorem kAnd_f {b : Ex} {x : Rv} : kAnd C n b x false s = .ok x s := rfl
theorem kOr_t {b : Ex} {x : Rv} : kOr C n b x true s = .ok x s := rfl
theorem kOr_f {b : Ex} {x : Rv} : kOr C n b x false s = ev C n b s := rfl
theorem e_and {a b : Ex} : ev C (n + 1) (.and a b) s = (ev C n a s).bind (kAnd1 C n b) := by
  show (ev C n a s).bind _ = _
  congr 1
  funext x s1
  show Out.bind (lookA x s1) _ = Out.bind (truA x s1) _
  unfold truA Ac.bind lookA
  cases look s1 x with
  | none => rfl
  | some w => cases h : w.truth with
    | none => (unfold Out.bind; simp only [h]; rfl)
    | some k => cases k <;> (unfold Out.bind; simp only [h]; rfl)
theorem e_or {a b : Ex} : ev C (n + 1) (.or a b) s = (ev C n a s).bind (kOr1 C n b) := by
  show (ev C n a s).bind _ = _
  congr 1
  funext x s1
  show Out.bind (lookA x s1) _ = Out.bind (truA x s1) _
  unfold truA Ac.bind lookA
  cases look s1 x with
  | none => rfl
  | some w => cases h : w.truth with
    | none => (unfold Out.bind; simp only [h]; rfl)
    | some k => cases k <;> (unfold Out.bind; simp only [h]; rfl)
def kIte (C : Ec) (n : Nat) (a b : Ex) : Bool → Ac Rv
  | true => ev C n a
  | false => ev C n b
theorem kIte_t {a b : Ex} : kIte C n a b true s = ev C n a s := rfl
theorem kIte_f {a b : Ex} : kIte C n a b false s = ev C n b s := rfl
theorem e_ite {c a b : Ex} : ev C (n + 1) (.ite c a b) s = (evT C n c s).bind (kIte C n a b) := by
  show (evT C n c s).bind _ = _
  congr 1
  funext k s1
  cases k <;> rfl
def kTAnd (C : Ec) (n : Nat) (b : Ex) : Bool → Ac Bool
  | true => evT C n b
  | false => fun s => .ok false s
def kTOr (C : Ec) (n : Nat) (b : Ex) : Bool → Ac Bool
  | true => fun s => .ok true s
  | false => evT C n b
def kTIte (C : Ec) (n : Nat) (a b : Ex) : Bool → Ac Bool
  | true => evT C n a
  | false => evT C n b
theorem kTAnd_t {b : Ex} : kTAnd C n b true s = evT C n b s := rfl
theorem kTAnd_f {b : Ex} : kTAnd C n b false s = .ok false s := rfl
theorem kTOr_t {b : Ex} : kTOr C n b true s = .ok true s := rfl
theorem kTOr_f {b : Ex} : kTOr C n b false s = evT C n b s := rfl
theorem kTIte_t {a b : Ex} : kTIte C n a b true s = evT C n a s := rfl
theorem kTIte_f {a b : Ex} : kTIte C n a b false s = evT C n b s := rfl
theorem t_nt {a : Ex} : evT C (n + 1) (.nt a) s = (evT C n a s).bind kNot := rfl
theorem t_and {a b : Ex} : evT C (n + 1) (.and a b) s = (evT C n a s).bind (kTAnd C n b) := by
  show (evT C n a s).bind _ = _
  congr 1
  funext k s1
  cases k <;> rfl
theorem t_or {a b : Ex} : evT C (n + 1) (.or a b) s = (evT C n a s).bind (kTOr C n b) := by
  show (evT C n a s).bind _ = _
  congr 1
  funext k s1
  cases k <;> rfl
theorem t_ite {c a b : Ex} : evT C (n + 1) (.ite c a b) s = (evT C n c s).bind (kTIte C n a b) := by
  show (evT C n c s).bind _ = _
  congr 1
  funext k s1
  cases k <;> rfl
theorem t_con {d : Dat} : evT C (n + 1) (.con d) s = (ev C n (.con d) s).bind truA := rfl
theorem t_slot {i : Nat} : evT C (n + 1) (.slot i) s = (ev C n (.slot i) s).bind truA := rfl
theorem t_cmp {op : COp} {a b : Ex} : evT C (n + 1) (.cmp op a b) s = (ev C n (.cmp op a b) s).bind truA := rfl
theorem t_chn {op op' : COp} {a b c : Ex} : evT C (n + 1) (.chn op op' a b c) s = (ev C n (.chn op op' a b c) s).bind truA := rfl
theorem t_bin {op : BOp} {a b : Ex} : evT C (n + 1) (.bin op a b) s = (ev C n (.bin op a b) s).bind truA := rfl
theorem t_bi {b : Bi} {a : Ex} {es : List Ex} : evT C (n + 1) (.bi b a es) s = (ev C n (.bi b a es) s).bind truA := rfl
theorem t_call {f : Nat} {es zs : List Ex} {sl : List Sl} : evT C (n + 1) (.call f es zs sl) s = (ev C n (.call f es zs sl) s).bind truA := rfl
theorem t_att {e : Ex} {f : Str} : evT C (n + 1) (.att e f) s = (ev C n (.att e f) s).bind truA := rfl
theorem t_prp {e : Ex} {f : Str} : evT C (n + 1) (.prp e f) s = (ev C n (.prp e f) s).bind truA := rfl
theorem t_sub {e i : Ex} : evT C (n + 1) (.sub e i) s = (ev C n (.sub e i) s).bind truA := rfl
theorem t_mth {e : Ex} {m : Mt} {es : List Ex} : evT C (n + 1) (.mth e m es) s = (ev C n (.mth e m es) s).bind truA := rfl
theorem t_mtd {e : Ex} {m : Str} {es zs : List Ex} {ks : List Str} : evT C (n + 1) (.mtd e m es zs ks) s = (ev C n (.mtd e m es zs ks) s).bind truA := rfl
theorem t_lc {e : Ex} {t : Tg} {src : Src} {cond : Option Ex} {own : List Nat} : evT C (n + 1) (.lc e t src cond own) s = (ev C n (.lc e t src cond own) s).bind truA := rfl
/-! reading -/
def atO (fl : Nat → Str → Bool) (f : Str) (s : Stt) : Option Vw → Out Rv
  | some w => Ac.opt (fldK fl w f) s
  | none => .stuck
def kAtt (fl : Nat → Str → Bool) (f : Str) (x : Rv) : Ac Rv := fun s => atO fl f s (look s x)
theorem kAtt_e {fl : Nat → Str → Bool} {f : Str} {x : Rv} : kAtt fl f x s = atO fl f s (look s x) := rfl
theorem atO_e {fl : Nat → Str → Bool} {f : Str} {w : Vw} : atO fl f s (some w) = Ac.opt (fldK fl w f) s := rfl
theorem e_att {e : Ex} {f : Str} : ev C (n + 1) (.att e f) s = (ev C n e s).bind (kAtt C.t.flds f) := by
  show Ac.bind _ _ s = _
  unfold Ac.bind
  congr 1
  funext x s
  unfold kAtt lookA atO
  cases look s x <;> rfl
def sbO (s : Stt) : Option Vw → Option Vw → Out Rv
  | some w, some w' => (match w.sub w' with
    | some d => .ok (.val d) s
    | none => .stuck)
  | _, _ => .stuck
def sbR (s : Stt) : Option Dat → Out Rv
  | some d => .ok (.val d) s
  | none => .stuck
def kSub1 (C : Ec) (n : Nat) (i : Ex) (x : Rv) : Ac Rv := fun s => (ev C n i s).bind (subK x)
theorem e_sub {e i : Ex} : ev C (n + 1) (.sub e i) s = (ev C n e s).bind (kSub1 C n i) := rfl
theorem kSub1_e {i : Ex} {x : Rv} : kSub1 C n i x s = (ev C n i s).bind (subK x) := rfl
theorem subK_e {x y : Rv} : subK x y s = sbO s (look s x) (look s y) := by
  unfold subK sbO
  rw [look_bind]
  cases look s x with
  | none => rfl
  | some w =>
    show Ac.bind (lookA y) _ s = _
    rw [look_bind]
    cases look s y with
    | none => rfl
    | some w' =>
      show Ac.opt ((w.sub w').map _) s = _
      cases h : w.sub w' <;> simp only [h] <;> rfl
theorem sbO_e {w w' : Vw} : sbO s (some w) (some w') = sbR s (w.sub w') := rfl
theorem sbR_e {d : Dat} : sbR s (some d) = .ok (.val d) s := rfl
def inO (s : Stt) : Option Vw → Out Int
  | some (.dt (.int i)) => .ok i s
  | _ => .stuck
theorem intA_e {x : Rv} : intA x s = inO s (look s x) := by
  unfold intA Ac.bind lookA inO
  cases look s x with
  | none => rfl
  | some w => cases w with
    | dt d => cases d <;> rfl
    | mb o => rfl
theorem inO_e {i : Int} : inO s (some (.dt (.int i))) = .ok i s := rfl
def kSome : Int → Ac (Option Int) := fun i s => .ok (some i) s
theorem kSome_e {i : Int} : kSome i s = .ok (some i) s := rfl
def opI (C : Ec) (n : Nat) : Option Ex → Ac (Option Int)
  | none => fun s => .ok none s
  | some e => fun s => ((ev C n e s).bind intA).bind kSome
theorem opI_n : opI C n none s = .ok none s := rfl
theorem opI_s {e : Ex} : opI C n (some e) s = ((ev C n e s).bind intA).bind kSome := rfl
def kSlc1 (C : Ec) (n : Nat) (lo hi : Option Ex) (x : Rv) : Ac Rv := fun s => (opI C n lo s).bind fun l => fun s => (opI C n hi s).bind fun h => slcK x l h
def kSlc2 (C : Ec) (n : Nat) (hi : Option Ex) (x : Rv) (l : Option Int) : Ac Rv := fun s => (opI C n hi s).bind (slcK x l)
theorem e_slc {e : Ex} {lo hi : Option Ex} : ev C (n + 1) (.slc e lo hi) s = (ev C n e s).bind (kSlc1 C n lo hi) := by
  show Ac.bind _ _ s = _
  unfold Ac.bind
  congr 1
  funext x s
  cases lo <;> cases hi <;> rfl
theorem kSlc1_e {lo hi : Option Ex} {x : Rv} : kSlc1 C n lo hi x s = (opI C n lo s).bind (kSlc2 C n hi x) := rfl
theorem kSlc2_e {hi : Option Ex} {x : Rv} {l : Option Int} : kSlc2 C n hi x l s = (opI C n hi s).bind (slcK x l) := rfl
def scO (s : Stt) (l h : Option Int) : Option Vw → Out Rv
  | some w => Ac.opt (w.slc l h) s
  | none => .stuck
theorem slcK_e {x : Rv} {l h : Option Int} : slcK x l h s = scO s l h (look s x) := by
  unfold slcK Ac.bind lookA scO
  cases look s x <;> rfl
theorem scO_e {l h : Option Int} {w : Vw} : scO s l h (some w) = Ac.opt (w.slc l h) s := rfl
def rvO (s : Stt) : Option (List Dat) → Out Rv
  | some xs => .ok (.own (.lst xs.reverse)) s
  | none => .stuck
def kRev (x : Rv) : Ac Rv := fun s => match look s x with
  | some w => rvO s w.lst
  | none => .stuck
theorem e_rev {e : Ex} : ev C (n + 1) (.rev e) s = (ev C n e s).bind kRev := by
  show Ac.bind _ _ s = _
  unfold Ac.bind
  congr 1
  funext x s
  unfold kRev lookA rvO
  cases look s x with
  | none => rfl
  | some w => cases h : w.lst <;> (unfold Out.bind; simp only [h]; rfl)
def rvP (s : Stt) : Option Vw → Out Rv
  | some w => rvO s w.lst
  | none => .stuck
theorem kRev_e {x : Rv} : kRev x s = rvP s (look s x) := rfl
theorem rvP_e {w : Vw} : rvP s (some w) = rvO s w.lst := rfl
theorem rvO_e {xs : List Dat} : rvO s (some xs) = .ok (.own (.lst xs.reverse)) s := rfl
/-! calls -/
def couO (env : List Slt) : Cou → Out Rv
  | .ok r sto => .ok r ⟨env, sto⟩
  | .exc x sto => .exc x ⟨env, sto⟩
  | .stuck => .stuck
theorem couO_ok {env : List Slt} {r : Rv} {sto : List Mob} : couO env (.ok r sto) = .ok r ⟨env, sto⟩ := rfl
theorem couO_exc {env : List Slt} {r : Dat} {sto : List Mob} : couO env (.exc r sto) = .exc r ⟨env, sto⟩ := rfl
theorem couA_e {c : List Dat → List Mob → Cou} {ds : List Dat} {env : List Slt} {sto : List Mob} : couA c ds ⟨env, sto⟩ = couO env (c ds sto) := by
  unfold couA couO
  cases c ds sto <;> rfl
def caO (call : List Dat → List Mob → Cou) (s : Stt) : Option (List Dat) → Out Rv
  | some xs => couA call xs s
  | none => .stuck
theorem caO_e {call : List Dat → List Mob → Cou} {xs : List Dat} : caO call s (some xs) = couA call xs s := rfl
def kCal2 (call : List Dat → List Mob → Cou) (l j : Nat) (sl : List Sl) (ds : List Dat) (zs : List Dat) : Ac Rv := fun s => if ds.length = l ∧ zs.length = j then caO call s (permD ds zs sl) else .stuck
def kCal1 (C : Ec) (n : Nat) (call : List Dat → List Mob → Cou) (l : Nat) (zs : List Ex) (sl : List Sl) (ds : List Dat) : Ac Rv := fun s => (sqD C n zs s).bind (kCal2 call l zs.length sl ds)
theorem e_call {f : Nat} {es zs : List Ex} {sl : List Sl} : ev C (n + 1) (.call f es zs sl) s = (sqD C n es s).bind (kCal1 C n (C.call f) es.length zs sl) := by
  rfl
theorem kCal1_e {call : List Dat → List Mob → Cou} {l : Nat} {zs : List Ex} {sl : List Sl} {ds : List Dat} : kCal1 C n call l zs sl ds s = (sqD C n zs s).bind (kCal2 call l zs.length sl ds) := rfl
theorem kCal2_e {call : List Dat → List Mob → Cou} {l j : Nat} {sl : List Sl} {ds zs : List Dat} : kCal2 call l j sl ds zs s = if ds.length = l ∧ zs.length = j then caO call s (permD ds zs sl) else .stuck := rfl
theorem pm_nil {ds zs : List Dat} : permD ds zs [] = some [] := rfl
def pmC : Option Dat → Option (List Dat) → Option (List Dat)
  | some d, some ds => some (d :: ds)
  | _, _ => none
theorem pm_pos {ds zs : List Dat} {i : Nat} {r : List Sl} : permD ds zs (.pos i :: r) = pmC ds[i]? (permD ds zs r) := by
  show (match ds[i]?, permD ds zs r with
    | some d, some ds' => some (d :: ds')
    | _, _ => none) = _
  unfold pmC
  cases ds[i]? <;> cases permD ds zs r <;> rfl
theorem pm_kw {ds zs : List Dat} {i : Nat} {r : List Sl} : permD ds zs (.kw i :: r) = pmC zs[i]? (permD ds zs r) := by
  show (match zs[i]?, permD ds zs r with
    | some d, some ds' => some (d :: ds')
    | _, _ => none) = _
  unfold pmC
  cases zs[i]? <;> cases permD ds zs r <;> rfl
theorem pm_dft {ds zs : List Dat} {d : Dat} {r : List Sl} : permD ds zs (.dft d :: r) = pmC (some d) (permD ds zs r) := by
  show (match some d, permD ds zs r with
    | some d, some ds' => some (d :: ds')
    | _, _ => none) = _
  unfold pmC
  cases permD ds zs r <;> rfl
theorem pmC_e {d : Dat} {ds : List Dat} : pmC (some d) (some ds) = some (d :: ds) := rfl
def bcO (s : Stt) (T : Tab) (b : Bi) (ds : List Dat) : Option Vw → Out Rv
  | some w => Ac.opt (Vw.bi T b w ds) s
  | none => .stuck
def kBi1 (C : Ec) (n : Nat) (b : Bi) (es : List Ex) (x : Rv) : Ac Rv := fun s => (sqD C n es s).bind (biK C.t.T b x)
theorem e_bi {b : Bi} {a : Ex} {es : List Ex} : ev C (n + 1) (.bi b a es) s = (ev C n a s).bind (kBi1 C n b es) := rfl
theorem kBi1_e {b : Bi} {es : List Ex} {x : Rv} : kBi1 C n b es x s = (sqD C n es s).bind (biK C.t.T b x) := rfl
theorem biK_e {T : Tab} {b : Bi} {x : Rv} {ds : List Dat} : biK T b x ds s = bcO s T b ds (look s x) := by
  unfold biK Ac.bind lookA bcO
  cases look s x <;> rfl
theorem bcO_e {T : Tab} {b : Bi} {ds : List Dat} {w : Vw} : bcO s T b ds (some w) = Ac.opt (Vw.bi T b w ds) s := rfl
/-! methods of built-in kinds -/
def smV (x : Rv) (o : Mob) (i : Nat) (s : Stt) : Option Slt → Out Unit
  | some (.own _) => .ok () { s with env := s.env.set i (.own o) }
  | some (.val (.ref n)) => if n < s.sto.length then .ok () { s with sto := s.sto.set n o } else .stuck
  | _ => .stuck
theorem sm_bor {i : Nat} {o : Mob} : setMob (.bor i) o s = smV (.bor i) o i s s.env[i]? := by
  unfold setMob smV
  rfl
theorem smV_own {x : Rv} {o o' : Mob} {i : Nat} {env : List Slt} {sto : List Mob} : smV x o i ⟨env, sto⟩ (some (.own o')) = .ok () ⟨env.set i (.own o), sto⟩ := rfl
theorem sm_ref {k : Nat} {o : Mob} {env : List Slt} {sto : List Mob} : setMob (.val (.ref k)) o ⟨env, sto⟩ = if k < sto.length then .ok () ⟨env, sto.set k o⟩ else .stuck := rfl
def mtR (x : Rv) (s : Stt) : Option (Option Mob × Rv) → Out Rv
  | some (some o, r) => (setMob x o s).bind fun _ => fun s => .ok r s
  | some (none, r) => .ok r s
  | none => .stuck
def kUnit (r : Rv) : Unit → Ac Rv := fun _ s => .ok r s
theorem kUnit_e {r : Rv} {u : Unit} : kUnit r u s = .ok r s := rfl
theorem mtR_n {x r : Rv} : mtR x s (some (none, r)) = .ok r s := rfl
theorem mtR_s {x r : Rv} {o : Mob} : mtR x s (some (some o, r)) = (setMob x o s).bind (kUnit r) := rfl
def mtO (m : Mt) (x : Rv) (ds : List Dat) (s : Stt) : Option Vw → Out Rv
  | some w => mtR x s (mthV m w ds)
  | none => .stuck
theorem mtO_e {m : Mt} {x : Rv} {ds : List Dat} {w : Vw} : mtO m x ds s (some w) = mtR x s (mthV m w ds) := rfl
theorem mthK_e {m : Mt} {x : Rv} {ds : List Dat} : mthK m x ds s = mtO m x ds s (look s x) := by
  unfold mthK mtO
  rw [look_bind]
  cases look s x with
  | none => rfl
  | some w =>
    show Ac.bind (Ac.opt (mthV m w ds)) _ s = mtR x s (mthV m w ds)
    rw [opt_bind]
    cases mthV m w ds with
    | none => rfl
    | some p =>
      obtain ⟨a, b⟩ := p
      cases a <;> rfl
def kMth1 (C : Ec) (n : Nat) (m : Mt) (es : List Ex) (x : Rv) : Ac Rv := fun s => if (look s x).bind Vw.kind = some (mtTy m) then (sqD C n es s).bind (mthK m x) else .stuck
theorem e_mth {e : Ex} {m : Mt} {es : List Ex} : ev C (n + 1) (.mth e m es) s = (ev C n e s).bind (kMth1 C n m es) := by
  show Ac.bind _ _ s = _
  unfold Ac.bind
  congr 1
  funext x s
  unfold kMth1 lookA
  cases look s x with
  | none => rfl
  | some w =>
    show (if w.kind = some (mtTy m) then _ else Ac.stk) s = if (some w).bind Vw.kind = some (mtTy m) then _ else _
    rw [ite_ap]
    rfl
theorem kMth1_e {m : Mt} {es : List Ex} {x : Rv} : kMth1 C n m es x s = if (look s x).bind Vw.kind = some (mtTy m) then (sqD C n es s).bind (mthK m x) else .stuck := rfl
theorem kd_l {xs : List Dat} : (some (Vw.mb (.lst xs))).bind Vw.kind = some "list" := rfl
theorem kd_d {xs : List (Key × Dat)} : (some (Vw.mb (.dct xs))).bind Vw.kind = some "dict" := rfl
theorem kd_dd {xs : List (Key × Dat)} : (some (Vw.dt (.dct xs))).bind Vw.kind = some "dict" := rfl
theorem kd_s {x : Str} : (some (Vw.dt (.str x))).bind Vw.kind = some "str" := rfl
theorem kn_l {xs : List Dat} : Vw.kind (.mb (.lst xs)) = some "list" := rfl
theorem kn_d {xs : List (Key × Dat)} : Vw.kind (.mb (.dct xs)) = some "dict" := rfl
theorem kn_dd {xs : List (Key × Dat)} : Vw.kind (.dt (.dct xs)) = some "dict" := rfl
theorem kn_s {x : Str} : Vw.kind (.dt (.str x)) = some "str" := rfl
theorem ty_app : mtTy .append = "list" := rfl
theorem ty_pop : mtTy .pop = "list" := rfl
theorem ty_ext : mtTy .extend = "list" := rfl
theorem ty_upp : mtTy .upper = "str" := rfl
theorem ty_spl : mtTy .split = "str" := rfl
theorem ty_joi : mtTy .join = "str" := rfl
theorem ty_rpl : mtTy .replace = "str" := rfl
theorem ty_get : mtTy .get = "dict" := rfl
/-! displays into the store -/
theorem e_sto {e : Ex} : ev C (n + 1) (.sto e) s = (ev C n e s).bind stoA := rfl
theorem stoA_e {o : Mob} {env : List Slt} {sto : List Mob} : stoA (.own o) ⟨env, sto⟩ = .ok (.val (.ref sto.length)) ⟨env, sto ++ [o]⟩ := rfl
/-! dict displays -/
def dcD (C : Ec) (n : Nat) (kvs : List (Ex × Ex)) : Ac (List (Dat × Dat)) := prsA (kvs.map fun p => ((ev C n p.1).bind toVal, (ev C n p.2).bind toVal))
def kDc1 (C : Ec) (n : Nat) (e : Ex) (r : List (Ex × Ex)) (k : Dat) : Ac (List (Dat × Dat)) := fun s => ((ev C n e s).bind toVal).bind fun v => fun s => (dcD C n r s).bind fun ps => fun s => .ok ((k, v) :: ps) s
def kDc2 (C : Ec) (n : Nat) (r : List (Ex × Ex)) (k v : Dat) : Ac (List (Dat × Dat)) := fun s => (dcD C n r s).bind fun ps => fun s => .ok ((k, v) :: ps) s
def kDc3 (k v : Dat) (ps : List (Dat × Dat)) : Ac (List (Dat × Dat)) := fun s => .ok ((k, v) :: ps) s
theorem dc_nil : dcD C n [] s = .ok [] s := rfl
theorem dc_cons {a b : Ex} {r : List (Ex × Ex)} : dcD C n ((a, b) :: r) s = ((ev C n a s).bind toVal).bind (kDc1 C n b r) := rfl
theorem kDc1_e {e : Ex} {r : List (Ex × Ex)} {k : Dat} : kDc1 C n e r k s = ((ev C n e s).bind toVal).bind (kDc2 C n r k) := rfl
theorem kDc2_e {r : List (Ex × Ex)} {k v : Dat} : kDc2 C n r k v s = (dcD C n r s).bind (kDc3 k v) := rfl
theorem kDc3_e {ps : List (Dat × Dat)} {k v : Dat} : kDc3 k v ps s = .ok ((k, v) :: ps) s := rfl
def dcR (s : Stt) : Option (List (Key × Dat)) → Out Rv
  | some kvs => if kvs.length ≤ 15 then .ok (.own (.dct (mergeD [] kvs))) s else .stuck
  | none => .stuck
def kDic (ps : List (Dat × Dat)) : Ac Rv := fun s => dcR s (keysOf ps)
theorem kDic_e {ps : List (Dat × Dat)} : kDic ps s = dcR s (keysOf ps) := rfl
theorem dcR_e {kvs : List (Key × Dat)} : dcR s (some kvs) = if kvs.length ≤ 15 then .ok (.own (.dct (mergeD [] kvs))) s else .stuck := rfl
theorem e_dic0 : ev C (n + 1) (.dic []) s = .ok (.own (.dct [])) s := rfl
theorem e_dic {p : Ex × Ex} {r : List (Ex × Ex)} : ev C (n + 1) (.dic (p :: r)) s = (dcD C n (p :: r) s).bind kDic := by
  show Ac.bind _ _ s = _
  unfold Ac.bind
  congr 1
  funext ps s
  unfold kDic dcR
  cases keysOf ps with
  | none => rfl
  | some kvs =>
    show (if _ then Ac.ret _ else Ac.stk) s = _
    rw [ite_ap]
    rfl
def kyC : Option Key → Dat → Option (List (Key × Dat)) → Option (List (Key × Dat))
  | some k, d, some kvs => some ((k, d) :: kvs)
  | _, _, _ => none
theorem ky_nil : keysOf [] = some [] := rfl
theorem ky_cons {k v : Dat} {r : List (Dat × Dat)} : keysOf ((k, v) :: r) = kyC (kyD k) v (keysOf r) := by
  show (match kyD k, keysOf r with
    | some k, some kvs => some ((k, v) :: kvs)
    | _, _ => none) = _
  unfold kyC
  cases kyD k <;> cases keysOf r <;> rfl
theorem kyC_e {k : Key} {v : Dat} {r : List (Key × Dat)} : kyC (some k) v (some r) = some ((k, v) :: r) := rfl
theorem ky_int {i : Int} : kyD (.int i) = some (.inl i) := rfl
theorem ky_str {x : Str} : kyD (.str x) = some (.inr x) := rfl
/-! comprehensions -/
def kLc (a : Rv → Ac Unit) (mt : Ac Bool) (me : Ac Dat) (own : List Nat) (ds : List Dat) : Ac Rv := fun s => (trnA (stpA a mt me own) [] ds ⟨wipS s.env own, s.sto⟩).bind fun ys => fun s1 => .ok (.own (.lst ys)) { s1 with env := bakS s.env s1.env own }
def kLc2 (env : List Slt) (own : List Nat) (ys : List Dat) : Ac Rv := fun s1 => .ok (.own (.lst ys)) { s1 with env := bakS env s1.env own }
theorem e_lc {e : Ex} {t : Tg} {src : Src} {cond : Option Ex} {own : List Nat} : ev C (n + 1) (.lc e t src cond own) s = (srcA C n src s).bind (kLc (tgA C n t) (condA (evT C n) cond) ((ev C n e).bind toVal) own) := rfl
theorem kLc_e {a : Rv → Ac Unit} {mt : Ac Bool} {me : Ac Dat} {own : List Nat} {ds : List Dat} {env : List Slt} {sto : List Mob} : kLc a mt me own ds ⟨env, sto⟩ = (trnA (stpA a mt me own) [] ds ⟨wipS env own, sto⟩).bind (kLc2 env own) := rfl
theorem kLc2_e {env env1 : List Slt} {sto1 : List Mob} {own : List Nat} {ys : List Dat} : kLc2 env own ys ⟨env1, sto1⟩ = .ok (.own (.lst ys)) ⟨bakS env env1 own, sto1⟩ := rfl
/-! sources -/
theorem s_ex {e : Ex} : srcA C (n + 1) (.ex e) s = walkA (ev C n e) s := rfl
def kWlk (x : Rv) : Ac (List Dat) := fun s => (toVal x s).bind fun d => Ac.opt (walkD d)
def kWlk2 (d : Dat) : Ac (List Dat) := Ac.opt (walkD d)
theorem walkA_e {m : Ac Rv} : walkA m s = (m s).bind kWlk := rfl
theorem kWlk_e {x : Rv} : kWlk x s = (toVal x s).bind kWlk2 := rfl
theorem kWlk2_e {d : Dat} : kWlk2 d s = Ac.opt (walkD d) s := rfl
theorem wd_lst {xs : List Dat} : walkD (.lst xs) = some xs := rfl
theorem wd_tup {xs : List Dat} : walkD (.tup xs) = some xs := rfl
theorem wd_str {x : Str} : walkD (.str x) = some (signs x) := rfl
def kRg1 (d : Dat) : Ac (List Dat) := Ac.opt (rngD [d])
theorem s_rng1 {a : Ex} : srcA C (n + 1) (.rng1 a) s = ((ev C n a s).bind toVal).bind kRg1 := rfl
theorem kRg1_e {j : Int} : kRg1 (.int j) s = if rngOk j then .ok (intsD 0 j.toNat) s else .stuck := by
  show Ac.opt (if rngOk j then some (intsD 0 j.toNat) else none) s = _
  split <;> rfl
def kRg2 (C : Ec) (n : Nat) (b : Ex) (d : Dat) : Ac (List Dat) := fun s => ((ev C n b s).bind toVal).bind fun d' => Ac.opt (rngD [d, d'])
def kRg3 (d d' : Dat) : Ac (List Dat) := Ac.opt (rngD [d, d'])
theorem s_rng2 {a b : Ex} : srcA C (n + 1) (.rng2 a b) s = ((ev C n a s).bind toVal).bind (kRg2 C n b) := rfl
theorem kRg2_e {b : Ex} {d : Dat} : kRg2 C n b d s = ((ev C n b s).bind toVal).bind (kRg3 d) := rfl
theorem kRg3_e {i j : Int} : kRg3 (.int i) (.int j) s = if (rngOk i && rngOk j) = true then .ok (intsD i (j - i).toNat) s else .stuck := by
  show Ac.opt (if _ then some _ else none) s = _
  split <;> rfl
def kEnm (d : Dat) : Ac (List Dat) := Ac.opt (enmK d)
theorem s_enm {a : Ex} : srcA C (n + 1) (.enm a) s = ((ev C n a s).bind toVal).bind kEnm := rfl
theorem kEnm_e {xs : List Dat} : kEnm (.lst xs) s = .ok (enumD 0 xs) s := rfl
def kZip (C : Ec) (n : Nat) (b : Ex) (d : Dat) : Ac (List Dat) := fun s => ((ev C n b s).bind toVal).bind fun d' => Ac.opt (zipK d d')
def kZip2 (d d' : Dat) : Ac (List Dat) := Ac.opt (zipK d d')
theorem s_zip {a b : Ex} : srcA C (n + 1) (.zip a b) s = ((ev C n a s).bind toVal).bind (kZip C n b) := rfl
theorem kZip_e {b : Ex} {d : Dat} : kZip C n b d s = ((ev C n b s).bind toVal).bind (kZip2 d) := rfl
theorem kZip2_e {xs ys : List Dat} : kZip2 (.lst xs) (.lst ys) s = .ok ((xs.zip ys).map fun p => .tup [p.1, p.2]) s := rfl
/-! targets -/
theorem g_slot {i : Nat} {x : Rv} : tgA C (n + 1) (.slot i) x s = setA i x s := rfl
def kSet (i : Nat) (d : Dat) : Ac Unit := setSlot i (.val d)
theorem setA_val {i : Nat} {d : Dat} {env : List Slt} {sto : List Mob} : setA i (.val d) ⟨env, sto⟩ = .ok () ⟨env.set i (.val d), sto⟩ := rfl
theorem setA_own {i : Nat} {o : Mob} {env : List Slt} {sto : List Mob} : setA i (.own o) ⟨env, sto⟩ = .ok () ⟨env.set i (.own o), sto⟩ := rfl
theorem setA_bor {i j : Nat} : setA i (.bor j) s = (toVal (.bor j) s).bind (kSet i) := rfl
theorem kSet_e {i : Nat} {d : Dat} {env : List Slt} {sto : List Mob} : kSet i d ⟨env, sto⟩ = .ok () ⟨env.set i (.val d), sto⟩ := rfl
def tgsD (C : Ec) (n : Nat) (ts : List Tg) (ds : List Dat) : Ac Unit := tgsA (fun t => tgA C n t) ts ds
def kTgs (C : Ec) (n : Nat) (ts : List Tg) (ds : List Dat) : Unit → Ac Unit := fun _ => tgsD C n ts ds
theorem tgs_nil : tgsD C n [] [] s = .ok () s := rfl
theorem tgs_cons {t : Tg} {ts : List Tg} {d : Dat} {ds : List Dat} : tgsD C n (t :: ts) (d :: ds) s = (tgA C n t (.val d) s).bind (kTgs C n ts ds) := rfl
theorem kTgs_e {ts : List Tg} {ds : List Dat} {u : Unit} : kTgs C n ts ds u s = tgsD C n ts ds s := rfl
def upR (C : Ec) (n : Nat) (ts : List Tg) (s : Stt) : Option (List Dat) → Out Unit
  | some ds => if ds.length = ts.length then tgsD C n ts ds s else .stuck
  | none => .stuck
def upO (C : Ec) (n : Nat) (ts : List Tg) (s : Stt) : Option Vw → Out Unit
  | some w => upR C n ts s w.tup
  | none => .stuck
theorem g_tup {ts : List Tg} {x : Rv} : tgA C (n + 1) (.tup ts) x s = upO C n ts s (look s x) := by
  show unpA ts.length (tgsA (fun t => tgA C n t) ts) x s = _
  unfold unpA upO
  rw [look_bind]
  cases look s x with
  | none => rfl
  | some w =>
    show (match w.tup with
      | some ds => if ds.length = ts.length then tgsA (fun t => tgA C n t) ts ds else Ac.stk
      | none => Ac.stk) s = upR C n ts s w.tup
    cases w.tup with
    | none => rfl
    | some ds =>
      show (if ds.length = ts.length then tgsA (fun t => tgA C n t) ts ds else Ac.stk : Ac Unit) s = _
      rw [ite_ap]
      rfl
theorem upO_e {ts : List Tg} {w : Vw} : upO C n ts s (some w) = upR C n ts s w.tup := rfl
theorem upR_e {ts : List Tg} {ds : List Dat} : upR C n ts s (some ds) = if ds.length = ts.length then tgsD C n ts ds s else .stuck := rfl
def kStp2 (d : Dat) (o : Rv) (k : Rv) : Ac Unit := stpK d o k
def kStp1 (C : Ec) (n : Nat) (i : Ex) (d : Dat) (o : Rv) : Ac Unit := fun s => (ev C n i s).bind (stpK d o)
def kStp0 (C : Ec) (n : Nat) (o i : Ex) (d : Dat) : Ac Unit := fun s => (ev C n o s).bind (kStp1 C n i d)
theorem g_sub {o i : Ex} {x : Rv} : tgA C (n + 1) (.sub o i) x s = (toVal x s).bind (kStp0 C n o i) := rfl
theorem kStp0_e {o i : Ex} {d : Dat} : kStp0 C n o i d s = (ev C n o s).bind (kStp1 C n i d) := rfl
theorem kStp1_e {i : Ex} {d : Dat} {o : Rv} : kStp1 C n i d o s = (ev C n i s).bind (stpK d o) := rfl
def spR (o : Rv) (s : Stt) : Option Mob → Out Unit
  | some o' => setMob o o' s
  | none => .stuck
def spO (d : Dat) (o : Rv) (s : Stt) : Option Vw → Option Vw → Out Unit
  | some kw, some w => spR o s (subO d w kw)
  | _, _ => .stuck
theorem stpK_e {d : Dat} {o k : Rv} : stpK d o k s = spO d o s (look s k) (look s o) := by
  unfold stpK spO
  rw [look_bind]
  cases look s k with
  | none => rfl
  | some kw =>
    show Ac.bind (lookA o) _ s = _
    rw [look_bind]
    cases look s o with
    | none => rfl
    | some w =>
      show Ac.bind (Ac.opt (subO d w kw)) _ s = spR o s (subO d w kw)
      rw [opt_bind]
      cases subO d w kw <;> rfl
theorem spO_e {d : Dat} {o : Rv} {kw w : Vw} : spO d o s (some kw) (some w) = spR o s (subO d w kw) := rfl
theorem spR_e {o : Rv} {o' : Mob} : spR o s (some o') = setMob o o' s := rfl
/-! statements -/
def sqS (C : Ec) (n : Nat) (r : List Sm) : Ac Flw := seqsA (ex C n) r
def kSts (C : Ec) (n : Nat) (r : List Sm) : Flw → Ac Flw
  | .nx => sqS C n r
  | f => fun s => .ok f s
theorem q_nil : sqS C n [] s = .ok .nx s := rfl
theorem q_cons {st : Sm} {r : List Sm} : sqS C n (st :: r) s = (ex C n st s).bind (kSts C n r) := by
  rfl
theorem kSts_nx {r : List Sm} : kSts C n r .nx s = sqS C n r s := rfl
theorem kSts_rt {r : List Sm} {x : Rv} : kSts C n r (.rt x) s = .ok (.rt x) s := rfl
theorem kSts_bk {r : List Sm} : kSts C n r .bk s = .ok .bk s := rfl
theorem kSts_ct {r : List Sm} : kSts C n r .ct s = .ok .ct s := rfl
def kNx : Unit → Ac Flw := fun _ s => .ok .nx s
theorem kNx_e {u : Unit} : kNx u s = .ok .nx s := rfl
def kAsg (C : Ec) (n : Nat) (t : Tg) (x : Rv) : Ac Flw := fun s => (tgA C n t x s).bind kNx
theorem x_asg {t : Tg} {e : Ex} : ex C (n + 1) (.asg t e) s = (ev C n e s).bind (kAsg C n t) := rfl
theorem kAsg_e {t : Tg} {x : Rv} : kAsg C n t x s = (tgA C n t x s).bind kNx := rfl
def kExp (x : Rv) : Ac Flw := fun s => .ok .nx s
theorem kExp_e {x : Rv} : kExp x s = .ok .nx s := rfl
theorem x_exp {e : Ex} : ex C (n + 1) (.exp e) s = (ev C n e s).bind kExp := rfl
theorem x_ret0 : ex C (n + 1) (.ret none) s = .ok (.rt (.val .non)) s := rfl
theorem x_ret {e : Ex} : ex C (n + 1) (.ret (some e)) s = (ev C n e s).bind retA := rfl
theorem retA_val {d : Dat} : retA (.val d) s = .ok (.rt (.val d)) s := rfl
theorem retA_own {o : Mob} : retA (.own o) s = .ok (.rt (.own o)) s := rfl
def rtB (i : Nat) (s : Stt) : Option Slt → Out Flw
  | some (.own o) => .ok (.rt (.own o)) { s with env := s.env.set i .no }
  | some (.val d) => .ok (.rt (.val d)) s
  | _ => .stuck
theorem retA_bor {i : Nat} : retA (.bor i) s = rtB i s s.env[i]? := by
  unfold retA rtB
  rfl
theorem rtB_own {i : Nat} {o : Mob} {env : List Slt} {sto : List Mob} : rtB i ⟨env, sto⟩ (some (.own o)) = .ok (.rt (.own o)) ⟨env.set i .no, sto⟩ := rfl
def kIf (C : Ec) (n : Nat) (a b : List Sm) : Bool → Ac Flw
  | true => sqS C n a
  | false => sqS C n b
theorem kIf_t {a b : List Sm} : kIf C n a b true s = sqS C n a s := rfl
theorem kIf_f {a b : List Sm} : kIf C n a b false s = sqS C n b s := rfl
theorem x_ife {c : Ex} {a b : List Sm} : ex C (n + 1) (.ife c a b) s = (evT C n c s).bind (kIf C n a b) := by
  show (evT C n c s).bind _ = _
  congr 1
  funext k s
  cases k <;> rfl
theorem x_pas : ex C (n + 1) .pas s = .ok .nx s := rfl
theorem x_brk : ex C (n + 1) .brk s = .ok .bk s := rfl
theorem x_cnt : ex C (n + 1) .cnt s = .ok .ct s := rfl
theorem x_whl {c : Ex} {b : List Sm} : ex C (n + 1) (.whl c b) s = whlA (evT C n c) (sqS C n b) C.wf s := rfl
def kFor (C : Ec) (n : Nat) (t : Tg) (b els : List Sm) : List Dat → Ac Flw := forA (tgA C n t) (sqS C n b) (sqS C n els)
theorem kFor_e {t : Tg} {b els : List Sm} {ds : List Dat} : kFor C n t b els ds s = forA (tgA C n t) (sqS C n b) (sqS C n els) ds s := rfl
theorem x_for {t : Tg} {src : Src} {b els : List Sm} : ex C (n + 1) (.for t src b els) s = (srcA C n src s).bind (kFor C n t b els) := rfl
def kPar2 (i j : Nat) (ds : List Dat) : Ac Flw := fun s => match ds with
  | [a, b] => .ok .nx { s with env := (s.env.set i (.val a)).set j (.val b) }
  | _ => .stuck
theorem x_par2 {i j : Nat} {es : List Ex} : ex C (n + 1) (.par2 i j es) s = (sqD C n es s).bind (kPar2 i j) := by
  show Ac.bind _ _ s = _
  unfold Ac.bind
  congr 1
  funext ds s
  unfold kPar2
  match ds with
  | [] => rfl
  | [_] => rfl
  | [_, _] => rfl
  | _ :: _ :: _ :: _ => rfl
theorem kPar2_e {i j : Nat} {a b : Dat} {env : List Slt} {sto : List Mob} : kPar2 i j [a, b] ⟨env, sto⟩ = .ok .nx ⟨(env.set i (.val a)).set j (.val b), sto⟩ := rfl
def kPar3 (i j l : Nat) (ds : List Dat) : Ac Flw := fun s => match ds with
  | [a, b, c] => .ok .nx { s with env := ((s.env.set i (.val a)).set j (.val b)).set l (.val c) }
  | _ => .stuck
theorem x_par3 {i j l : Nat} {es : List Ex} : ex C (n + 1) (.par3 i j l es) s = (sqD C n es s).bind (kPar3 i j l) := by
  show Ac.bind _ _ s = _
  unfold Ac.bind
  congr 1
  funext ds s
  unfold kPar3
  match ds with
  | [] => rfl
  | [_] => rfl
  | [_, _] => rfl
  | [_, _, _] => rfl
  | _ :: _ :: _ :: _ :: _ => rfl
theorem kPar3_e {i j l : Nat} {a b c : Dat} {env : List Slt} {sto : List Mob} : kPar3 i j l [a, b, c] ⟨env, sto⟩ = .ok .nx ⟨((env.set i (.val a)).set j (.val b)).set l (.val c), sto⟩ := rfl
end
/-! loops -/
section
variable {a : Rv → Ac Unit} {mb me : Ac Flw} {s : Stt}
def kFor1 (mb : Ac Flw) (k : Ac Flw) : Unit → Ac Flw := fun _ s => (mb s).bind fun f => match f with
  | .nx => k
  | .ct => k
  | .bk => nxA
  | .rt x => Ac.ret (.rt x)
def kFor2 (k : Ac Flw) : Flw → Ac Flw
  | .nx => k
  | .ct => k
  | .bk => nxA
  | .rt x => Ac.ret (.rt x)
theorem f_nil : forA a mb me [] s = me s := rfl
theorem f_cons {d : Dat} {r : List Dat} : forA a mb me (d :: r) s = (a (.val d) s).bind (kFor1 mb (forA a mb me r)) := by
  show Ac.bind _ _ s = _
  unfold Ac.bind
  congr 1
theorem kFor1_e {k : Ac Flw} {u : Unit} : kFor1 mb k u s = (mb s).bind (kFor2 k) := by
  rfl
theorem kFor2_nx {k : Ac Flw} : kFor2 k .nx s = k s := rfl
theorem kFor2_ct {k : Ac Flw} : kFor2 k .ct s = k s := rfl
theorem kFor2_bk {k : Ac Flw} : kFor2 k .bk s = .ok .nx s := rfl
theorem kFor2_rt {k : Ac Flw} {x : Rv} : kFor2 k (.rt x) s = .ok (.rt x) s := rfl
end
end En
set_option maxHeartbeats 4000000
/-! En27: the operations on written shapes, for simp. -/
namespace En
open PySem PySem.Spec PyProof.Rows L2
theorem szl : sizeLine = 16777216 := rfl
/-! texts -/
theorem map_toNat_inj : ∀ {a b : List Char}, a.map Char.toNat = b.map Char.toNat → a = b
  | [], [], _ => rfl
  | [], _ :: _, h => by cases h
  | _ :: _, [], h => by cases h
  | x :: xs, y :: ys, h => by
    rw [List.map_cons, List.map_cons] at h
    obtain ⟨h1, h2⟩ := List.cons.inj h
    rw [map_toNat_inj h2, Char.toNat_inj.mp h1]
theorem str_inj (a b : String) : (Str.ofString a = Str.ofString b) = (a = b) := by
  refine propext ⟨fun h => ?_, fun h => h ▸ rfl⟩
  rw [Str.ofString_eq_toList, Str.ofString_eq_toList] at h
  have h1 : (a.toList.map Char.toNat).toArray = (b.toList.map Char.toNat).toArray := congrArg Str.cps h
  have h2 := map_toNat_inj (by simpa using congrArg Array.toList h1)
  exact String.toList_inj.mp h2
theorem str_beq (a b : String) : (Str.ofString a == Str.ofString b) = (a == b) := by
  by_cases h : a = b
  · subst h
    rw [beq_self_eq_true, beq_self_eq_true]
  · have : Str.ofString a ≠ Str.ofString b := fun e => h ((str_inj a b).mp e)
    rw [beq_eq_false_iff_ne.mpr this, beq_eq_false_iff_ne.mpr h]
/-! truth -/
theorem tr_non : Vw.truth (.dt .non) = some false := rfl
theorem tr_bl {b : Bool} : Vw.truth (.dt (.bl b)) = some b := rfl
theorem tr_int {i : Int} : Vw.truth (.dt (.int i)) = some (i != 0) := rfl
theorem tr_tup {xs : List Dat} : Vw.truth (.dt (.tup xs)) = some (!xs.isEmpty) := rfl
theorem tr_lst {xs : List Dat} : Vw.truth (.dt (.lst xs)) = some (!xs.isEmpty) := rfl
theorem tr_mls {xs : List Dat} : Vw.truth (.mb (.lst xs)) = some (!xs.isEmpty) := rfl
/-! comparisons -/
theorem cm_eq {w w' : Vw} : Vw.cmp .eq w w' = w.eq w' := rfl
theorem cm_ne {w w' : Vw} : Vw.cmp .ne w w' = (w.eq w').map not := rfl
theorem cm_lt {i j : Int} : Vw.cmp .lt (.dt (.int i)) (.dt (.int j)) = some (decide (i < j)) := rfl
theorem cm_le {i j : Int} : Vw.cmp .le (.dt (.int i)) (.dt (.int j)) = some (decide (i ≤ j)) := rfl
theorem cm_gt {i j : Int} : Vw.cmp .gt (.dt (.int i)) (.dt (.int j)) = some (decide (j < i)) := rfl
theorem cm_ge {i j : Int} : Vw.cmp .ge (.dt (.int i)) (.dt (.int j)) = some (decide (j ≤ i)) := rfl
theorem cm_ltS {i j : Str} : Vw.cmp .lt (.dt (.str i)) (.dt (.str j)) = some (decide (i.cps.toList < j.cps.toList)) := rfl
theorem cm_leS {i j : Str} : Vw.cmp .le (.dt (.str i)) (.dt (.str j)) = some (!decide (j.cps.toList < i.cps.toList)) := rfl
theorem cm_in {w w' : Vw} : Vw.cmp .isin w w' = w'.isin w := rfl
theorem cm_nin {w w' : Vw} : Vw.cmp .notin w w' = (w'.isin w).map not := rfl
theorem cm_isb {a b : Bool} : Vw.cmp .is (.dt (.bl a)) (.dt (.bl b)) = some (decide (a = b)) := rfl
theorem cm_isn {w : Vw} : Vw.cmp .is w (.dt .non) = some w.isNon := by
  unfold Vw.cmp
  cases w with
  | dt d => cases d <;> rfl
  | mb o => rfl
theorem cm_isnn {w : Vw} : Vw.cmp .isnot w (.dt .non) = some (!w.isNon) := by
  unfold Vw.cmp
  cases w with
  | dt d => cases d <;> rfl
  | mb o => rfl
theorem nn_non : Vw.isNon (.dt .non) = true := rfl
theorem nn_bl {b : Bool} : Vw.isNon (.dt (.bl b)) = false := rfl
theorem nn_int {b : Int} : Vw.isNon (.dt (.int b)) = false := rfl
theorem nn_str {b : Str} : Vw.isNon (.dt (.str b)) = false := rfl
theorem nn_tup {b : List Dat} : Vw.isNon (.dt (.tup b)) = false := rfl
theorem nn_lst {b : List Dat} : Vw.isNon (.dt (.lst b)) = false := rfl
theorem nn_obj {c : Nat} {b : List (Str × Dat)} : Vw.isNon (.dt (.obj c b)) = false := rfl
theorem nn_err {c : Nat} {b : List (Str × Dat)} : Vw.isNon (.dt (.err c b)) = false := rfl
theorem nn_mb {o : Mob} : Vw.isNon (.mb o) = false := rfl
theorem eq_dd {d e : Dat} : Vw.eq (.dt d) (.dt e) = if depD d ≤ 60 then eqD d e else none := rfl
theorem eq_ml {xs : List Dat} {e : Dat} : Vw.eq (.mb (.lst xs)) (.dt e) = if depD (.lst xs) ≤ 60 then eqD (.lst xs) e else none := rfl
theorem eq_lm {xs : List Dat} {d : Dat} : Vw.eq (.dt d) (.mb (.lst xs)) = if depD d ≤ 60 then eqD d (.lst xs) else none := rfl
theorem eq_mm {xs ys : List Dat} : Vw.eq (.mb (.lst xs)) (.mb (.lst ys)) = if depD (.lst xs) ≤ 60 then eqD (.lst xs) (.lst ys) else none := rfl
theorem dp_non : depD .non = 0 := rfl
theorem dp_bl {b : Bool} : depD (.bl b) = 0 := rfl
theorem dp_int {b : Int} : depD (.int b) = 0 := rfl
theorem dp_str {b : Str} : depD (.str b) = 0 := rfl
theorem dp_tup {b : List Dat} : depD (.tup b) = depL b + 1 := rfl
theorem dp_lst {b : List Dat} : depD (.lst b) = depL b + 1 := rfl
theorem dl_nil : depL [] = 0 := rfl
theorem dl_cons {d : Dat} {b : List Dat} : depL (d :: b) = max (depD d) (depL b) := rfl
theorem q_nn : eqD .non .non = some true := rfl
theorem q_bb {a b : Bool} : eqD (.bl a) (.bl b) = some (a == b) := rfl
theorem q_ii {a b : Int} : eqD (.int a) (.int b) = some (a == b) := rfl
theorem q_ss {a b : Str} : eqD (.str a) (.str b) = some (a == b) := rfl
theorem q_tt {a b : List Dat} : eqD (.tup a) (.tup b) = eqL a b := rfl
theorem q_ll {a b : List Dat} : eqD (.lst a) (.lst b) = if a.length = b.length then eqL a b else some false := rfl
theorem q_sn {a : Str} : eqD (.str a) .non = some false := rfl
theorem q_ns {a : Str} : eqD .non (.str a) = some false := rfl
theorem q_is {a : Int} {b : Str} : eqD (.int a) (.str b) = some false := rfl
theorem q_si {a : Int} {b : Str} : eqD (.str b) (.int a) = some false := rfl
theorem q_st {a : Str} {b : List Dat} : eqD (.str a) (.tup b) = some false := rfl
theorem q_ts {a : Str} {b : List Dat} : eqD (.tup b) (.str a) = some false := rfl
theorem q_nt {b : List Dat} : eqD .non (.tup b) = some false := rfl
theorem q_tn {b : List Dat} : eqD (.tup b) .non = some false := rfl
theorem q_in {i : Int} : eqD (.int i) .non = some false := rfl
theorem q_ni {i : Int} : eqD .non (.int i) = some false := rfl
def andO : Option Bool → Option Bool → Option Bool
  | some a, some b => some (a && b)
  | _, _ => none
def orO : Option Bool → Option Bool → Option Bool
  | some a, some b => some (a || b)
  | _, _ => none
theorem andO_e {a b : Bool} : andO (some a) (some b) = some (a && b) := rfl
theorem orO_e {a b : Bool} : orO (some a) (some b) = some (a || b) := rfl
theorem ql_nil : eqL [] [] = some true := rfl
theorem ql_nc {y : Dat} {ys : List Dat} : eqL [] (y :: ys) = some false := rfl
theorem ql_cn {y : Dat} {ys : List Dat} : eqL (y :: ys) [] = some false := rfl
theorem ql_cc {x y : Dat} {xs ys : List Dat} : eqL (x :: xs) (y :: ys) = andO (eqD x y) (eqL xs ys) := by
  show (match eqD x y, eqL xs ys with
    | some a, some b => some (a && b)
    | _, _ => none) = _
  unfold andO
  rfl
theorem in_nil {x : Dat} : inL x [] = some false := rfl
theorem in_cons {x y : Dat} {r : List Dat} : inL x (y :: r) = orO (eqD y x) (inL x r) := by
  show (match eqD y x, inL x r with
    | some a, some b => some (a || b)
    | _, _ => none) = _
  unfold orO
  rfl
theorem in_tup {xs : List Dat} {d : Dat} : Vw.isin (.dt (.tup xs)) (.dt d) = if depL xs ≤ 60 then inL d xs else none := rfl
theorem in_lst {xs : List Dat} {d : Dat} : Vw.isin (.dt (.lst xs)) (.dt d) = if depL xs ≤ 60 then inL d xs else none := rfl
theorem in_mls {xs : List Dat} {d : Dat} : Vw.isin (.mb (.lst xs)) (.dt d) = if depL xs ≤ 60 then inL d xs else none := rfl
theorem in_sgn {z : Str} {k : Nat} : Vw.isin (.dt (.str z)) (.dt (.str ⟨#[k]⟩)) = some (decide (k ∈ z.cps.toList)) := rfl
theorem in_mdS {kvs : List (Key × Dat)} {c : Str} : Vw.isin (.mb (.dct kvs)) (.dt (.str c)) = some (getK kvs (.inr c)).isSome := rfl
theorem in_dS {kvs : List (Key × Dat)} {c : Str} : Vw.isin (.dt (.dct kvs)) (.dt (.str c)) = some (getK kvs (.inr c)).isSome := rfl
/-! numbers, sums -/
theorem bi_ii {op : BOp} {i j : Int} : Vw.bin op (.dt (.int i)) (.dt (.int j)) = (binI op i j).map fun k => .val (.int k) := by
  cases op <;> rfl
def mpI : Option Int → Option Rv := Option.map fun k => .val (.int k)
theorem bn_ii {op : BOp} {i j : Int} : Vw.bin op (.dt (.int i)) (.dt (.int j)) = mpI (binI op i j) := bi_ii
theorem mpI_e {k : Int} : mpI (some k) = some (.val (.int k)) := rfl
theorem ib_add {i j : Int} : binI .add i j = some (i + j) := rfl
theorem ib_sub {i j : Int} : binI .sub i j = some (i - j) := rfl
theorem ib_mul {i j : Int} : binI .mul i j = if mulOk i j then some (i * j) else none := rfl
theorem ib_fdiv {i j : Int} : binI .fdiv i j = if 0 < j ∧ j < 1073741824 then some (i / j) else none := rfl
theorem ib_mod {i j : Int} : binI .mod i j = if 0 < j then some (i % j) else none := rfl
theorem ib_pow {i j : Int} : binI .pow i j = if 0 ≤ j ∧ j ≤ 1000000 ∧ i.natAbs < 2 ^ 64 then some (i ^ j.toNat) else none := rfl
theorem pw18 : binI .pow 10 18 = some 1000000000000000000 := by rfl
theorem pw30 : binI .pow 10 30 = some 1000000000000000000000000000000 := by rfl
theorem pw40 : binI .pow 10 40 = some 10000000000000000000000000000000000000000 := by rfl
theorem bn_ss {a b : Str} : Vw.bin .add (.dt (.str a)) (.dt (.str b)) = if a.length + b.length ≤ sizeLine then some (.val (.str (a ++ b))) else none := rfl
theorem bn_tt {a b : List Dat} : Vw.bin .add (.dt (.tup a)) (.dt (.tup b)) = if a.length + b.length ≤ sizeLine then some (.val (.tup (a ++ b))) else none := rfl
theorem bn_sm {a b : List Dat} : Vw.bin .add (.dt (.scr a)) (.mb (.lst b)) = if a.length + b.length ≤ sizeLine then some (.own (.lst (a ++ b))) else none := rfl
theorem bn_ll {a b : List Dat} : Vw.bin .add (.dt (.lst a)) (.dt (.lst b)) = if a.length + b.length ≤ sizeLine then some (.own (.lst (a ++ b))) else none := rfl
theorem bn_lm {a b : List Dat} : Vw.bin .add (.dt (.lst a)) (.mb (.lst b)) = if a.length + b.length ≤ sizeLine then some (.own (.lst (a ++ b))) else none := rfl
theorem bn_ml {a b : List Dat} : Vw.bin .add (.mb (.lst a)) (.dt (.lst b)) = if a.length + b.length ≤ sizeLine then some (.own (.lst (a ++ b))) else none := rfl
theorem bn_mm {a b : List Dat} : Vw.bin .add (.mb (.lst a)) (.mb (.lst b)) = if a.length + b.length ≤ sizeLine then some (.own (.lst (a ++ b))) else none := rfl
theorem bn_xl {a : List Dat} {k : Int} : Vw.bin .mul (.dt (.lst a)) (.dt (.int k)) = if repOk a.length k then some (.own (.lst (List.replicate k.toNat a).flatten)) else none := rfl
theorem bn_xm {a : List Dat} {k : Int} : Vw.bin .mul (.mb (.lst a)) (.dt (.int k)) = if repOk a.length k then some (.own (.lst (List.replicate k.toNat a).flatten)) else none := rfl
/-! lengths, items, slices -/
theorem ln_str {x : Str} : Vw.len (.dt (.str x)) = if x.length ≤ sizeLine then some x.length else none := rfl
theorem ln_tup {x : List Dat} : Vw.len (.dt (.tup x)) = some x.length := rfl
theorem ln_lst {x : List Dat} : Vw.len (.dt (.lst x)) = some x.length := rfl
theorem ln_mls {x : List Dat} : Vw.len (.mb (.lst x)) = some x.length := rfl
theorem ln_mdc {x : List (Key × Dat)} : Vw.len (.mb (.dct x)) = some x.length := rfl
theorem sb_str {x : Str} {k : Int} : Vw.sub (.dt (.str x)) (.dt (.int k)) = if x.length ≤ sizeLine then (atI x.cps.toList k).map fun c => .str ⟨#[c]⟩ else none := rfl
theorem sb_tup {xs : List Dat} {k : Int} : Vw.sub (.dt (.tup xs)) (.dt (.int k)) = atI xs k := rfl
theorem sb_lst {xs : List Dat} {k : Int} : Vw.sub (.dt (.lst xs)) (.dt (.int k)) = atI xs k := rfl
theorem sb_mls {xs : List Dat} {k : Int} : Vw.sub (.mb (.lst xs)) (.dt (.int k)) = atI xs k := rfl
theorem sb_dcS {xs : List (Key × Dat)} {k : Str} : Vw.sub (.dt (.dct xs)) (.dt (.str k)) = getK xs (.inr k) := rfl
theorem sb_mdS {xs : List (Key × Dat)} {k : Str} : Vw.sub (.mb (.dct xs)) (.dt (.str k)) = getK xs (.inr k) := rfl
theorem sc_str {x : Str} {lo hi : Option Int} : Vw.slc (.dt (.str x)) lo hi = if x.length ≤ sizeLine then some (.val (.str (cutS x lo hi))) else none := rfl
theorem sc_tup {x : List Dat} {lo hi : Option Int} : Vw.slc (.dt (.tup x)) lo hi = some (.val (.tup (cutD x lo hi))) := rfl
theorem sc_lst {x : List Dat} {lo hi : Option Int} : Vw.slc (.dt (.lst x)) lo hi = some (.own (.lst (cutD x lo hi))) := rfl
theorem sc_mls {x : List Dat} {lo hi : Option Int} : Vw.slc (.mb (.lst x)) lo hi = some (.own (.lst (cutD x lo hi))) := rfl
theorem at_0 {α : Type} {x : α} {r : List α} : atI (x :: r) 0 = some x := by
  unfold atI ixN
  simp
theorem at_s {α : Type} {x : α} {r : List α} {i : Int} (h : 0 < i) : atI (x :: r) i = atI r (i - 1) := by
  unfold atI ixN
  simp only [List.length_cons, Int.natCast_add, Int.natCast_one]
  by_cases hi : i < r.length + 1
  · rw [if_pos (by omega : 0 ≤ i), if_pos hi, if_pos (by omega : 0 ≤ i - 1), if_pos (by omega : i - 1 < r.length)]
    have e : i.toNat = (i - 1).toNat + 1 := by omega
    show (x :: r)[i.toNat]? = r[(i - 1).toNat]?
    rw [e, List.getElem?_cons_succ]
  · rw [if_pos (by omega : 0 ≤ i), if_neg hi, if_pos (by omega : 0 ≤ i - 1), if_neg (by omega : ¬ i - 1 < r.length)]
    rfl
theorem at_1 {α : Type} {x y : α} {r : List α} : atI (x :: y :: r) 1 = some y := by
  rw [at_s (by decide)]
  exact at_0
theorem at_2 {α : Type} {x y z : α} {r : List α} : atI (x :: y :: z :: r) 2 = some z := by
  rw [at_s (by decide)]
  exact at_1
theorem at_3 {α : Type} {x y z u : α} {r : List α} : atI (x :: y :: z :: u :: r) 3 = some u := by
  rw [at_s (by decide)]
  exact at_2
theorem at_4 {α : Type} {x y z u v : α} {r : List α} : atI (x :: y :: z :: u :: v :: r) 4 = some v := by
  rw [at_s (by decide)]
  exact at_3
theorem at_5 {α : Type} {x y z u v t : α} {r : List α} : atI (x :: y :: z :: u :: v :: t :: r) 5 = some t := by
  rw [at_s (by decide)]
  exact at_4
/-! dicts -/
theorem gk_nil {k : Key} : getK [] k = none := rfl
theorem gk_cons {k k' : Key} {v : Dat} {r : List (Key × Dat)} : getK ((k', v) :: r) k = if k' = k then some v else getK r k := by
  unfold getK
  rw [List.find?_cons]
  by_cases h : k' = k
  · simp [h]
  · simp [h]
theorem pd_nil {k : Key} {v : Dat} : putD [] k v = [(k, v)] := rfl
theorem pd_cons {k k' : Key} {v v' : Dat} {r : List (Key × Dat)} : putD ((k', v') :: r) k v = if k' = k then (k', v) :: r.map (fun kv => if kv.1 = k then (kv.1, v) else kv) else (k', v') :: putD r k v := by
  unfold putD
  by_cases h : k' = k
  · simp [h]
  · by_cases hr : (r.any fun kv => decide (kv.1 = k)) = true
    · simp [h, hr]
    · simp [h, hr]
theorem so_lst {d : Dat} {xs : List Dat} {j : Int} : subO d (.mb (.lst xs)) (.dt (.int j)) = (ixN xs.length j).map fun m => .lst (xs.set m d) := rfl
theorem so_dcS {d : Dat} {kvs : List (Key × Dat)} {k : Str} : subO d (.mb (.dct kvs)) (.dt (.str k)) = if kvs.length < sizeLine then some (.dct (putD kvs (.inr k) d)) else none := rfl
theorem mg_nil {kvs : List (Key × Dat)} : mergeD kvs [] = kvs := rfl
theorem mg_cons {kvs r : List (Key × Dat)} {k : Key} {v : Dat} : mergeD kvs ((k, v) :: r) = mergeD (putD kvs k v) r := rfl
theorem ix_in {n : Nat} {i : Int} (h0 : 0 ≤ i) (h1 : i < n) : ixN n i = some i.toNat := by
  unfold ixN
  rw [if_pos h0, if_pos h1]
/-! built-ins -/
section
variable {T : Tab}
def lnR : Option Nat → Option Rv
  | some n => some (.val (.int (n : Int)))
  | none => none
theorem lnR_e {n : Nat} : lnR (some n) = some (.val (.int (n : Int))) := rfl
theorem f_len {w : Vw} : Vw.bi T .len w [] = lnR w.len := by
  have e : Vw.bi T .len w [] = (w.len.bind fun a => some (a : Int)).map fun n => Rv.val (.int n) := by
    cases w with
    | dt d => cases d <;> rfl
    | mb o => rfl
  rw [e]
  cases w.len <;> rfl
theorem f_tupM {xs : List Dat} : Vw.bi T .tuple (.mb (.lst xs)) [] = some (.val (.tup xs)) := rfl
theorem f_tupL {xs : List Dat} : Vw.bi T .tuple (.dt (.lst xs)) [] = some (.val (.tup xs)) := rfl
theorem f_tupT {xs : List Dat} : Vw.bi T .tuple (.dt (.tup xs)) [] = some (.val (.tup xs)) := rfl
theorem f_lsM {xs : List Dat} : Vw.bi T .list (.mb (.lst xs)) [] = some (.own (.lst xs)) := rfl
theorem f_lsL {xs : List Dat} : Vw.bi T .list (.dt (.lst xs)) [] = some (.own (.lst xs)) := rfl
theorem f_lsT {xs : List Dat} : Vw.bi T .list (.dt (.tup xs)) [] = some (.own (.lst xs)) := rfl
theorem f_strS {x : Str} : Vw.bi T .str (.dt (.str x)) [] = some (.val (.str x)) := rfl
theorem f_allM {xs : List Dat} : Vw.bi T .all (.mb (.lst xs)) [] = (blsOf xs).map fun bs => .val (.bl (bs.all id)) := rfl
theorem f_anyM {xs : List Dat} : Vw.bi T .any (.mb (.lst xs)) [] = (blsOf xs).map fun bs => .val (.bl (bs.any id)) := rfl
theorem f_isi {w : Vw} {c : Dat} : Vw.bi T .isi w [c] = (isaV T w c).map fun b => .val (.bl b) := rfl
theorem f_repr {w : Vw} : Vw.bi T .repr w [] = (w.pd.bind reprOf).map fun x => .val (.str x) := rfl
theorem bls_map {α : Type} {f : α → Bool} : ∀ {xs : List α}, blsOf (xs.map fun x => .bl (f x)) = some (xs.map f)
  | [] => rfl
  | x :: xs => by
    show (blsOf (xs.map fun x => .bl (f x))).map (f x :: ·) = _
    rw [bls_map]
    rfl
theorem strs_map {α : Type} {f : α → Str} : ∀ {xs : List α}, strsOf (xs.map fun x => .str (f x)) = some (xs.map f)
  | [] => rfl
  | x :: xs => by
    show (strsOf (xs.map fun x => .str (f x))).map (f x :: ·) = _
    rw [strs_map]
    rfl
end
/-! methods -/
theorem m_app {xs : List Dat} {d : Dat} : mthV .append (.mb (.lst xs)) [d] = if xs.length < sizeLine then some (some (.lst (xs ++ [d])), .val .non) else none := rfl
theorem m_pop {xs : List Dat} : mthV .pop (.mb (.lst xs)) [] = (xs[xs.length - 1]?).map fun y => (some (Mob.lst xs.dropLast), Rv.val y) := rfl
theorem m_ext {xs ys : List Dat} : mthV .extend (.mb (.lst xs)) [.lst ys] = if xs.length + ys.length ≤ sizeLine then some (some (.lst (xs ++ ys)), .val .non) else none := rfl
theorem m_upp {x : Str} : mthV .upper (.dt (.str x)) [] = if x.length ≤ 5592405 then some (none, .val (.str (Txt.upper x))) else none := rfl
theorem m_spl {x y : Str} : mthV .split (.dt (.str x)) [.str y] = if (y.length == 0) = false ∧ x.length + 2 ≤ sizeLine then some (none, .own (.lst ((Txt.split x y).map .str))) else none := rfl
def mjO (x : Str) : Option (List Str) → Option (Option Mob × Rv)
  | some ys => if joinLen x ys ≤ 16777216 then some (none, .val (.str (Txt.join x ys))) else none
  | none => none
theorem m_joi {x : Str} {d : Dat} : mthV .join (.dt (.str x)) [d] = mjO x (d.seq.bind strsOf) := by
  unfold mjO
  rfl
theorem mjO_e {x : Str} {ys : List Str} : mjO x (some ys) = if joinLen x ys ≤ 16777216 then some (none, .val (.str (Txt.join x ys))) else none := rfl
theorem sq_lst {xs : List Dat} : (Dat.lst xs).seq = some xs := rfl
theorem sq_tup {xs : List Dat} : (Dat.tup xs).seq = some xs := rfl
/-! looks at kinds -/
theorem vt_tup {xs : List Dat} : Vw.tup (.dt (.tup xs)) = some xs := rfl
theorem vl_lst {xs : List Dat} : Vw.lst (.dt (.lst xs)) = some xs := rfl
theorem vl_mls {xs : List Dat} : Vw.lst (.mb (.lst xs)) = some xs := rfl
theorem mul_l {i j : Int} (h : -18446744073709551616 < i) (h' : i < 18446744073709551616) : mulOk i j = true := by
  unfold mulOk
  simp [h, h']
theorem mul_r {i j : Int} (h : -18446744073709551616 < j) (h' : j < 18446744073709551616) : mulOk i j = true := by
  unfold mulOk
  simp [h, h']
/-! comprehensions, by turns -/
def kStB (me : Ac Dat) (own : List Nat) : Bool → Ac (Option Dat)
  | true => fun s => (me s).bind fun y => fun s1 => .ok (some y) ⟨wipS s1.env own, s1.sto⟩
  | false => fun s => .ok none ⟨wipS s.env own, s.sto⟩
def kStC (own : List Nat) (y : Dat) : Ac (Option Dat) := fun s1 => .ok (some y) ⟨wipS s1.env own, s1.sto⟩
def kStA (mt : Ac Bool) (me : Ac Dat) (own : List Nat) (u : Unit) : Ac (Option Dat) := fun s => (mt s).bind (kStB me own)
def noO {α : Type} : Out α → Out α
  | .ok a s => .ok a s
  | _ => .stuck
theorem noO_e {α : Type} {a : α} {s : Stt} : noO (.ok a s) = .ok a s := rfl
theorem stpA_e {a : Rv → Ac Unit} {mt : Ac Bool} {me : Ac Dat} {own : List Nat} {d : Dat} {s : Stt} : stpA a mt me own d s = noO ((a (.val d) s).bind (kStA mt me own)) := by
  unfold stpA noX
  have e : ((a (.val d)).bind fun _ => mt.bind fun k => if k then me.bind fun y => (wipA own).bind fun _ => Ac.ret (some y) else (wipA own).bind fun _ => Ac.ret none) s = (a (.val d) s).bind (kStA mt me own) := by
    show Out.bind _ _ = _
    congr 1
    funext u s1
    show Out.bind _ _ = Out.bind _ _
    congr 1
    funext k s2
    cases k <;> rfl
  rw [e]
  cases (a (.val d) s).bind (kStA mt me own) <;> rfl
theorem kStA_e {mt : Ac Bool} {me : Ac Dat} {own : List Nat} {u : Unit} {s : Stt} : kStA mt me own u s = (mt s).bind (kStB me own) := rfl
theorem kStB_t {me : Ac Dat} {own : List Nat} {s : Stt} : kStB me own true s = (me s).bind (kStC own) := rfl
theorem kStB_f {me : Ac Dat} {own : List Nat} {env : List Slt} {sto : List Mob} : kStB me own false ⟨env, sto⟩ = .ok none ⟨wipS env own, sto⟩ := rfl
theorem kStC_e {own : List Nat} {y : Dat} {env : List Slt} {sto : List Mob} : kStC own y ⟨env, sto⟩ = .ok (some y) ⟨wipS env own, sto⟩ := rfl
theorem cnd_n {f : Ex → Ac Bool} {s : Stt} : condA f none s = .ok true s := rfl
theorem cnd_s {f : Ex → Ac Bool} {c : Ex} {s : Stt} : condA f (some c) s = f c s := rfl
def wipR (own : List Nat) : Nat → List Slt → List Slt
  | _, [] => []
  | i, x :: r => (if i ∈ own then .no else x) :: wipR own (i + 1) r
theorem wipR_ok {own : List Nat} : ∀ {env : List Slt} {i : Nat}, env.mapIdx (fun j x => if j + i ∈ own then Slt.no else x) = wipR own i env
  | [], _ => rfl
  | x :: r, i => by
    rw [List.mapIdx_cons]
    show _ :: _ = _ :: _
    rw [Nat.zero_add]
    congr 1
    rw [← wipR_ok]
    congr 1
    funext j y
    rw [Nat.add_assoc, Nat.add_comm 1 i]
theorem wip_e {env : List Slt} {own : List Nat} : wipS env own = wipR own 0 env := by
  rw [← wipR_ok]
  rfl
theorem wp_nil {own : List Nat} {i : Nat} : wipR own i [] = [] := rfl
theorem wp_cons {own : List Nat} {i : Nat} {x : Slt} {r : List Slt} : wipR own i (x :: r) = (if i ∈ own then .no else x) :: wipR own (i + 1) r := rfl
def bkO : Option Slt → Slt
  | some (.val d) => .val d
  | _ => .no
theorem bkO_v {d : Dat} : bkO (some (.val d)) = .val d := rfl
theorem bkO_n : bkO (some .no) = .no := rfl
def bakR (own : List Nat) (env0 : List Slt) : Nat → List Slt → List Slt
  | _, [] => []
  | i, x :: r => (if i ∈ own then bkO env0[i]? else x) :: bakR own env0 (i + 1) r
theorem bakR_ok {own : List Nat} {env0 : List Slt} : ∀ {env : List Slt} {i : Nat}, env.mapIdx (fun j x => if j + i ∈ own then bkO env0[j + i]? else x) = bakR own env0 i env
  | [], _ => rfl
  | x :: r, i => by
    rw [List.mapIdx_cons]
    show _ :: _ = _ :: _
    rw [Nat.zero_add]
    congr 1
    rw [← bakR_ok]
    congr 1
    funext j y
    rw [Nat.add_assoc, Nat.add_comm 1 i]
theorem bak_e {env0 env : List Slt} {own : List Nat} : bakS env0 env own = bakR own env0 0 env := by
  rw [← bakR_ok]
  rfl
theorem bk_nil {own : List Nat} {env0 : List Slt} {i : Nat} : bakR own env0 i [] = [] := rfl
theorem bk_cons {own : List Nat} {env0 : List Slt} {i : Nat} {x : Slt} {r : List Slt} : bakR own env0 i (x :: r) = (if i ∈ own then bkO env0[i]? else x) :: bakR own env0 (i + 1) r := rfl
/-- a comprehension whose turns change nothing -/
theorem trn_pure {α : Type} {step : Dat → Ac (Option Dat)} {s : Stt} {dat : α → Dat} {f : α → Option Dat} : ∀ {xs : List α} {acc : List Dat}, (∀ x, x ∈ xs → step (dat x) s = .ok (f x) s) → acc.length + xs.length ≤ 16777216 → trnA step acc (xs.map dat) s = .ok (acc ++ xs.filterMap f) s
  | [], acc, _, _ => by
    rw [List.map_nil, List.filterMap_nil, List.append_nil]
    rfl
  | x :: xs, acc, h, hl => by
    rw [List.length_cons] at hl
    show Out.bind (step (dat x) s) _ = _
    rw [h x List.mem_cons_self]
    cases e : f x with
    | none =>
      show trnA step acc (xs.map dat) s = _
      rw [trn_pure (fun y hy => h y (List.mem_cons_of_mem _ hy)) (by omega), List.filterMap_cons, e]
    | some y =>
      show (if acc.length < sizeLine then trnA step (acc ++ [y]) (xs.map dat) else Ac.stk) s = _
      rw [if_pos (by rw [szl]; omega), trn_pure (fun z hz => h z (List.mem_cons_of_mem _ hz)) (by rw [List.length_append]; show acc.length + 1 + _ ≤ _; omega), List.filterMap_cons, e, List.append_assoc]
      rfl
theorem trn_nil {step : Dat → Ac (Option Dat)} {acc : List Dat} {s : Stt} : trnA step acc [] s = .ok acc s := rfl
def kTr (step : Dat → Ac (Option Dat)) (acc r : List Dat) : Option Dat → Ac (List Dat)
  | some y => fun s => if acc.length < 16777216 then trnA step (acc ++ [y]) r s else .stuck
  | none => trnA step acc r
theorem trn_cons {step : Dat → Ac (Option Dat)} {acc r : List Dat} {d : Dat} {s : Stt} : trnA step acc (d :: r) s = (step d s).bind (kTr step acc r) := by
  show Out.bind _ _ = _
  congr 1
  funext o s1
  cases o with
  | none => rfl
  | some y =>
    show (if acc.length < sizeLine then trnA step (acc ++ [y]) r else Ac.stk) s1 = _
    rw [ite_ap]
    rfl
theorem kTr_n {step : Dat → Ac (Option Dat)} {acc r : List Dat} {s : Stt} : kTr step acc r none s = trnA step acc r s := rfl
theorem kTr_s {step : Dat → Ac (Option Dat)} {acc r : List Dat} {y : Dat} {s : Stt} : kTr step acc r (some y) s = if acc.length < 16777216 then trnA step (acc ++ [y]) r s else .stuck := rfl
theorem oc_rv {d : Dat} {env : List Slt} {sto : List Mob} : outC (.ok (.rt (.val d)) ⟨env, sto⟩) = .ok (.val d) sto := rfl
theorem oc_ro {o : Mob} {env : List Slt} {sto : List Mob} : outC (.ok (.rt (.own o)) ⟨env, sto⟩) = .ok (.own o) sto := rfl
theorem oc_nx {env : List Slt} {sto : List Mob} : outC (.ok .nx ⟨env, sto⟩) = .ok (.val .non) sto := rfl
theorem oc_x {x : Dat} {env : List Slt} {sto : List Mob} : outC (.exc x ⟨env, sto⟩) = .exc x sto := rfl
end En
set_option maxHeartbeats 4000000
/-! En28: loops by an invariant. -/
namespace En
open PySem PySem.Spec PyProof.Rows L2
/-- a for that goes through -/
theorem for_inv {a : Rv → Ac Unit} {mb me : Ac Flw} (I : Nat → Stt → Prop) : ∀ (ds : List Dat) (n : Nat) (s : Stt), I n s →
    (∀ (i : Nat) (d : Dat) (s : Stt), ds[i]? = some d → I (n + i) s → ∃ s1 s2, a (.val d) s = .ok () s1 ∧ (mb s1 = .ok .nx s2 ∨ mb s1 = .ok .ct s2) ∧ I (n + i + 1) s2) →
    ∃ s', I (n + ds.length) s' ∧ forA a mb me ds s = me s'
  | [], n, s, h0, _ => ⟨s, h0, rfl⟩
  | d :: r, n, s, h0, h => by
    obtain ⟨s1, s2, e1, e2, h1⟩ := h 0 d s rfl h0
    obtain ⟨s', h2, e3⟩ := for_inv I r (n + 1) s2 (by simpa using h1) (fun i d s hd hi => by
      have := h (i + 1) d s (by rw [List.getElem?_cons_succ]; exact hd) (by rw [show n + (i + 1) = n + 1 + i by omega]; exact hi)
      rw [show n + (i + 1) + 1 = n + 1 + i + 1 by omega] at this
      exact this)
    refine ⟨s', ?_, ?_⟩
    · rw [List.length_cons, show n + (r.length + 1) = n + 1 + r.length by omega]
      exact h2
    · rw [f_cons, e1, b_ok, kFor1_e]
      rcases e2 with e2 | e2
      · rw [e2, b_ok, kFor2_nx, e3]
      · rw [e2, b_ok, kFor2_ct, e3]
def kRun (mb : Ac Flw) : Unit → Ac Flw := fun _ => mb
theorem kRun_e {mb : Ac Flw} {u : Unit} {s : Stt} : kRun mb u s = mb s := rfl
theorem for_inv_of {a : Rv → Ac Unit} {mb me : Ac Flw} {ds : List Dat} {s : Stt} {o : Out Flw} (ht : forA a mb me ds s = o) (I : Nat → Stt → Prop) (h0 : I 0 s)
    (h : ∀ (i : Nat) (d : Dat) (s : Stt), ds[i]? = some d → I i s → ∃ f s2, (a (.val d) s).bind (kRun mb) = .ok f s2 ∧ (f = .nx ∨ f = .ct) ∧ I (i + 1) s2) : ∃ s', I ds.length s' ∧ o = me s' := by
  obtain ⟨s', h1, h2⟩ := for_inv I ds 0 s h0 (fun i d s hd hi => by
    rw [Nat.zero_add] at hi ⊢
    obtain ⟨f, s2, e, hf, h2⟩ := h i d s hd hi
    cases q : a (.val d) s with
    | ok u s1 =>
      rw [q] at e
      refine ⟨s1, s2, q, ?_, h2⟩
      rcases hf with rfl | rfl
      · exact .inl e
      · exact .inr e
    | exc x s1 =>
      rw [q] at e
      cases e
    | stuck =>
      rw [q] at e
      cases e)
  rw [Nat.zero_add] at h1
  exact ⟨s', h1, ht.symm.trans h2⟩
/-- a comprehension that keeps every item, its state going on -/
theorem trn_inv {step : Dat → Ac (Option Dat)} (I : Nat → Stt → Prop) (Pd : Nat → Dat → Prop) : ∀ (ds : List Dat) (n : Nat) (s : Stt) (acc : List Dat), I n s →
    (∀ (i : Nat) (d : Dat) (s : Stt), ds[i]? = some d → I (n + i) s → ∃ y s2, step d s = .ok (some y) s2 ∧ Pd (n + i) y ∧ I (n + i + 1) s2) → acc.length + ds.length ≤ 16777216 →
    ∃ s' ys, I (n + ds.length) s' ∧ ys.length = ds.length ∧ (∀ (i : Nat) (y : Dat), ys[i]? = some y → Pd (n + i) y) ∧ trnA step acc ds s = .ok (acc ++ ys) s'
  | [], n, s, acc, h0, _, _ => ⟨s, [], h0, rfl, fun i y e => by simp at e, by rw [List.append_nil]; rfl⟩
  | d :: r, n, s, acc, h0, h, hl => by
    obtain ⟨y, s2, e1, hy, h1⟩ := h 0 d s rfl h0
    rw [List.length_cons] at hl
    obtain ⟨s', ys, h2, hl2, hp, e3⟩ := trn_inv I Pd r (n + 1) s2 (acc ++ [y]) (by simpa using h1) (fun i d s hd hi => by
      have := h (i + 1) d s (by rw [List.getElem?_cons_succ]; exact hd) (by rw [show n + (i + 1) = n + 1 + i by omega]; exact hi)
      rw [show n + (i + 1) + 1 = n + 1 + i + 1 by omega, show n + (i + 1) = n + 1 + i by omega] at this
      exact this) (by rw [List.length_append]; show acc.length + 1 + _ ≤ _; omega)
    refine ⟨s', y :: ys, ?_, by rw [List.length_cons, List.length_cons, hl2], fun i z e => ?_, ?_⟩
    · rw [List.length_cons, show n + (r.length + 1) = n + 1 + r.length by omega]
      exact h2
    · cases i with
      | zero =>
        simp at e
        subst e
        exact hy
      | succ i =>
        rw [show n + (i + 1) = n + 1 + i by omega]
        exact hp i z (by simpa using e)
    · rw [trn_cons, e1, b_ok, kTr_s, if_pos (by omega), e3, List.append_assoc]
      rfl
/-- a comprehension over a text -/
theorem trn_signs {step : Dat → Ac (Option Dat)} {s : Stt} {f : Nat → Option Dat} {x : Str} (h : ∀ c, c ∈ x.cps.toList → step (.str ⟨#[c]⟩) s = .ok (f c) s) (hx : x.length ≤ 16777216) : trnA step [] (signs x) s = .ok (x.cps.toList.filterMap f) s := by
  unfold signs
  rw [trn_pure (f := f) h (by rw [Array.length_toList]; simpa [Str.length] using hx)]
  rfl
theorem fm_some {α β : Type} {f : α → β} {xs : List α} : xs.filterMap (fun x => some (f x)) = xs.map f := by
  induction xs with
  | nil => rfl
  | cons x xs ih => rw [List.filterMap_cons, ih]; rfl
theorem ints_at {lo : Int} {n i : Nat} {d : Dat} (h : (intsD lo n)[i]? = some d) : d = .int (lo + i) ∧ i < n := by
  unfold intsD at h
  rw [List.getElem?_map] at h
  obtain ⟨j, h1, h2⟩ := Option.map_eq_some_iff.mp h
  obtain ⟨h3, h4⟩ := List.getElem?_eq_some_iff.mp h1
  rw [List.getElem_range] at h4
  rw [List.length_range] at h3
  subst h4
  exact ⟨h2.symm, h3⟩
theorem ints_len {lo : Int} {n : Nat} : (intsD lo n).length = n := by
  unfold intsD
  rw [List.length_map, List.length_range]
theorem len_app (a b : Str) : (a ++ b).length = a.length + b.length := PySem.Str.length_append a b
theorem len_cut (z : Str) (lo hi : Option Int) : (cutS z lo hi).length ≤ z.length := by
  unfold cutS Str.length
  rw [List.size_toArray, List.length_take, List.length_drop, Array.length_toList]
  omega
theorem getD_mem {α : Type} {xs : List α} {i : Int} (h0 : 0 ≤ i) (h1 : i < xs.length) : ∃ x, atI xs i = some x ∧ x ∈ xs := by
  have hi : i.toNat < xs.length := by omega
  refine ⟨xs[i.toNat], ?_, List.getElem_mem hi⟩
  unfold atI
  rw [ix_in h0 h1]
  exact List.getElem?_eq_getElem hi
theorem inL_strs {x : Str} : ∀ {ys : List Str}, inL (.str x) (ys.map .str) = some (ys.any (· == x))
  | [] => rfl
  | y :: ys => by
    rw [List.map_cons, in_cons, inL_strs, q_ss]
    rfl
theorem depL_strs : ∀ {ys : List Str}, depL (ys.map .str) = 0
  | [] => rfl
  | y :: ys => by
    rw [List.map_cons, dl_cons, depL_strs]
    rfl
end En
set_option maxHeartbeats 0
namespace K02
open PySem PySem.Spec PyProof.Rows L2 En
def fnN0 : List Str := ["thing", "sign"]
def fnP0 : List Str := ["thing"]
def fnN1 : List Str := ["_law_script"]
def fnP1 : List Str := ["_law_script"]
def fnN2 : List Str := ["_law_draw", "_law_many", "_law_cell", "_law_cells", "_law_number", "_law_k"]
def fnP2 : List Str := ["_law_draw", "_law_many"]
def fnN3 : List Str := ["_law_draw", "_law_some"]
def fnP3 : List Str := ["_law_draw", "_law_some"]
def fnN4 : List Str := ["_law_some"]
def fnP4 : List Str := []
def fnN5 : List Str := ["_law_value", "_law_sign"]
def fnP5 : List Str := ["_law_value"]
def fnN6 : List Str := ["_law_draw", "_law_letters", "_law_size", "_law_word", "_law_k", "_law_near"]
def fnP6 : List Str := ["_law_draw"]
def fnN7 : List Str := ["_law_draw", "_law_word", "_law_at", "_law_sign"]
def fnP7 : List Str := ["_law_draw", "_law_word"]
def fnN8 : List Str := ["_law_script", "_law_draw", "_law_turn", "_law_word", "_law_odd", "_law_value", "_law_again"]
def fnP8 : List Str := ["_law_script"]
def fnames : List Str := ["is_word", "_law_begin", "_law_next", "_law_pick", "_law_reserved", "_law_is_word", "_law_drawn", "_law_bent", "law"]
def frees : List Str := ["isinstance", "str", "len", "all", "range", "repr", "tuple"]
def dats : List (Str × Dat) := [("LETTERS", .str "abcdefghijklmnopqrstuvwxyz"), ("RESERVED", .tup [.str "act", .str "and", .str "anyone", .str "breach", .str "day", .str "does", .str "done", .str "else", .str "for", .str "forever", .str "hands", .str "may", .str "must", .str "not", .str "or", .str "parties", .str "repeat", .str "role", .str "so", .str "term", .str "then", .str "to", .str "until", .str "wait", .str "when", .str "within"]), ("LONGEST", .int 12), ("MAX_DAYS", .int 30), ("MAX_TIMES", .int 9), ("MAX_PARTS", .int 40), ("MAX_LEVELS", .int 8)]
def gl (x : Str) : Option Gv := match dats.lookup x with
  | some d => some (.dat d)
  | none => (ixOf x fnames).map .fn
def bnds : List ((Nat × Nat × List Str) × List Sl) := [((0, 1, []), [.pos 0]), ((0, 0, ["thing"]), [.kw 0]), ((1, 1, []), [.pos 0]), ((2, 2, []), [.pos 0, .pos 1]), ((3, 2, []), [.pos 0, .pos 1]), ((4, 0, []), []), ((5, 1, []), [.pos 0]), ((6, 1, []), [.pos 0]), ((7, 2, []), [.pos 0, .pos 1]), ((8, 1, []), [.pos 0])]
def tb : Tb := ⟨⟨fun _ _ => none, fun _ _ => none, fun _ _ => none⟩, fun _ _ => false, fun _ => false, fun _ => false, fun _ => false, fun _ _ => none, fun _ _ => none, fun f n ks => bnds.lookup (f, n, ks), gl, fun x => frees.contains x⟩
def ir0 : List Sm := [
  (.ife (.or (.nt (.bi .isi (.slot 0) [(.con (.ty "str"))])) (.or (.nt (.chn .le .le (.con (.int 1)) (.bi .len (.slot 0) []) (.con (.int 12)))) (.cmp .isin (.slot 0) (.con (.tup [.str "act", .str "and", .str "anyone", .str "breach", .str "day", .str "does", .str "done", .str "else", .str "for", .str "forever", .str "hands", .str "may", .str "must", .str "not", .str "or", .str "parties", .str "repeat", .str "role", .str "so", .str "term", .str "then", .str "to", .str "until", .str "wait", .str "when", .str "within"]))))) [(.ret (some (.con (.bl false))))] []),
  (.ret (some (.bi .all (.lc (.cmp .isin (.slot 1) (.con (.str "abcdefghijklmnopqrstuvwxyz"))) (.slot 1) (.ex (.slot 0)) none [1]) [])))]
def ir1 : List Sm := [
  (.ret (some (.sto (.dic [((.con (.str "cells")), (.bin .add (.slot 0) (.lst [(.con (.int 0))]))), ((.con (.str "at")), (.con (.int 0))), ((.con (.str "left")), (.con (.int 0))), ((.con (.str "used")), (.con (.int 0)))]))))]
def ir2 : List Sm := [
  (.ife (.cmp .gt (.sub (.slot 0) (.con (.str "left"))) (.con (.int 0))) [(.asg (.tup [(.slot 2), (.sub (.slot 0) (.con (.str "left")))]) (.tup [(.sub (.slot 0) (.con (.str "left"))), (.bin .fdiv (.sub (.slot 0) (.con (.str "left"))) (.slot 1))])), (.ret (some (.bin .mod (.slot 2) (.slot 1))))] []),
  (.asg (.slot 3) (.sub (.slot 0) (.con (.str "cells")))),
  (.asg (.slot 2) (.sub (.slot 3) (.bin .mod (.sub (.slot 0) (.con (.str "at"))) (.bi .len (.slot 3) [])))),
  (.asg (.sub (.slot 0) (.con (.str "at"))) (.bin .add (.sub (.slot 0) (.con (.str "at"))) (.con (.int 1)))),
  (.ife (.and (.cmp .ge (.slot 2) (.bin .pow (.con (.int 10)) (.con (.int 18)))) (.cmp .le (.sub (.slot 0) (.con (.str "at"))) (.bi .len (.slot 3) []))) [(.asg (.sub (.slot 0) (.con (.str "left"))) (.bin .fdiv (.slot 2) (.slot 1))), (.ret (some (.bin .mod (.slot 2) (.slot 1))))] []),
  (.asg (.sub (.slot 0) (.con (.str "used"))) (.bin .add (.sub (.slot 0) (.con (.str "used"))) (.con (.int 1)))),
  (.asg (.slot 4) (.bin .add (.bin .mod (.slot 2) (.con (.int 1000000007))) (.bin .mul (.bin .mul (.con (.int 7919)) (.sub (.slot 0) (.con (.str "used")))) (.sub (.slot 0) (.con (.str "used")))))),
  (.for (.slot 5) (.ex (.tup [(.sub (.slot 0) (.con (.str "at"))), (.sub (.slot 0) (.con (.str "used")))])) [(.asg (.slot 4) (.bin .mod (.bin .mul (.bin .add (.bin .add (.slot 4) (.bin .mul (.con (.int 31)) (.slot 5))) (.con (.int 7))) (.con (.int 48271))) (.con (.int 2147483647)))), (.asg (.slot 4) (.bin .mod (.bin .mul (.slot 4) (.bin .add (.con (.int 69621)) (.bin .mul (.con (.int 2)) (.bin .mod (.slot 5) (.con (.int 1000)))))) (.con (.int 2147483629))))] []),
  (.ret (some (.bin .mod (.bin .fdiv (.slot 4) (.con (.int 7))) (.slot 1))))]
def ir3 : List Sm := [
  (.ret (some (.sub (.slot 1) (.call 2 [(.slot 0), (.bi .len (.slot 1) [])] [] [.pos 0, .pos 1]))))]
def ir4 : List Sm := [
  (.asg (.slot 0) (.con (.str "act and anyone breach day does done else for forever hands may must not or parties repeat role so term"))),
  (.ret (some (.mth (.bin .add (.slot 0) (.con (.str " then to until wait when within"))) .split [(.con (.str " "))])))]
def ir5 : List Sm := [
  (.ife (.or (.nt (.bi .isi (.slot 0) [(.con (.ty "str"))])) (.or (.cmp .lt (.bi .len (.slot 0) []) (.con (.int 1))) (.or (.cmp .gt (.bi .len (.slot 0) []) (.con (.int 12))) (.cmp .isin (.slot 0) (.call 4 [] [] []))))) [(.ret (some (.con (.bl false))))] []),
  (.ret (some (.cmp .eq (.lc (.slot 1) (.slot 1) (.ex (.slot 0)) (some (.nt (.chn .le .le (.con (.str "a")) (.slot 1) (.con (.str "z"))))) [1]) (.lst []))))]
def ir6 : List Sm := [
  (.asg (.slot 1) (.con (.str "abcdefghijklmnopqrstuvwxyz"))),
  (.asg (.slot 2) (.sub (.lst [(.con (.int 0)), (.con (.int 1)), (.con (.int 2)), (.con (.int 11)), (.con (.int 12)), (.con (.int 13)), (.call 2 [(.slot 0), (.con (.int 15))] [] [.pos 0, .pos 1])]) (.call 2 [(.slot 0), (.con (.int 7))] [] [.pos 0, .pos 1]))),
  (.asg (.slot 3) (.mth (.con (.str "")) .join [(.lc (.sub (.slot 1) (.call 2 [(.slot 0), (.con (.int 26))] [] [.pos 0, .pos 1])) (.slot 4) (.rng1 (.slot 2)) none [4])])),
  (.asg (.slot 5) (.call 3 [(.slot 0), (.call 4 [] [] [])] [] [.pos 0, .pos 1])),
  (.ret (some (.call 3 [(.slot 0), (.lst [(.slot 3), (.slot 3), (.slot 5), (.slc (.slot 5) none (some (.neg (.con (.int 1))))), (.bin .add (.slot 5) (.sub (.slot 1) (.call 2 [(.slot 0), (.con (.int 26))] [] [.pos 0, .pos 1]))), (.mth (.slot 5) .upper [])])] [] [.pos 0, .pos 1])))]
def ir7 : List Sm := [
  (.par2 2 3 [(.call 2 [(.slot 0), (.bin .add (.bi .len (.slot 1) []) (.con (.int 1)))] [] [.pos 0, .pos 1]), (.sub (.con (.str "A1 _-.(\nz~Z9")) (.call 2 [(.slot 0), (.con (.int 12))] [] [.pos 0, .pos 1]))]),
  (.ret (some (.call 3 [(.slot 0), (.lst [(.bin .add (.bin .add (.slc (.slot 1) none (some (.slot 2))) (.slot 3)) (.slc (.slot 1) (some (.slot 2)) none)), (.bin .add (.bin .add (.slc (.slot 1) none (some (.slot 2))) (.slot 3)) (.slc (.slot 1) (some (.bin .add (.slot 2) (.con (.int 1)))) none))])] [] [.pos 0, .pos 1])))]
def ir8 : List Sm := [
  (.asg (.slot 1) (.call 1 [(.slot 0)] [] [.pos 0])),
  (.ife (.or (.cmp .ne (.con (.tup [.str "act", .str "and", .str "anyone", .str "breach", .str "day", .str "does", .str "done", .str "else", .str "for", .str "forever", .str "hands", .str "may", .str "must", .str "not", .str "or", .str "parties", .str "repeat", .str "role", .str "so", .str "term", .str "then", .str "to", .str "until", .str "wait", .str "when", .str "within"])) (.bi .tuple (.call 4 [] [] []) [])) (.cmp .ne (.tup [(.con (.int 30)), (.con (.int 9)), (.con (.int 40)), (.con (.int 8))]) (.tup [(.con (.int 30)), (.con (.int 9)), (.con (.int 40)), (.con (.int 8))]))) [(.ret (some (.con (.bl false))))] []),
  (.for (.slot 2) (.rng1 (.con (.int 12))) [(.asg (.slot 3) (.call 6 [(.slot 1)] [] [.pos 0])), (.asg (.slot 4) (.call 3 [(.slot 1), (.lst [(.con .non), (.con (.int 5)), (.con (.bl true)), (.tup [(.con (.str "ann"))]), (.lst [(.con (.str "ann"))]), (.dic []), (.dic [((.con (.str "ann")), (.con (.int 1)))]), (.tup []), (.bin .pow (.con (.int 10)) (.con (.int 30)))])] [] [.pos 0, .pos 1])), (.for (.slot 5) (.ex (.tup [(.slot 3), (.call 7 [(.slot 1), (.slot 3)] [] [.pos 0, .pos 1]), (.slot 4)])) [(.for (.slot 6) (.rng1 (.con (.int 2))) [(.ife (.cmp .ne (.bi .repr (.call 0 [(.slot 5)] [] [.pos 0]) []) (.bi .repr (.call 5 [(.slot 5)] [] [.pos 0]) [])) [(.ret (some (.con (.bl false))))] [])] [])] [])] []),
  (.ret (some (.and (.cmp .eq (.lc (.call 0 [(.slot 3)] [] [.pos 0]) (.slot 3) (.ex (.call 4 [] [] [])) none [3]) (.bin .mul (.lst [(.con (.bl false))]) (.con (.int 26)))) (.cmp .is (.call 0 [] [(.con (.str "ann"))] [.kw 0]) (.con (.bl true))))))]
def tabL : List Fn := [⟨fnN0, fnP0.length, ir0⟩, ⟨fnN1, fnP1.length, ir1⟩, ⟨fnN2, fnP2.length, ir2⟩, ⟨fnN3, fnP3.length, ir3⟩, ⟨fnN4, fnP4.length, ir4⟩, ⟨fnN5, fnP5.length, ir5⟩, ⟨fnN6, fnP6.length, ir6⟩, ⟨fnN7, fnP7.length, ir7⟩, ⟨fnN8, fnP8.length, ir8⟩]
def tab (f : Nat) : Option Fn := tabL[f]?
end K02
set_option maxHeartbeats 4000000
namespace K02
open PySem PySem.Spec PyProof.Rows L2 En
local macro_rules | `(tactic| wide_line with ⟨$xs,*⟩) => `(tactic| simp only [b_ok, b_exc, a_bind, a_ret, a_opt, a_nx, lk_bor, lkB_own, lkB_val, lk_own, lk_ref, lk_non, lk_bl, lk_int, lk_str, lk_tup, lk_lst, lk_dct, lk_obj, lk_err, lk_cls, lk_ty, lk_scr, tv_val, tv_own, tv_bor, tvB_own, tvB_val, md_lst, md_dct, md_ins, kSq2_e, sq_nil, sq_cons, kSq1_e, slO_val, slO_own, e_con, e_slot, kTup_e, kLst_e, e_tup, e_lst, e_bin, kBin1_e, binK_e, biO_e, e_neg, kNeg_e, ngO_e, e_cmp, kCmp1_e, cmpK_e, cmO_e, cmR_e, e_chn, kChn1_e, kChn2_e, kChn3_t, kChn3_f, truA_e, trO_e, kNot_e, kNotV_e, e_nt, kAnd1_e, kOr1_e, kAnd_t, kAnd_f, kOr_t, kOr_f, e_and, e_or, kIte_t, kIte_f, e_ite, kTAnd_t, kTAnd_f, kTOr_t, kTOr_f, kTIte_t, kTIte_f, t_nt, t_and, t_or, t_ite, t_con, t_slot, t_cmp, t_chn, t_bin, t_bi, t_call, t_att, t_prp, t_sub, t_mth, t_mtd, t_lc, kAtt_e, atO_e, e_att, e_sub, kSub1_e, subK_e, sbO_e, sbR_e, intA_e, inO_e, kSome_e, opI_n, opI_s, e_slc, kSlc1_e, kSlc2_e, slcK_e, scO_e, e_rev, kRev_e, rvP_e, rvO_e, couO_ok, couO_exc, couA_e, caO_e, e_call, kCal1_e, kCal2_e, pm_nil, pm_pos, pm_kw, pm_dft, pmC_e, e_bi, kBi1_e, biK_e, bcO_e, sm_bor, smV_own, sm_ref, kUnit_e, mtR_n, mtR_s, mtO_e, mthK_e, e_mth, kMth1_e, kd_l, kd_d, kd_dd, kd_s, kn_l, kn_d, kn_dd, kn_s, ty_app, ty_pop, ty_ext, ty_upp, ty_spl, ty_joi, ty_rpl, ty_get, e_sto, stoA_e, dc_nil, dc_cons, kDc1_e, kDc2_e, kDc3_e, kDic_e, dcR_e, e_dic0, e_dic, ky_nil, ky_cons, kyC_e, ky_int, ky_str, e_lc, kLc_e, kLc2_e, s_ex, walkA_e, kWlk_e, kWlk2_e, wd_lst, wd_tup, wd_str, s_rng1, kRg1_e, s_rng2, kRg2_e, kRg3_e, s_enm, kEnm_e, s_zip, kZip_e, kZip2_e, g_slot, setA_val, setA_own, setA_bor, kSet_e, tgs_nil, tgs_cons, kTgs_e, g_tup, upO_e, upR_e, g_sub, kStp0_e, kStp1_e, stpK_e, spO_e, spR_e, q_nil, q_cons, kSts_nx, kSts_rt, kSts_bk, kSts_ct, kNx_e, x_asg, kAsg_e, kExp_e, x_exp, x_ret0, x_ret, retA_val, retA_own, retA_bor, rtB_own, kIf_t, kIf_f, x_ife, x_pas, x_brk, x_cnt, x_whl, kFor_e, x_for, x_par2, kPar2_e, x_par3, kPar3_e, f_nil, kFor1_e, kFor2_nx, kFor2_ct, kFor2_bk, kFor2_rt, szl, str_inj, tr_non, tr_bl, tr_int, tr_tup, tr_lst, tr_mls, cm_eq, cm_ne, cm_lt, cm_le, cm_gt, cm_ge, cm_ltS, cm_leS, cm_in, cm_nin, cm_isb, cm_isn, cm_isnn, nn_non, nn_bl, nn_int, nn_str, nn_tup, nn_lst, nn_obj, nn_err, nn_mb, eq_dd, eq_ml, eq_lm, eq_mm, dp_non, dp_bl, dp_int, dp_str, dp_tup, dp_lst, dl_nil, dl_cons, q_nn, q_bb, q_ii, q_ss, q_tt, q_ll, q_sn, q_ns, q_is, q_si, q_st, q_ts, q_nt, q_tn, q_in, q_ni, andO_e, orO_e, ql_nil, ql_nc, ql_cn, ql_cc, in_nil, in_tup, in_lst, in_mls, in_sgn, in_mdS, in_dS, mpI_e, ib_add, ib_sub, pw18, pw30, pw40, bn_ss, bn_tt, bn_sm, bn_ll, bn_lm, bn_ml, bn_mm, bn_xl, bn_xm, ln_str, ln_tup, ln_lst, ln_mls, ln_mdc, sb_str, sb_tup, sb_lst, sb_mls, sb_dcS, sb_mdS, at_0, at_1, at_2, at_3, at_4, at_5, gk_nil, gk_cons, pd_nil, pd_cons, so_lst, so_dcS, mg_nil, mg_cons, lnR_e, f_len, f_tupM, f_tupL, f_tupT, f_lsM, f_lsL, f_lsT, f_strS, f_allM, f_anyM, m_app, m_pop, m_ext, m_upp, m_spl, m_joi, mjO_e, sq_lst, sq_tup, vt_tup, vl_lst, vl_mls, noO_e, stpA_e, kStA_e, kStB_t, kStB_f, kStC_e, cnd_n, cnd_s, wip_e, wp_nil, wp_cons, bkO_v, bkO_n, bak_e, bk_nil, bk_cons, trn_nil, kTr_n, kTr_s, oc_rv, oc_ro, oc_nx, oc_x, List.getElem?_cons_zero, List.getElem?_cons_succ, List.getElem?_nil, List.set_cons_zero, List.set_cons_succ, List.length_cons, List.length_nil, Option.map_some, Option.map_none, Option.bind_some, Option.isSome_some, Option.isSome_none, decide_true, decide_false, Bool.not_true, Bool.not_false, Bool.true_and, Bool.false_and, Bool.and_true, Bool.and_false, Bool.true_or, Bool.false_or, Bool.or_true, Bool.or_false, ite_true, ite_false, if_true, if_false, and_self, and_true, true_and, and_false, false_and, Nat.reduceAdd, Nat.reduceLeDiff, Nat.reduceLT, Nat.zero_lt_succ, Nat.reduceSub, Nat.reduceMul, Nat.zero_add, Nat.add_zero, Nat.reduceEqDiff, Nat.max_self, Nat.zero_max, Nat.max_zero, reduceIte, Sum.inr.injEq, Sum.inl.injEq, reduceCtorEq, String.reduceEq, List.isEmpty_cons, List.isEmpty_nil, String.reduceBEq, decide_eq_true_eq, Bool.decide_eq_true, Int.reduceLT, Int.reduceLE, Int.reduceAdd, Int.reduceSub, Int.reduceNeg, Int.reduceEq, Bool.false_eq_true, List.mem_cons, List.not_mem_nil, or_false, false_or, or_true, true_or, Nat.succ_ne_zero, bn_ii, ib_mod, ib_fdiv, ib_mul, not_true_eq_false, not_false_eq_true, List.map_cons, List.map_nil, depL_strs, inL_strs, kRun_e, $[$xs:term],*])
def cal := calT tb 1000000 100 tab
def CC (k : Nat) : Ec := ⟨tb, cal (k+1), cal k, 1000000⟩
theorem cc_call {k : Nat} : (CC k).call = cal (k + 1) := rfl
theorem cc_T {k : Nat} : (CC k).t = tb := rfl
theorem cc_wf {k : Nat} : (CC k).wf = 1000000 := rfl
theorem cal1 {k : Nat} {a : Dat} {sto : List Mob} : cal (k+2) 1 [a] sto = outC (sqS (CC k) 100 ir1 ⟨[.val a], sto⟩) := rfl
theorem cal2 {k : Nat} {a b : Dat} {sto : List Mob} : cal (k+2) 2 [a, b] sto = outC (sqS (CC k) 100 ir2 ⟨[.val a, .val b, .no, .no, .no, .no], sto⟩) := rfl
theorem cal3 {k : Nat} {a b : Dat} {sto : List Mob} : cal (k+2) 3 [a, b] sto = outC (sqS (CC k) 100 ir3 ⟨[.val a, .val b], sto⟩) := rfl
/-! draws -/
def drM (cs : List Int) (a l u : Int) : Mob := .dct [(.inr "cells", .lst (cs.map .int)), (.inr "at", .int a), (.inr "left", .int l), (.inr "used", .int u)]
def Drw (n : Nat) (D : Mob) : Prop := ∃ cs a l u, D = drM cs a l u ∧ cs ≠ [] ∧ 0 ≤ a ∧ 0 ≤ l ∧ 0 ≤ u ∧ u ≤ n
theorem at_mod {cs : List Int} (h : cs ≠ []) {a : Int} : ∃ c, atI (cs.map Dat.int) (a % ((cs.map Dat.int).length : Int)) = some (.int c) := by
  have hl : 0 < cs.length := List.length_pos_iff.mpr h
  have h0 : 0 ≤ a % ((cs.map Dat.int).length : Int) := Int.emod_nonneg _ (by rw [List.length_map]; omega)
  have h1 : a % ((cs.map Dat.int).length : Int) < ((cs.map Dat.int).length : Int) := Int.emod_lt_of_pos _ (by rw [List.length_map]; omega)
  unfold atI
  rw [ix_in h0 h1]
  show ∃ c, (cs.map Dat.int)[(a % ((cs.map Dat.int).length : Int)).toNat]? = some (.int c)
  rw [List.getElem?_map]
  rw [List.getElem?_eq_getElem (by rw [List.length_map] at h0 h1 ⊢; omega)]
  exact ⟨_, rfl⟩
theorem spec2 {n : Nat} {D : Mob} (h : Drw n D) (hn : n < 1000000000000) {m : Int} (h0 : 0 < m) (h1 : m < 1073741824) : ∃ r D', 0 ≤ r ∧ r < m ∧ Drw (n + 1) D' ∧ ∀ k rest, cal (k + 2) 2 [.ref 0, .int m] (D :: rest) = .ok (.val (.int r)) (D' :: rest) := by
  obtain ⟨cs, a, l, u, rfl, hc, ha, hl, hu, hun⟩ := h
  by_cases hL : 0 < l
  · refine ⟨l % m, drM cs a (l / m) u, Int.emod_nonneg _ (by omega), Int.emod_lt_of_pos _ h0, ⟨cs, a, l / m, u, rfl, hc, ha, Int.ediv_nonneg hl (by omega), hu, by omega⟩, fun k rest => ?_⟩
    rw [cal2]
    unfold ir2 drM
    wide_line with ⟨cc_call, cc_T, hL, h0, h1, str_inj⟩
  · obtain ⟨c, ec⟩ := at_mod hc (a := a)
    have hl0 : (0 : Int) < ((cs.map Dat.int).length : Int) := by
      rw [List.length_map]
      have := List.length_pos_iff.mpr hc
      omega
    by_cases hB : 1000000000000000000 ≤ c ∧ a + 1 ≤ ((cs.map Dat.int).length : Int)
    · refine ⟨c % m, drM cs (a + 1) (c / m) u, Int.emod_nonneg _ (by omega), Int.emod_lt_of_pos _ h0, ⟨cs, a + 1, c / m, u, rfl, hc, by omega, Int.ediv_nonneg (by omega) (by omega), hu, by omega⟩, fun k rest => ?_⟩
      rw [cal2]
      unfold ir2 drM
      wide_line with ⟨cc_call, cc_T, hL, h0, h1, str_inj, ec, hl0, pw18, hB.1, hB.2⟩
    · have hB' : ∀ k env rest, (evT (CC k) 99 (.and (.cmp .ge (.slot 2) (.bin .pow (.con (.int 10)) (.con (.int 18)))) (.cmp .le (.sub (.slot 0) (.con (.str "at"))) (.bi .len (.slot 3) []))) ⟨[.val (.ref 0), .val (.int m), .val (.int c), .val (.lst (cs.map Dat.int))] ++ env, drM cs (a + 1) l u :: rest⟩) = .ok false ⟨[.val (.ref 0), .val (.int m), .val (.int c), .val (.lst (cs.map Dat.int))] ++ env, drM cs (a + 1) l u :: rest⟩ := by
        intro k env rest
        by_cases h2 : 1000000000000000000 ≤ c
        · have h3 : ¬ a + 1 ≤ ((cs.map Dat.int).length : Int) := fun h => hB ⟨h2, h⟩
          unfold drM
          wide_line with ⟨cc_call, cc_T, str_inj, pw18, h2, h3, List.cons_append, List.nil_append⟩
        · unfold drM
          wide_line with ⟨cc_call, cc_T, str_inj, pw18, h2, List.cons_append, List.nil_append⟩
      have hB2 := fun k rest => hB' k [.no, .no] rest
      unfold drM at hB2
      simp only [List.cons_append, List.nil_append] at hB2
      have e1 : mulOk 7919 (u + 1) = true := mul_l (by decide) (by decide)
      have e2 : mulOk (7919 * (u + 1)) (u + 1) = true := mul_r (by omega) (by omega)
      have e3 : ∀ x, mulOk 31 x = true := fun x => mul_l (by decide) (by decide)
      have e4 : ∀ x, mulOk x 48271 = true := fun x => mul_r (by decide) (by decide)
      have e5 : ∀ x, mulOk 2 x = true := fun x => mul_l (by decide) (by decide)
      have e6 : ∀ x y, mulOk (x % 2147483647) y = true := fun x y => mul_l (by omega) (by omega)
      have main : ∃ x : Int, ∀ k rest, cal (k + 2) 2 [.ref 0, .int m] (drM cs a l u :: rest) = .ok (.val (.int (x % m))) (drM cs (a + 1) l (u + 1) :: rest) := by
        refine Exists.intro ?x ?h
        case h =>
          intro k rest
          rw [cal2]
          unfold ir2 drM
          wide_line with ⟨cc_call, cc_T, hL, h0, h1, str_inj, ec, hl0, hB2, f_cons, e1, e2, e3, e4, e5, e6⟩
          exact rfl
      obtain ⟨x, hx⟩ := main
      exact ⟨x % m, _, Int.emod_nonneg _ (by omega), Int.emod_lt_of_pos _ h0, ⟨cs, a + 1, l, u + 1, rfl, hc, by omega, hl, by omega, by omega⟩, hx⟩
end K02
set_option maxHeartbeats 4000000
namespace K02
open PySem PySem.Spec PyProof.Rows L2 En
local macro_rules | `(tactic| wide_line with ⟨$xs,*⟩) => `(tactic| simp only [b_ok, b_exc, a_bind, a_ret, a_opt, a_nx, lk_bor, lkB_own, lkB_val, lk_own, lk_ref, lk_non, lk_bl, lk_int, lk_str, lk_tup, lk_lst, lk_dct, lk_obj, lk_err, lk_cls, lk_ty, lk_scr, tv_val, tv_own, tv_bor, tvB_own, tvB_val, md_lst, md_dct, md_ins, kSq2_e, sq_nil, sq_cons, kSq1_e, slO_val, slO_own, e_con, e_slot, kTup_e, kLst_e, e_tup, e_lst, e_bin, kBin1_e, binK_e, biO_e, e_neg, kNeg_e, ngO_e, e_cmp, kCmp1_e, cmpK_e, cmO_e, cmR_e, e_chn, kChn1_e, kChn2_e, kChn3_t, kChn3_f, truA_e, trO_e, kNot_e, kNotV_e, e_nt, kAnd1_e, kOr1_e, kAnd_t, kAnd_f, kOr_t, kOr_f, e_and, e_or, kIte_t, kIte_f, e_ite, kTAnd_t, kTAnd_f, kTOr_t, kTOr_f, kTIte_t, kTIte_f, t_nt, t_and, t_or, t_ite, t_con, t_slot, t_cmp, t_chn, t_bin, t_bi, t_call, t_att, t_prp, t_sub, t_mth, t_mtd, t_lc, kAtt_e, atO_e, e_att, e_sub, kSub1_e, subK_e, sbO_e, sbR_e, intA_e, inO_e, kSome_e, opI_n, opI_s, e_slc, kSlc1_e, kSlc2_e, slcK_e, scO_e, e_rev, kRev_e, rvP_e, rvO_e, couO_ok, couO_exc, couA_e, caO_e, e_call, kCal1_e, kCal2_e, pm_nil, pm_pos, pm_kw, pm_dft, pmC_e, e_bi, kBi1_e, biK_e, bcO_e, sm_bor, smV_own, sm_ref, kUnit_e, mtR_n, mtR_s, mtO_e, mthK_e, e_mth, kMth1_e, kd_l, kd_d, kd_dd, kd_s, kn_l, kn_d, kn_dd, kn_s, ty_app, ty_pop, ty_ext, ty_upp, ty_spl, ty_joi, ty_rpl, ty_get, e_sto, stoA_e, dc_nil, dc_cons, kDc1_e, kDc2_e, kDc3_e, kDic_e, dcR_e, e_dic0, e_dic, ky_nil, ky_cons, kyC_e, ky_int, ky_str, e_lc, kLc_e, kLc2_e, s_ex, walkA_e, kWlk_e, kWlk2_e, wd_lst, wd_tup, wd_str, s_rng1, kRg1_e, s_rng2, kRg2_e, kRg3_e, s_enm, kEnm_e, s_zip, kZip_e, kZip2_e, g_slot, setA_val, setA_own, setA_bor, kSet_e, tgs_nil, tgs_cons, kTgs_e, g_tup, upO_e, upR_e, g_sub, kStp0_e, kStp1_e, stpK_e, spO_e, spR_e, q_nil, q_cons, kSts_nx, kSts_rt, kSts_bk, kSts_ct, kNx_e, x_asg, kAsg_e, kExp_e, x_exp, x_ret0, x_ret, retA_val, retA_own, retA_bor, rtB_own, kIf_t, kIf_f, x_ife, x_pas, x_brk, x_cnt, x_whl, kFor_e, x_for, x_par2, kPar2_e, x_par3, kPar3_e, f_nil, kFor1_e, kFor2_nx, kFor2_ct, kFor2_bk, kFor2_rt, szl, str_inj, tr_non, tr_bl, tr_int, tr_tup, tr_lst, tr_mls, cm_eq, cm_ne, cm_lt, cm_le, cm_gt, cm_ge, cm_ltS, cm_leS, cm_in, cm_nin, cm_isb, cm_isn, cm_isnn, nn_non, nn_bl, nn_int, nn_str, nn_tup, nn_lst, nn_obj, nn_err, nn_mb, eq_dd, eq_ml, eq_lm, eq_mm, dp_non, dp_bl, dp_int, dp_str, dp_tup, dp_lst, dl_nil, dl_cons, q_nn, q_bb, q_ii, q_ss, q_tt, q_ll, q_sn, q_ns, q_is, q_si, q_st, q_ts, q_nt, q_tn, q_in, q_ni, andO_e, orO_e, ql_nil, ql_nc, ql_cn, ql_cc, in_nil, in_tup, in_lst, in_mls, in_sgn, in_mdS, in_dS, mpI_e, ib_add, ib_sub, pw18, pw30, pw40, bn_ss, bn_tt, bn_sm, bn_ll, bn_lm, bn_ml, bn_mm, bn_xl, bn_xm, ln_str, ln_tup, ln_lst, ln_mls, ln_mdc, sb_str, sb_tup, sb_lst, sb_mls, sb_dcS, sb_mdS, at_0, at_1, at_2, at_3, at_4, at_5, gk_nil, gk_cons, pd_nil, pd_cons, so_lst, so_dcS, mg_nil, mg_cons, lnR_e, f_len, f_tupM, f_tupL, f_tupT, f_lsM, f_lsL, f_lsT, f_strS, f_allM, f_anyM, m_app, m_pop, m_ext, m_upp, m_spl, m_joi, mjO_e, sq_lst, sq_tup, vt_tup, vl_lst, vl_mls, noO_e, stpA_e, kStA_e, kStB_t, kStB_f, kStC_e, cnd_n, cnd_s, wip_e, wp_nil, wp_cons, bkO_v, bkO_n, bak_e, bk_nil, bk_cons, trn_nil, kTr_n, kTr_s, oc_rv, oc_ro, oc_nx, oc_x, List.getElem?_cons_zero, List.getElem?_cons_succ, List.getElem?_nil, List.set_cons_zero, List.set_cons_succ, List.length_cons, List.length_nil, Option.map_some, Option.map_none, Option.bind_some, Option.isSome_some, Option.isSome_none, decide_true, decide_false, Bool.not_true, Bool.not_false, Bool.true_and, Bool.false_and, Bool.and_true, Bool.and_false, Bool.true_or, Bool.false_or, Bool.or_true, Bool.or_false, ite_true, ite_false, if_true, if_false, and_self, and_true, true_and, and_false, false_and, Nat.reduceAdd, Nat.reduceLeDiff, Nat.reduceLT, Nat.zero_lt_succ, Nat.reduceSub, Nat.reduceMul, Nat.zero_add, Nat.add_zero, Nat.reduceEqDiff, Nat.max_self, Nat.zero_max, Nat.max_zero, reduceIte, Sum.inr.injEq, Sum.inl.injEq, reduceCtorEq, String.reduceEq, List.isEmpty_cons, List.isEmpty_nil, String.reduceBEq, decide_eq_true_eq, Bool.decide_eq_true, Int.reduceLT, Int.reduceLE, Int.reduceAdd, Int.reduceSub, Int.reduceNeg, Int.reduceEq, Bool.false_eq_true, List.mem_cons, List.not_mem_nil, or_false, false_or, or_true, true_or, Nat.succ_ne_zero, bn_ii, ib_mod, ib_fdiv, ib_mul, not_true_eq_false, not_false_eq_true, List.map_cons, List.map_nil, depL_strs, inL_strs, kRun_e, $[$xs:term],*])
theorem cal0 {k : Nat} {a : Dat} {sto : List Mob} : cal (k+2) 0 [a] sto = outC (sqS (CC k) 100 ir0 ⟨[.val a, .no], sto⟩) := rfl
theorem cal4 {k : Nat} {sto : List Mob} : cal (k+2) 4 [] sto = outC (sqS (CC k) 100 ir4 ⟨[.no], sto⟩) := rfl
theorem cal5 {k : Nat} {a : Dat} {sto : List Mob} : cal (k+2) 5 [a] sto = outC (sqS (CC k) 100 ir5 ⟨[.val a, .no], sto⟩) := rfl
theorem cal6 {k : Nat} {a : Dat} {sto : List Mob} : cal (k+2) 6 [a] sto = outC (sqS (CC k) 100 ir6 ⟨[.val a, .no, .no, .no, .no, .no], sto⟩) := rfl
theorem cal7 {k : Nat} {a b : Dat} {sto : List Mob} : cal (k+2) 7 [a, b] sto = outC (sqS (CC k) 100 ir7 ⟨[.val a, .val b, .no, .no], sto⟩) := rfl
theorem cal8 {k : Nat} {a : Dat} {sto : List Mob} : cal (k+2) 8 [a] sto = outC (sqS (CC k) 100 ir8 ⟨[.val a, .no, .no, .no, .no, .no, .no], sto⟩) := rfl
def RES : List Str := ["act", "and", "anyone", "breach", "day", "does", "done", "else", "for", "forever", "hands", "may", "must", "not", "or", "parties", "repeat", "role", "so", "term", "then", "to", "until", "wait", "when", "within"]
def letters : Str := "abcdefghijklmnopqrstuvwxyz"
def okS (x : Str) : Bool := x.cps.toList.all fun c => decide (97 ≤ c) && decide (c ≤ 122)
def isW (x : Str) : Bool := decide (1 ≤ (x.length : Int)) && decide ((x.length : Int) ≤ 12) && !(RES.any (· == x)) && okS x
theorem let_mem (c : Nat) : decide (c ∈ letters.cps.toList) = (decide (97 ≤ c) && decide (c ≤ 122)) := by
  have e : letters.cps.toList = List.range' 97 26 := by decide +kernel
  rw [e]
  have h : c ∈ List.range' 97 26 ↔ (97 ≤ c ∧ c ≤ 122) := by
    rw [List.mem_range'_1]
    omega
  rw [decide_eq_decide.mpr h, Bool.decide_and]
def RESd : List Dat := [.str "act", .str "and", .str "anyone", .str "breach", .str "day", .str "does", .str "done", .str "else", .str "for", .str "forever", .str "hands", .str "may", .str "must", .str "not", .str "or", .str "parties", .str "repeat", .str "role", .str "so", .str "term", .str "then", .str "to", .str "until", .str "wait", .str "when", .str "within"]
theorem RESd_e : RESd = RES.map .str := rfl
theorem in_res {x : Str} : Vw.isin (.dt (.tup RESd)) (.dt (.str x)) = some (RES.any (· == x)) := by
  rw [in_tup, RESd_e, depL_strs, if_pos (by decide), inL_strs]
theorem in_res2 {x : Str} : Vw.isin (.dt (.lst (RES.map .str))) (.dt (.str x)) = some (RES.any (· == x)) := by
  rw [in_lst, depL_strs, if_pos (by decide), inL_strs]
theorem in_res3 {x : Str} : Vw.isin (.mb (.lst (RES.map .str))) (.dt (.str x)) = some (RES.any (· == x)) := by
  rw [in_mls, depL_strs, if_pos (by decide), inL_strs]
theorem isi_s {x : Str} : isaV tb.T (.dt (.str x)) (.ty "str") = some true := by rfl
theorem spec0 (k : Nat) (x : Str) (sto : List Mob) (hx : x.length ≤ 16777216) : cal (k+2) 0 [.str x] sto = .ok (.val (.bl (isW x))) sto := by
  rw [cal0]
  unfold ir0
  have hR := @in_res x
  unfold RESd at hR
  by_cases h1 : (1 : Int) ≤ x.length
  · by_cases h2 : (x.length : Int) ≤ 12
    · by_cases h3 : RES.any (· == x) = true
      · wide_line with ⟨cc_call, cc_T, f_isi, isi_s, hx, h1, h2, hR, h3, str_inj⟩
        unfold isW
        simp [h3]
      · rw [Bool.not_eq_true] at h3
        wide_line with ⟨cc_call, cc_T, f_isi, isi_s, hx, h1, h2, hR, h3, str_inj⟩
        rw [trn_signs (f := fun c => some (.bl (decide (c ∈ letters.cps.toList))))]
        · rw [fm_some]
          wide_line with ⟨cc_call, cc_T, bls_map⟩
          unfold isW okS
          simp only [h1, h2, h3, decide_true, Bool.not_false, Bool.and_self, Bool.true_and, List.all_map, Function.comp_def, id, let_mem]
        · intro c hc
          wide_line with ⟨stpA_e⟩
          rfl
        · exact hx
    · wide_line with ⟨cc_call, cc_T, f_isi, isi_s, hx, h1, h2, hR, str_inj⟩
      unfold isW
      simp [h2]
  · wide_line with ⟨cc_call, cc_T, f_isi, isi_s, hx, h1, hR, str_inj⟩
    unfold isW
    simp [h1]
theorem spec4 (k : Nat) (sto : List Mob) : cal (k+2) 4 [] sto = .ok (.own (.lst (RES.map .str))) sto := by
  rw [cal4]
  unfold ir4
  have e1 : ("act and anyone breach day does done else for forever hands may must not or parties repeat role so term" : Str).length + (" then to until wait when within" : Str).length ≤ 16777216 := by decide +kernel
  have e2 : ((" " : Str).length == 0) = false := by decide +kernel
  have e3 : (("act and anyone breach day does done else for forever hands may must not or parties repeat role so term" : Str) ++ (" then to until wait when within" : Str)).length + 2 ≤ 16777216 := by decide +kernel
  have e4 : Txt.split (("act and anyone breach day does done else for forever hands may must not or parties repeat role so term" : Str) ++ (" then to until wait when within" : Str)) (" " : Str) = RES := by decide +kernel
  wide_line with ⟨e1, e2, e3, e4, show mtTy .split = "str" from rfl⟩
theorem lt1 (a b : Nat) : ([a] < [b]) ↔ a < b := by
  rw [List.cons_lt_cons_iff]
  simp
theorem le_a (c : Nat) : (!decide ([c] < ("a" : Str).cps.toList)) = decide (97 ≤ c) := by
  have e : ("a" : Str).cps.toList = [97] := by decide +kernel
  rw [e]
  show (!decide ([c] < [97])) = _
  have e2 : decide ([c] < [97]) = decide (c < 97) := decide_eq_decide.mpr (lt1 c 97)
  rw [e2]
  by_cases h : 97 ≤ c
  · rw [decide_eq_true h, decide_eq_false (by omega)]
    rfl
  · rw [decide_eq_false h, decide_eq_true (by omega)]
    rfl
theorem le_z (c : Nat) : (!decide (("z" : Str).cps.toList < [c])) = decide (c ≤ 122) := by
  have e : ("z" : Str).cps.toList = [122] := by decide +kernel
  rw [e]
  show (!decide ([122] < [c])) = _
  have e2 : decide ([122] < [c]) = decide (122 < c) := decide_eq_decide.mpr (lt1 122 c)
  rw [e2]
  by_cases h : c ≤ 122
  · rw [decide_eq_true h, decide_eq_false (by omega)]
    rfl
  · rw [decide_eq_false h, decide_eq_true (by omega)]
    rfl
theorem fm_filter {xs : List Nat} : xs.filterMap (fun c => if 97 ≤ c ∧ c ≤ 122 then none else some (Dat.str ⟨#[c]⟩)) = (xs.filter (fun c => !(decide (97 ≤ c ∧ c ≤ 122)))).map fun c => Dat.str ⟨#[c]⟩ := by
  induction xs with
  | nil => rfl
  | cons c xs ih =>
    rw [List.filterMap_cons, List.filter_cons]
    by_cases h : 97 ≤ c ∧ c ≤ 122
    · simp only [h, and_self, if_true, decide_true, Bool.not_true, Bool.false_eq_true, if_false]
      exact ih
    · simp only [h, if_false, decide_false, Bool.not_false, if_true, List.map_cons, ih]
theorem depL_chr {xs : List Nat} : depL (xs.map fun c => Dat.str ⟨#[c]⟩) = 0 := by
  induction xs with
  | nil => rfl
  | cons c xs ih =>
    rw [List.map_cons, dl_cons, ih]
    rfl
theorem spec5 (k : Nat) (x : Str) (sto : List Mob) (hx : x.length ≤ 16777216) : cal (k+3) 5 [.str x] sto = .ok (.val (.bl (isW x))) sto := by
  rw [cal5]
  unfold ir5
  by_cases h1 : (x.length : Int) < 1
  · wide_line with ⟨cc_call, cc_T, f_isi, isi_s, hx, h1, str_inj⟩
    unfold isW
    have : ¬ (1 : Int) ≤ x.length := by omega
    simp [this]
  · by_cases h2 : 12 < (x.length : Int)
    · wide_line with ⟨cc_call, cc_T, f_isi, isi_s, hx, h1, h2, str_inj⟩
      unfold isW
      have : ¬ (x.length : Int) ≤ 12 := by omega
      simp [this]
    · cases h3 : RES.any (· == x) with
      | true =>
        wide_line with ⟨cc_call, cc_T, f_isi, isi_s, hx, h1, h2, str_inj, spec4, in_res3, h3⟩
        unfold isW
        simp [h3]
      | false =>
        wide_line with ⟨cc_call, cc_T, f_isi, isi_s, hx, h1, h2, str_inj, spec4, in_res3, h3⟩
        rw [trn_signs (f := fun c => if 97 ≤ c ∧ c ≤ 122 then none else some (.str ⟨#[c]⟩))]
        · rw [fm_filter]
          cases h4 : okS x with
          | true =>
            have e : x.cps.toList.filter (fun c => !(decide (97 ≤ c ∧ c ≤ 122))) = [] := by
              rw [List.filter_eq_nil_iff]
              intro c hc
              have := List.all_eq_true.mp h4 c hc
              simp at this ⊢
              exact this
            rw [e]
            wide_line with ⟨⟩
            unfold isW
            simp only [h3, h4]
            simp
            omega
          | false =>
            have e : x.cps.toList.filter (fun c => !(decide (97 ≤ c ∧ c ≤ 122))) ≠ [] := by
              intro e
              rw [List.filter_eq_nil_iff] at e
              have h5 : okS x = true := List.all_eq_true.mpr fun c hc => by
                have := e c hc
                simp at this ⊢
                exact this
              rw [h4] at h5
              cases h5
            have hl : (((x.cps.toList.filter (fun c => !(decide (97 ≤ c ∧ c ≤ 122)))).map fun c => Dat.str ⟨#[c]⟩).length = 0) = False := by
              rw [List.length_map]
              simp only [List.length_eq_zero_iff, e]
            wide_line with ⟨depL_chr, hl⟩
            unfold isW
            simp only [h4]
            simp
        · intro c hc
          by_cases c1 : 97 ≤ c
          · by_cases c2 : c ≤ 122
            · wide_line with ⟨stpA_e, le_a, le_z, c1, c2⟩
            · wide_line with ⟨stpA_e, le_a, le_z, c1, c2⟩
          · wide_line with ⟨stpA_e, le_a, le_z, c1⟩
        · exact hx
end K02
set_option maxHeartbeats 4000000
namespace K02
open PySem PySem.Spec PyProof.Rows L2 En
local macro_rules | `(tactic| wide_line with ⟨$xs,*⟩) => `(tactic| simp only [b_ok, b_exc, a_bind, a_ret, a_opt, a_nx, lk_bor, lkB_own, lkB_val, lk_own, lk_ref, lk_non, lk_bl, lk_int, lk_str, lk_tup, lk_lst, lk_dct, lk_obj, lk_err, lk_cls, lk_ty, lk_scr, tv_val, tv_own, tv_bor, tvB_own, tvB_val, md_lst, md_dct, md_ins, kSq2_e, sq_nil, sq_cons, kSq1_e, slO_val, slO_own, e_con, e_slot, kTup_e, kLst_e, e_tup, e_lst, e_bin, kBin1_e, binK_e, biO_e, e_neg, kNeg_e, ngO_e, e_cmp, kCmp1_e, cmpK_e, cmO_e, cmR_e, e_chn, kChn1_e, kChn2_e, kChn3_t, kChn3_f, truA_e, trO_e, kNot_e, kNotV_e, e_nt, kAnd1_e, kOr1_e, kAnd_t, kAnd_f, kOr_t, kOr_f, e_and, e_or, kIte_t, kIte_f, e_ite, kTAnd_t, kTAnd_f, kTOr_t, kTOr_f, kTIte_t, kTIte_f, t_nt, t_and, t_or, t_ite, t_con, t_slot, t_cmp, t_chn, t_bin, t_bi, t_call, t_att, t_prp, t_sub, t_mth, t_mtd, t_lc, kAtt_e, atO_e, e_att, e_sub, kSub1_e, subK_e, sbO_e, sbR_e, intA_e, inO_e, kSome_e, opI_n, opI_s, e_slc, kSlc1_e, kSlc2_e, slcK_e, scO_e, e_rev, kRev_e, rvP_e, rvO_e, couO_ok, couO_exc, couA_e, caO_e, e_call, kCal1_e, kCal2_e, pm_nil, pm_pos, pm_kw, pm_dft, pmC_e, e_bi, kBi1_e, biK_e, bcO_e, sm_bor, smV_own, sm_ref, kUnit_e, mtR_n, mtR_s, mtO_e, mthK_e, e_mth, kMth1_e, kd_l, kd_d, kd_dd, kd_s, kn_l, kn_d, kn_dd, kn_s, ty_app, ty_pop, ty_ext, ty_upp, ty_spl, ty_joi, ty_rpl, ty_get, e_sto, stoA_e, dc_nil, dc_cons, kDc1_e, kDc2_e, kDc3_e, kDic_e, dcR_e, e_dic0, e_dic, ky_nil, ky_cons, kyC_e, ky_int, ky_str, e_lc, kLc_e, kLc2_e, s_ex, walkA_e, kWlk_e, kWlk2_e, wd_lst, wd_tup, wd_str, s_rng1, kRg1_e, s_rng2, kRg2_e, kRg3_e, s_enm, kEnm_e, s_zip, kZip_e, kZip2_e, g_slot, setA_val, setA_own, setA_bor, kSet_e, tgs_nil, tgs_cons, kTgs_e, g_tup, upO_e, upR_e, g_sub, kStp0_e, kStp1_e, stpK_e, spO_e, spR_e, q_nil, q_cons, kSts_nx, kSts_rt, kSts_bk, kSts_ct, kNx_e, x_asg, kAsg_e, kExp_e, x_exp, x_ret0, x_ret, retA_val, retA_own, retA_bor, rtB_own, kIf_t, kIf_f, x_ife, x_pas, x_brk, x_cnt, x_whl, kFor_e, x_for, x_par2, kPar2_e, x_par3, kPar3_e, f_nil, kFor1_e, kFor2_nx, kFor2_ct, kFor2_bk, kFor2_rt, szl, str_inj, tr_non, tr_bl, tr_int, tr_tup, tr_lst, tr_mls, cm_eq, cm_ne, cm_lt, cm_le, cm_gt, cm_ge, cm_ltS, cm_leS, cm_in, cm_nin, cm_isb, cm_isn, cm_isnn, nn_non, nn_bl, nn_int, nn_str, nn_tup, nn_lst, nn_obj, nn_err, nn_mb, eq_dd, eq_ml, eq_lm, eq_mm, dp_non, dp_bl, dp_int, dp_str, dp_tup, dp_lst, dl_nil, dl_cons, q_nn, q_bb, q_ii, q_ss, q_tt, q_ll, q_sn, q_ns, q_is, q_si, q_st, q_ts, q_nt, q_tn, q_in, q_ni, andO_e, orO_e, ql_nil, ql_nc, ql_cn, ql_cc, in_nil, in_tup, in_lst, in_mls, in_sgn, in_mdS, in_dS, mpI_e, ib_add, ib_sub, pw18, pw30, pw40, bn_ss, bn_tt, bn_sm, bn_ll, bn_lm, bn_ml, bn_mm, bn_xl, bn_xm, ln_str, ln_tup, ln_lst, ln_mls, ln_mdc, sb_str, sb_tup, sb_lst, sb_mls, sb_dcS, sb_mdS, at_0, at_1, at_2, at_3, at_4, at_5, gk_nil, gk_cons, pd_nil, pd_cons, so_lst, so_dcS, mg_nil, mg_cons, lnR_e, f_len, f_tupM, f_tupL, f_tupT, f_lsM, f_lsL, f_lsT, f_strS, f_allM, f_anyM, m_app, m_pop, m_ext, m_upp, m_spl, m_joi, mjO_e, sq_lst, sq_tup, vt_tup, vl_lst, vl_mls, noO_e, stpA_e, kStA_e, kStB_t, kStB_f, kStC_e, cnd_n, cnd_s, wip_e, wp_nil, wp_cons, bkO_v, bkO_n, bak_e, bk_nil, bk_cons, trn_nil, kTr_n, kTr_s, oc_rv, oc_ro, oc_nx, oc_x, List.getElem?_cons_zero, List.getElem?_cons_succ, List.getElem?_nil, List.set_cons_zero, List.set_cons_succ, List.length_cons, List.length_nil, Option.map_some, Option.map_none, Option.bind_some, Option.isSome_some, Option.isSome_none, decide_true, decide_false, Bool.not_true, Bool.not_false, Bool.true_and, Bool.false_and, Bool.and_true, Bool.and_false, Bool.true_or, Bool.false_or, Bool.or_true, Bool.or_false, ite_true, ite_false, if_true, if_false, and_self, and_true, true_and, and_false, false_and, Nat.reduceAdd, Nat.reduceLeDiff, Nat.reduceLT, Nat.zero_lt_succ, Nat.reduceSub, Nat.reduceMul, Nat.zero_add, Nat.add_zero, Nat.reduceEqDiff, Nat.max_self, Nat.zero_max, Nat.max_zero, reduceIte, Sum.inr.injEq, Sum.inl.injEq, reduceCtorEq, String.reduceEq, List.isEmpty_cons, List.isEmpty_nil, String.reduceBEq, decide_eq_true_eq, Bool.decide_eq_true, Int.reduceLT, Int.reduceLE, Int.reduceAdd, Int.reduceSub, Int.reduceNeg, Int.reduceEq, Bool.false_eq_true, List.mem_cons, List.not_mem_nil, or_false, false_or, or_true, true_or, Nat.succ_ne_zero, bn_ii, ib_mod, ib_fdiv, ib_mul, not_true_eq_false, not_false_eq_true, List.map_cons, List.map_nil, depL_strs, inL_strs, kRun_e, $[$xs:term],*])
theorem spec1 (k : Nat) (ns : List Int) (h : ns.length ≤ 63) : cal (k+2) 1 [.scr (ns.map .int)] [] = .ok (.val (.ref 0)) [drM (ns ++ [0]) 0 0 0] := by
  rw [cal1]
  unfold ir1
  have e : (ns.map Dat.int).length + 1 ≤ 16777216 := by rw [List.length_map]; omega
  have e2 : ns.map Dat.int ++ [Dat.int 0] = (ns ++ [0]).map Dat.int := by rw [List.map_append]; rfl
  wide_line with ⟨e, str_inj, List.nil_append, e2⟩
  rfl
theorem spec3 {n : Nat} {D : Mob} (h : Drw n D) (hn : n < 1000000000000) {xs : List Dat} (h0 : xs ≠ []) (h1 : xs.length < 1073741824) (k : Nat) (rest : List Mob) : ∃ d D', d ∈ xs ∧ Drw (n + 1) D' ∧ cal (k + 3) 3 [.ref 0, .lst xs] (D :: rest) = .ok (.val d) (D' :: rest) := by
  have hp := List.length_pos_iff.mpr h0
  obtain ⟨r, D', r0, r1, hD, e⟩ := spec2 h hn (m := xs.length) (by omega) (by omega)
  obtain ⟨d, ed, hd⟩ := getD_mem (xs := xs) r0 r1
  refine ⟨d, D', hd, hD, ?_⟩
  rw [cal3]
  unfold ir3
  wide_line with ⟨cc_call, cc_T, e, ed⟩
/-- a comprehension that draws -/
theorem trn_drw {step : Dat → Ac (Option Dat)} {env : List Slt} {rest : List Mob} (Pd : Dat → Prop) (c B : Nat) : ∀ (ds acc : List Dat) (n : Nat) (D : Mob), Drw n D → n + c * ds.length ≤ B →
    (∀ d D m, d ∈ ds → m ≤ B → Drw m D → ∃ y D', step d ⟨env, D :: rest⟩ = .ok (some y) ⟨env, D' :: rest⟩ ∧ Pd y ∧ Drw (m + c) D') → acc.length + ds.length ≤ 16777216 →
    ∃ D' ys, Drw (n + c * ds.length) D' ∧ ys.length = ds.length ∧ (∀ y, y ∈ ys → Pd y) ∧ trnA step acc ds ⟨env, D :: rest⟩ = .ok (acc ++ ys) ⟨env, D' :: rest⟩
  | [], acc, n, D, h, _, _, _ => ⟨D, [], h, rfl, fun y e => by simp at e, by rw [List.append_nil]; rfl⟩
  | d :: r, acc, n, D, h, hB, hs, hl => by
    rw [List.length_cons] at hl hB
    rw [Nat.mul_add, Nat.mul_one] at hB
    obtain ⟨y, D1, e1, hy, h1⟩ := hs d D n List.mem_cons_self (by omega) h
    obtain ⟨D', ys, h2, hl2, hp, e2⟩ := trn_drw Pd c B r (acc ++ [y]) (n + c) D1 h1 (by omega) (fun d D m hd => hs d D m (List.mem_cons_of_mem _ hd)) (by rw [List.length_append]; show acc.length + 1 + _ ≤ _; omega)
    refine ⟨D', y :: ys, ?_, by rw [List.length_cons, List.length_cons, hl2], fun z hz => ?_, ?_⟩
    · rw [List.length_cons, Nat.mul_add, Nat.mul_one, show n + (c * r.length + c) = n + c + c * r.length by omega]
      exact h2
    · rcases List.mem_cons.mp hz with rfl | hz
      · exact hy
      · exact hp z hz
    · rw [trn_cons, e1, b_ok, kTr_s, if_pos (by omega), e2, List.append_assoc]
      rfl
theorem trn_drw_of {step : Dat → Ac (Option Dat)} {env : List Slt} {rest : List Mob} {ds acc : List Dat} {n : Nat} {D : Mob} {o : Out (List Dat)} (ht : trnA step acc ds ⟨env, D :: rest⟩ = o) (Pd : Dat → Prop) (c B : Nat) (h : Drw n D) (hB : n + c * ds.length ≤ B)
    (hs : ∀ d D m, d ∈ ds → m ≤ B → Drw m D → ∃ y D', step d ⟨env, D :: rest⟩ = .ok (some y) ⟨env, D' :: rest⟩ ∧ Pd y ∧ Drw (m + c) D') (hl : acc.length + ds.length ≤ 16777216) :
    ∃ D' ys, Drw (n + c * ds.length) D' ∧ ys.length = ds.length ∧ (∀ y, y ∈ ys → Pd y) ∧ o = .ok (acc ++ ys) ⟨env, D' :: rest⟩ := by
  rw [← ht]
  exact trn_drw Pd c B ds acc n D h hB hs hl
theorem Drw.mono {n m : Nat} {D : Mob} (h : Drw n D) (hm : n ≤ m) : Drw m D := by
  obtain ⟨cs, a, l, u, h1, h2, h3, h4, h5, h6⟩ := h
  exact ⟨cs, a, l, u, h1, h2, h3, h4, h5, by omega⟩
theorem at_let {r : Int} (h0 : 0 ≤ r) (h1 : r < 26) : ∃ c, atI (letters.cps.toList) r = some c := by
  obtain ⟨c, e, _⟩ := getD_mem (xs := letters.cps.toList) h0 (by
    have : letters.cps.toList.length = 26 := by decide +kernel
    omega)
  exact ⟨c, e⟩
theorem up_res : ∀ x ∈ RES, (Txt.upper x).length ≤ 12 := by decide +kernel
theorem len_res : ∀ x ∈ RES, x.length ≤ 12 := by decide +kernel
theorem sz_at {r : Int} (h0 : 0 ≤ r) (h1 : r < 7) {z : Int} (hz : 0 ≤ z) (hz1 : z < 15) : ∃ j : Int, atI [Dat.int 0, .int 1, .int 2, .int 11, .int 12, .int 13, .int z] r = some (.int j) ∧ 0 ≤ j ∧ j < 15 := by
  have : r = 0 ∨ r = 1 ∨ r = 2 ∨ r = 3 ∨ r = 4 ∨ r = 5 ∨ r = 6 := by omega
  rcases this with rfl | rfl | rfl | rfl | rfl | rfl | rfl
  · exact ⟨_, rfl, by decide, by decide⟩
  · exact ⟨_, rfl, by decide, by decide⟩
  · exact ⟨_, rfl, by decide, by decide⟩
  · exact ⟨_, rfl, by decide, by decide⟩
  · exact ⟨_, rfl, by decide, by decide⟩
  · exact ⟨_, rfl, by decide, by decide⟩
  · exact ⟨_, rfl, hz, hz1⟩
theorem strs_ones : ∀ {ys : List Dat}, (∀ y, y ∈ ys → ∃ c, y = .str ⟨#[c]⟩) → ∃ zs : List Str, strsOf ys = some zs ∧ (∀ z, z ∈ zs → z.length = 1) ∧ zs.length = ys.length
  | [], _ => ⟨[], rfl, by simp, rfl⟩
  | y :: ys, h => by
    obtain ⟨c, rfl⟩ := h y List.mem_cons_self
    obtain ⟨zs, e, h1, h2⟩ := strs_ones fun y hy => h y (List.mem_cons_of_mem _ hy)
    refine ⟨⟨#[c]⟩ :: zs, by show (strsOf ys).map _ = _; rw [e]; rfl, ?_, by rw [List.length_cons, List.length_cons, h2]⟩
    intro z hz
    rcases List.mem_cons.mp hz with rfl | hz
    · rfl
    · exact h1 z hz
theorem sum_ones : ∀ {zs : List Str}, (∀ z, z ∈ zs → z.length = 1) → (zs.map (·.length)).sum = zs.length
  | [], _ => rfl
  | z :: zs, h => by
    rw [List.map_cons, List.sum_cons, sum_ones fun y hy => h y (List.mem_cons_of_mem _ hy), h z List.mem_cons_self, List.length_cons]
    omega
theorem spec6 {n : Nat} {D : Mob} (h : Drw n D) (hn : n < 100000000000) (k : Nat) (rest : List Mob) : ∃ x D', x.length ≤ 15 ∧ Drw (n + 100) D' ∧ cal (k + 4) 6 [.ref 0] (D :: rest) = .ok (.val (.str x)) (D' :: rest) := by
  obtain ⟨r1, D1, a1, b1, h1, e1⟩ := spec2 h (by omega) (m := 15) (by decide) (by decide)
  obtain ⟨r2, D2, a2, b2, h2, e2⟩ := spec2 h1 (by omega) (m := 7) (by decide) (by decide)
  obtain ⟨j, ej, hj0, hj1⟩ := sz_at a2 b2 a1 b1
  rw [cal6]
  unfold ir6
  have hr : rngOk j = true := by
    unfold rngOk
    simp
    omega
  wide_line with ⟨cc_call, cc_T, e1, e2, ej, hr⟩
  generalize ht : trnA _ _ _ _ = o
  obtain ⟨D3, ys, h3, hl, hp, rfl⟩ := trn_drw_of ht (fun y => ∃ c, y = .str ⟨#[c]⟩) 1 500000000000 h2 (by rw [ints_len]; omega) (fun d D m hd hm hD => by
    obtain ⟨r, D', a, b, hD', e⟩ := spec2 hD (by omega) (m := 26) (by decide) (by decide)
    obtain ⟨c, ec⟩ := at_let a b
    unfold letters at ec
    have el : (Str.ofString "abcdefghijklmnopqrstuvwxyz").length ≤ 16777216 := by decide +kernel
    refine ⟨_, D', ?_, ⟨c, rfl⟩, hD'⟩
    wide_line with ⟨cc_call, cc_T, stpA_e, e, el, ec⟩) (by rw [ints_len]; show 0 + _ ≤ _; omega)
  clear ht
  rw [ints_len] at h3 hl
  obtain ⟨zs, ez, hz, hzl⟩ := strs_ones hp
  have hjl : joinLen "" zs ≤ 16777216 := by
    unfold joinLen
    have : (Str.ofString "").length = 0 := by decide +kernel
    rw [sum_ones hz, this]
    omega
  obtain ⟨near, D4, m4, h4, e4⟩ := spec3 h3 (by omega) (xs := RES.map .str) (by decide) (by decide) k rest
  obtain ⟨nr, hnr, rfl⟩ := List.mem_map.mp m4
  have n1 := len_res nr hnr
  have n2 := up_res nr hnr
  obtain ⟨r5, D5, a5, b5, h5, e5⟩ := spec2 h4 (by omega) (m := 26) (by decide) (by decide)
  obtain ⟨c5, ec5⟩ := at_let a5 b5
  unfold letters at ec5
  have el : (Str.ofString "abcdefghijklmnopqrstuvwxyz").length ≤ 16777216 := by decide +kernel
  have n3 : nr.length ≤ 16777216 := by omega
  have n4 : nr.length ≤ 5592405 := by omega
  have n5 : nr.length + (⟨#[c5]⟩ : Str).length ≤ 16777216 := by
    show nr.length + 1 ≤ _
    omega
  have hjw : (Txt.join "" zs).length ≤ 14 := by
    rw [PySem.W.KT.join_ones zs hz]
    omega
  wide_line with ⟨cc_call, cc_T, List.nil_append, ez, hjl, spec4, e4, e5, n3, n4, n5, sc_str, el, ec5⟩
  obtain ⟨d6, D6, m6, h6, e6⟩ := spec3 h5 (by omega) (xs := [Dat.str (Txt.join (Str.ofString "") zs), Dat.str (Txt.join (Str.ofString "") zs), Dat.str nr, Dat.str (cutS nr none (some (-1))), Dat.str (nr ++ ⟨#[c5]⟩), Dat.str (Txt.upper nr)]) (by simp) (by simp) k rest
  have hx : ∃ x : Str, d6 = .str x ∧ x.length ≤ 15 := by
    simp only [List.mem_cons, List.not_mem_nil, or_false] at m6
    rcases m6 with rfl | rfl | rfl | rfl | rfl | rfl
    · exact ⟨_, rfl, by omega⟩
    · exact ⟨_, rfl, by omega⟩
    · exact ⟨_, rfl, by omega⟩
    · exact ⟨_, rfl, by have := len_cut nr none (some (-1)); omega⟩
    · exact ⟨_, rfl, by rw [len_app]; show nr.length + 1 ≤ 15; omega⟩
    · exact ⟨_, rfl, by omega⟩
  obtain ⟨x, rfl, hx⟩ := hx
  refine ⟨x, D6, hx, h6.mono (by omega), ?_⟩
  wide_line with ⟨e6⟩
theorem spec7 {n : Nat} {D : Mob} (h : Drw n D) (hn : n < 100000000000) {w : Str} (hw : w.length ≤ 15) (k : Nat) (rest : List Mob) : ∃ x D', x.length ≤ 31 ∧ Drw (n + 3) D' ∧ cal (k + 4) 7 [.ref 0, .str w] (D :: rest) = .ok (.val (.str x)) (D' :: rest) := by
  obtain ⟨r1, D1, a1, b1, h1, e1⟩ := spec2 h (by omega) (m := w.length + 1) (by omega) (by omega)
  obtain ⟨r2, D2, a2, b2, h2, e2⟩ := spec2 h1 (by omega) (m := 12) (by decide) (by decide)
  have lz : (Str.ofString "A1 _-.(\nz~Z9").cps.toList.length = 12 := by decide +kernel
  obtain ⟨c, ec, _⟩ := getD_mem (xs := (Str.ofString "A1 _-.(\nz~Z9").cps.toList) a2 (by omega)
  have el : (Str.ofString "A1 _-.(\nz~Z9").length ≤ 16777216 := by decide +kernel
  have s1 := len_cut w none (some r1)
  have s2 := len_cut w (some r1) none
  have s3 := len_cut w (some (r1 + 1)) none
  have s4 : (⟨#[c]⟩ : Str).length = 1 := rfl
  have t1 : (cutS w none (some r1)).length + (⟨#[c]⟩ : Str).length ≤ 16777216 := by omega
  have t2 : (cutS w none (some r1) ++ ⟨#[c]⟩).length + (cutS w (some r1) none).length ≤ 16777216 := by
    rw [len_app]
    omega
  have t3 : (cutS w none (some r1) ++ ⟨#[c]⟩).length + (cutS w (some (r1 + 1)) none).length ≤ 16777216 := by
    rw [len_app]
    omega
  have hw' : w.length ≤ 16777216 := by omega
  obtain ⟨d6, D6, m6, h6, e6⟩ := spec3 h2 (by omega) (xs := [.str (cutS w none (some r1) ++ ⟨#[c]⟩ ++ cutS w (some r1) none), .str (cutS w none (some r1) ++ ⟨#[c]⟩ ++ cutS w (some (r1 + 1)) none)]) (by simp) (by simp) k rest
  have hx : ∃ x : Str, d6 = .str x ∧ x.length ≤ 31 := by
    simp only [List.mem_cons, List.not_mem_nil, or_false] at m6
    rcases m6 with rfl | rfl
    · exact ⟨_, rfl, by rw [len_app, len_app]; omega⟩
    · exact ⟨_, rfl, by rw [len_app, len_app]; omega⟩
  obtain ⟨x, rfl, hx⟩ := hx
  refine ⟨x, D6, hx, h6, ?_⟩
  rw [cal7]
  unfold ir7
  wide_line with ⟨cc_call, cc_T, e1, e2, ec, el, hw', t1, t2, t3, sc_str, e6⟩
end K02
set_option maxHeartbeats 4000000
namespace K02
open PySem PySem.Spec PyProof.Rows L2 En
local macro_rules | `(tactic| wide_line with ⟨$xs,*⟩) => `(tactic| simp only [b_ok, b_exc, a_bind, a_ret, a_opt, a_nx, lk_bor, lkB_own, lkB_val, lk_own, lk_ref, lk_non, lk_bl, lk_int, lk_str, lk_tup, lk_lst, lk_dct, lk_obj, lk_err, lk_cls, lk_ty, lk_scr, tv_val, tv_own, tv_bor, tvB_own, tvB_val, md_lst, md_dct, md_ins, kSq2_e, sq_nil, sq_cons, kSq1_e, slO_val, slO_own, e_con, e_slot, kTup_e, kLst_e, e_tup, e_lst, e_bin, kBin1_e, binK_e, biO_e, e_neg, kNeg_e, ngO_e, e_cmp, kCmp1_e, cmpK_e, cmO_e, cmR_e, e_chn, kChn1_e, kChn2_e, kChn3_t, kChn3_f, truA_e, trO_e, kNot_e, kNotV_e, e_nt, kAnd1_e, kOr1_e, kAnd_t, kAnd_f, kOr_t, kOr_f, e_and, e_or, kIte_t, kIte_f, e_ite, kTAnd_t, kTAnd_f, kTOr_t, kTOr_f, kTIte_t, kTIte_f, t_nt, t_and, t_or, t_ite, t_con, t_slot, t_cmp, t_chn, t_bin, t_bi, t_call, t_att, t_prp, t_sub, t_mth, t_mtd, t_lc, kAtt_e, atO_e, e_att, e_sub, kSub1_e, subK_e, sbO_e, sbR_e, intA_e, inO_e, kSome_e, opI_n, opI_s, e_slc, kSlc1_e, kSlc2_e, slcK_e, scO_e, e_rev, kRev_e, rvP_e, rvO_e, couO_ok, couO_exc, couA_e, caO_e, e_call, kCal1_e, kCal2_e, pm_nil, pm_pos, pm_kw, pm_dft, pmC_e, e_bi, kBi1_e, biK_e, bcO_e, sm_bor, smV_own, sm_ref, kUnit_e, mtR_n, mtR_s, mtO_e, mthK_e, e_mth, kMth1_e, kd_l, kd_d, kd_dd, kd_s, kn_l, kn_d, kn_dd, kn_s, ty_app, ty_pop, ty_ext, ty_upp, ty_spl, ty_joi, ty_rpl, ty_get, e_sto, stoA_e, dc_nil, dc_cons, kDc1_e, kDc2_e, kDc3_e, kDic_e, dcR_e, e_dic0, e_dic, ky_nil, ky_cons, kyC_e, ky_int, ky_str, e_lc, kLc_e, kLc2_e, s_ex, walkA_e, kWlk_e, kWlk2_e, wd_lst, wd_tup, wd_str, s_rng1, kRg1_e, s_rng2, kRg2_e, kRg3_e, s_enm, kEnm_e, s_zip, kZip_e, kZip2_e, g_slot, setA_val, setA_own, setA_bor, kSet_e, tgs_nil, tgs_cons, kTgs_e, g_tup, upO_e, upR_e, g_sub, kStp0_e, kStp1_e, stpK_e, spO_e, spR_e, q_nil, q_cons, kSts_nx, kSts_rt, kSts_bk, kSts_ct, kNx_e, x_asg, kAsg_e, kExp_e, x_exp, x_ret0, x_ret, retA_val, retA_own, retA_bor, rtB_own, kIf_t, kIf_f, x_ife, x_pas, x_brk, x_cnt, x_whl, kFor_e, x_for, x_par2, kPar2_e, x_par3, kPar3_e, f_nil, kFor1_e, kFor2_nx, kFor2_ct, kFor2_bk, kFor2_rt, szl, str_inj, tr_non, tr_bl, tr_int, tr_tup, tr_lst, tr_mls, cm_eq, cm_ne, cm_lt, cm_le, cm_gt, cm_ge, cm_ltS, cm_leS, cm_in, cm_nin, cm_isb, cm_isn, cm_isnn, nn_non, nn_bl, nn_int, nn_str, nn_tup, nn_lst, nn_obj, nn_err, nn_mb, eq_dd, eq_ml, eq_lm, eq_mm, dp_non, dp_bl, dp_int, dp_str, dp_tup, dp_lst, dl_nil, dl_cons, q_nn, q_bb, q_ii, q_ss, q_tt, q_ll, q_sn, q_ns, q_is, q_si, q_st, q_ts, q_nt, q_tn, q_in, q_ni, andO_e, orO_e, ql_nil, ql_nc, ql_cn, ql_cc, in_nil, in_tup, in_lst, in_mls, in_sgn, in_mdS, in_dS, mpI_e, ib_add, ib_sub, pw18, pw30, pw40, bn_ss, bn_tt, bn_sm, bn_ll, bn_lm, bn_ml, bn_mm, bn_xl, bn_xm, ln_str, ln_tup, ln_lst, ln_mls, ln_mdc, sb_str, sb_tup, sb_lst, sb_mls, sb_dcS, sb_mdS, at_0, at_1, at_2, at_3, at_4, at_5, gk_nil, gk_cons, pd_nil, pd_cons, so_lst, so_dcS, mg_nil, mg_cons, lnR_e, f_len, f_tupM, f_tupL, f_tupT, f_lsM, f_lsL, f_lsT, f_strS, f_allM, f_anyM, m_app, m_pop, m_ext, m_upp, m_spl, m_joi, mjO_e, sq_lst, sq_tup, vt_tup, vl_lst, vl_mls, noO_e, stpA_e, kStA_e, kStB_t, kStB_f, kStC_e, cnd_n, cnd_s, wip_e, wp_nil, wp_cons, bkO_v, bkO_n, bak_e, bk_nil, bk_cons, trn_nil, kTr_n, kTr_s, oc_rv, oc_ro, oc_nx, oc_x, List.getElem?_cons_zero, List.getElem?_cons_succ, List.getElem?_nil, List.set_cons_zero, List.set_cons_succ, List.length_cons, List.length_nil, Option.map_some, Option.map_none, Option.bind_some, Option.isSome_some, Option.isSome_none, decide_true, decide_false, Bool.not_true, Bool.not_false, Bool.true_and, Bool.false_and, Bool.and_true, Bool.and_false, Bool.true_or, Bool.false_or, Bool.or_true, Bool.or_false, ite_true, ite_false, if_true, if_false, and_self, and_true, true_and, and_false, false_and, Nat.reduceAdd, Nat.reduceLeDiff, Nat.reduceLT, Nat.zero_lt_succ, Nat.reduceSub, Nat.reduceMul, Nat.zero_add, Nat.add_zero, Nat.reduceEqDiff, Nat.max_self, Nat.zero_max, Nat.max_zero, reduceIte, Sum.inr.injEq, Sum.inl.injEq, reduceCtorEq, String.reduceEq, List.isEmpty_cons, List.isEmpty_nil, String.reduceBEq, decide_eq_true_eq, Bool.decide_eq_true, Int.reduceLT, Int.reduceLE, Int.reduceAdd, Int.reduceSub, Int.reduceNeg, Int.reduceEq, Bool.false_eq_true, List.mem_cons, List.not_mem_nil, or_false, false_or, or_true, true_or, Nat.succ_ne_zero, bn_ii, ib_mod, ib_fdiv, ib_mul, not_true_eq_false, not_false_eq_true, List.map_cons, List.map_nil, depL_strs, inL_strs, kRun_e, $[$xs:term],*])
theorem spec0n (k : Nat) (d : Dat) (sto : List Mob) (hp : d.pln = true) (h : isaV tb.T (.dt d) (.ty "str") = some false) : cal (k+2) 0 [d] sto = .ok (.val (.bl false)) sto := by
  rw [cal0]
  unfold ir0
  wide_line with ⟨cc_call, cc_T, f_isi, lk_pln hp, h⟩
theorem spec5n (k : Nat) (d : Dat) (sto : List Mob) (hp : d.pln = true) (h : isaV tb.T (.dt d) (.ty "str") = some false) : cal (k+2) 5 [d] sto = .ok (.val (.bl false)) sto := by
  rw [cal5]
  unfold ir5
  wide_line with ⟨cc_call, cc_T, f_isi, lk_pln hp, h⟩
def Same (d : Dat) : Prop := d.pln = true ∧ ∃ b, ∀ k sto, cal (k + 3) 0 [d] sto = .ok (.val (.bl b)) sto ∧ cal (k + 3) 5 [d] sto = .ok (.val (.bl b)) sto
theorem same_str {x : Str} (h : x.length ≤ 31) : Same (.str x) := ⟨rfl, isW x, fun k sto => ⟨spec0 (k + 1) x sto (by omega), spec5 k x sto (by omega)⟩⟩
theorem same_not {d : Dat} (hp : d.pln = true) (h : isaV tb.T (.dt d) (.ty "str") = some false) : Same d := ⟨hp, false, fun k sto => ⟨spec0n (k + 1) d sto hp h, spec5n (k + 1) d sto hp h⟩⟩
theorem repr_bl (b : Bool) : ∃ x, Vw.bi tb.T .repr (.dt (.bl b)) [] = some (.val (.str x)) := by
  cases b <;> exact ⟨_, rfl⟩
theorem spec8 (ns : List Int) (h : ns.length ≤ 63) (k : Nat) : ∃ sto, cal (k + 8) 8 [.scr (ns.map .int)] [] = .ok (.val (.bl true)) sto := by
  rw [cal8]
  unfold ir8
  have hR := @RESd_e
  unfold RESd at hR
  have e1 : (Vw.dt (Dat.tup (RES.map .str))).eq (.dt (.tup (RES.map .str))) = some true := by
    rw [eq_dd, if_pos (by rw [dp_tup, depL_strs]; decide)]
    rfl
  have e2 : rngOk 12 = true := rfl
  have e3 : rngOk 2 = true := rfl
  wide_line with ⟨cc_call, cc_T, spec1 _ ns h, spec4, hR, e1, e2, beq_self_eq_true⟩
  generalize ht : forA _ _ _ _ _ = o
  obtain ⟨s', ⟨D', a, b, c, d, e, hD', hs'⟩, rfl⟩ := for_inv_of ht (fun i s => ∃ D a b c d e, Drw (1000 * i) D ∧ s = ⟨[.val (.scr (ns.map .int)), .val (.ref 0), a, b, c, d, e], [D]⟩) ⟨_, _, _, _, _, _, ⟨_, _, _, _, rfl, by simp, by decide, by decide, by decide, by decide⟩, rfl⟩ (fun i v s hv ⟨D, a, b, c, d, e, hD, hs⟩ => by
    subst hs
    obtain ⟨rfl, hi⟩ := ints_at hv
    have hi' : i < 12 := hi
    obtain ⟨x1, D1, l1, h1, r1⟩ := spec6 hD (by omega) (k + 3) []
    obtain ⟨x2, D2, m2, h2, r2⟩ := spec3 h1 (by omega) (xs := [.non, .int 5, .bl true, .tup [.str "ann"], .lst [.str "ann"], .dct [], .dct [(.inr "ann", .int 1)], .tup [], .int 1000000000000000000000000000000]) (by simp) (by simp) (k + 4) []
    obtain ⟨x3, D3, l3, h3, r3⟩ := spec7 h2 (by omega) l1 (k + 3) []
    have s1 : Same (.str x1) := same_str (by omega)
    have s3 : Same (.str x3) := same_str l3
    have s2 : Same x2 := by
      simp only [List.mem_cons, List.not_mem_nil, or_false] at m2
      rcases m2 with rfl | rfl | rfl | rfl | rfl | rfl | rfl | rfl | rfl <;> exact same_not rfl rfl
    obtain ⟨p1, v1, c1⟩ := s1
    obtain ⟨p2, v2, c2⟩ := s2
    obtain ⟨p3, v3, c3⟩ := s3
    obtain ⟨z1, q1⟩ := repr_bl v1
    obtain ⟨z2, q2⟩ := repr_bl v2
    obtain ⟨z3, q3⟩ := repr_bl v3
    refine ⟨?f, ?s2, ?h1, ?h2, ?h3⟩
    case h1 =>
      wide_line with ⟨cc_call, cc_T, r1, r2, r3, f_cons, e3, show intsD 0 (Int.toNat 2) = [.int 0, .int 1] from rfl, (c1 _ _).1, (c1 _ _).2, (c2 _ _).1, (c2 _ _).2, (c3 _ _).1, (c3 _ _).2, q1, q2, q3, beq_self_eq_true⟩
      exact rfl
    case h2 => exact .inl rfl
    case h3 => exact ⟨D3, _, _, _, _, _, h3.mono (by omega), rfl⟩)
  clear ht
  subst hs'
  have f0 : RES.filterMap (fun x => some (Dat.bl (isW x))) = List.replicate 26 (.bl false) := by
    rw [fm_some]
    have : RES.map isW = List.replicate 26 false := by decide +kernel
    have e : RES.map (fun x => Dat.bl (isW x)) = (RES.map isW).map .bl := by rw [List.map_map]; rfl
    rw [e, this]
    rfl
  wide_line with ⟨cc_call, cc_T, spec4⟩
  rw [trn_pure (f := fun x => some (.bl (isW x)))]
  · have ew : isW "ann" = true := by decide +kernel
    have er : repOk (0 + 1) 26 = true := by rfl
    have ef : (List.replicate (Int.toNat 26) [Dat.bl false]).flatten = List.replicate 26 (.bl false) := rfl
    have el : depL (List.replicate 26 (Dat.bl false)) = 0 := by rfl
    have eq : eqL (List.replicate 26 (Dat.bl false)) (List.replicate 26 (Dat.bl false)) = some true := by rfl
    have e5 := fun k sto => spec0 k "ann" sto (by decide +kernel)
    rw [f0]
    wide_line with ⟨cc_call, cc_T, List.nil_append, er, ef, el, eq, e5, ew⟩
    exact ⟨_, rfl⟩
  · intro x hx
    have hl := len_res x hx
    have e5 := fun k sto => spec0 k x sto (by omega)
    wide_line with ⟨cc_call, stpA_e, e5⟩
  · decide
end K02
set_option maxHeartbeats 0
namespace K02
open PySem PySem.Spec PyProof.Rows L2 En
def top (i : Nat) : Stmt := PySem.Challenge.pw_duedeeds_k02_words_and_numbers.main.body.getD i (.Pass ⟨0, 0, 0, 0⟩)
abbrev st0 : Stmt := top 8
abbrev st1 : Stmt := top 10
abbrev st2 : Stmt := top 11
abbrev st3 : Stmt := top 12
abbrev st4 : Stmt := top 13
abbrev st5 : Stmt := top 14
abbrev st6 : Stmt := top 15
abbrev st7 : Stmt := top 16
abbrev st8 : Stmt := top 17

def stos0 : List (Nat × Nat) := []
theorem c0 : compSs tb 40 ⟨fnN0, defScope st0, fun _ => true, stos0⟩ (defBody st0) = some ir0 := by kernel_rfl
theorem sc0 : FnScope fnN0 fnP0 (defScope st0) := ⟨rfl, rfl, rfl, by decide +kernel, rfl, by decide +kernel, by decide +kernel⟩
def d0 : He.DefD := ⟨("is_word", none), "is_word", "is_word", defArgs st0, defBody st0, defScope st0, [], []⟩
def stos1 : List (Nat × Nat) := [(15, 11)]
theorem c1 : compSs tb 40 ⟨fnN1, defScope st1, fun _ => true, stos1⟩ (defBody st1) = some ir1 := by kernel_rfl
theorem sc1 : FnScope fnN1 fnP1 (defScope st1) := ⟨rfl, rfl, rfl, by decide +kernel, rfl, by decide +kernel, by decide +kernel⟩
def d1 : He.DefD := ⟨("_law_begin", none), "_law_begin", "_law_begin", defArgs st1, defBody st1, defScope st1, [], []⟩
def stos2 : List (Nat × Nat) := []
theorem c2 : compSs tb 40 ⟨fnN2, defScope st2, fun _ => true, stos2⟩ (defBody st2) = some ir2 := by kernel_rfl
theorem sc2 : FnScope fnN2 fnP2 (defScope st2) := ⟨rfl, rfl, rfl, by decide +kernel, rfl, by decide +kernel, by decide +kernel⟩
def d2 : He.DefD := ⟨("_law_next", none), "_law_next", "_law_next", defArgs st2, defBody st2, defScope st2, [], []⟩
def stos3 : List (Nat × Nat) := []
theorem c3 : compSs tb 40 ⟨fnN3, defScope st3, fun _ => true, stos3⟩ (defBody st3) = some ir3 := by kernel_rfl
theorem sc3 : FnScope fnN3 fnP3 (defScope st3) := ⟨rfl, rfl, rfl, by decide +kernel, rfl, by decide +kernel, by decide +kernel⟩
def d3 : He.DefD := ⟨("_law_pick", none), "_law_pick", "_law_pick", defArgs st3, defBody st3, defScope st3, [], []⟩
def stos4 : List (Nat × Nat) := []
theorem c4 : compSs tb 40 ⟨fnN4, defScope st4, fun _ => true, stos4⟩ (defBody st4) = some ir4 := by kernel_rfl
theorem sc4 : FnScope fnN4 fnP4 (defScope st4) := ⟨rfl, rfl, rfl, by decide +kernel, rfl, by decide +kernel, by decide +kernel⟩
def d4 : He.DefD := ⟨("_law_reserved", none), "_law_reserved", "_law_reserved", defArgs st4, defBody st4, defScope st4, [], []⟩
def stos5 : List (Nat × Nat) := []
theorem c5 : compSs tb 40 ⟨fnN5, defScope st5, fun _ => true, stos5⟩ (defBody st5) = some ir5 := by kernel_rfl
theorem sc5 : FnScope fnN5 fnP5 (defScope st5) := ⟨rfl, rfl, rfl, by decide +kernel, rfl, by decide +kernel, by decide +kernel⟩
def d5 : He.DefD := ⟨("_law_is_word", none), "_law_is_word", "_law_is_word", defArgs st5, defBody st5, defScope st5, [], []⟩
def stos6 : List (Nat × Nat) := []
theorem c6 : compSs tb 40 ⟨fnN6, defScope st6, fun _ => true, stos6⟩ (defBody st6) = some ir6 := by kernel_rfl
theorem sc6 : FnScope fnN6 fnP6 (defScope st6) := ⟨rfl, rfl, rfl, by decide +kernel, rfl, by decide +kernel, by decide +kernel⟩
def d6 : He.DefD := ⟨("_law_drawn", none), "_law_drawn", "_law_drawn", defArgs st6, defBody st6, defScope st6, [], []⟩
def stos7 : List (Nat × Nat) := []
theorem c7 : compSs tb 40 ⟨fnN7, defScope st7, fun _ => true, stos7⟩ (defBody st7) = some ir7 := by kernel_rfl
theorem sc7 : FnScope fnN7 fnP7 (defScope st7) := ⟨rfl, rfl, rfl, by decide +kernel, rfl, by decide +kernel, by decide +kernel⟩
def d7 : He.DefD := ⟨("_law_bent", none), "_law_bent", "_law_bent", defArgs st7, defBody st7, defScope st7, [], []⟩
def stos8 : List (Nat × Nat) := []
theorem c8 : compSs tb 40 ⟨fnN8, defScope st8, fun _ => true, stos8⟩ (defBody st8) = some ir8 := by kernel_rfl
theorem sc8 : FnScope fnN8 fnP8 (defScope st8) := ⟨rfl, rfl, rfl, by decide +kernel, rfl, by decide +kernel, by decide +kernel⟩
def d8 : He.DefD := ⟨("law", none), "law", "law", defArgs st8, defBody st8, defScope st8, [], []⟩
def fn : List He.DefD := [d0, d1, d2, d3, d4, d5, d6, d7, d8]
def fa : List He.Fa := [.glo "is_word", .glo "_law_begin", .glo "_law_next", .glo "_law_pick", .glo "_law_reserved", .glo "_law_is_word", .glo "_law_drawn", .glo "_law_bent", .glo "law", .free "isinstance", .free "str", .free "len", .free "all", .free "range", .free "repr", .free "tuple"]
def ck (K : PySem.W.Frag) : Bool := dats.all fun p => glB K p.1 p.2
def wd (K : PySem.W.Frag) : Wd := ⟨K, fun _ => 0, fun f => He.ga K (fnames.getD f Str.empty)⟩
theorem lookup_mem {α β : Type} [BEq α] [LawfulBEq α] : ∀ {l : List (α × β)} {a : α} {b : β}, l.lookup a = some b → (a, b) ∈ l
  | [], _, _, h => by cases h
  | (x, y) :: r, a, b, h => by
    rw [List.lookup_cons] at h
    by_cases e : (a == x) = true
    · rw [e] at h
      cases h
      rw [beq_iff_eq.mp e]
      exact List.mem_cons_self
    · rw [Bool.not_eq_true] at e
      rw [e] at h
      exact List.mem_cons_of_mem _ (lookup_mem h)
theorem mem_bnds {f n : Nat} {ks : List Str} {sl : List Sl} (h : tb.bnd f n ks = some sl) : ((f, n, ks), sl) ∈ bnds := lookup_mem h
abbrev FF (K : PySem.W.Frag) (d : He.DefD) (fd : FuncData) : Prop := FunD K d.name d.qual d.params d.body d.scope [] [] (He.fAd K d.at_) fd
theorem bd0 {K : PySem.W.Frag} {fd : FuncData} (F : FF K d0 fd) (n : Nat) (ks : List Str) (sl : List Sl) (h : tb.bnd 0 n ks = some sl) : CB K fd fnP0 n ks sl := by
  have hm := mem_bnds h
  simp only [bnds, List.mem_cons, List.mem_nil_iff, or_false, Prod.mk.injEq] at hm
  rcases hm with ⟨⟨e, rfl, rfl⟩, rfl⟩ | ⟨⟨e, rfl, rfl⟩, rfl⟩ | ⟨⟨e, rfl, rfl⟩, rfl⟩ | ⟨⟨e, rfl, rfl⟩, rfl⟩ | ⟨⟨e, rfl, rfl⟩, rfl⟩ | ⟨⟨e, rfl, rfl⟩, rfl⟩ | ⟨⟨e, rfl, rfl⟩, rfl⟩ | ⟨⟨e, rfl, rfl⟩, rfl⟩ | ⟨⟨e, rfl, rfl⟩, rfl⟩ | ⟨⟨e, rfl, rfl⟩, rfl⟩
  · exact cb_of F rfl fun _ _ _ _ _ _ us ws h1 h2 => match us, ws, h1, h2 with | [a0], [], _, _ => ⟨[a0], rfl, (.pos rfl .nil)⟩
  · exact cb_of F rfl fun _ _ _ _ _ _ us ws h1 h2 => match us, ws, h1, h2 with | [], [b0], _, _ => ⟨[b0], rfl, (.kw rfl .nil)⟩
  · exact absurd e (by decide)
  · exact absurd e (by decide)
  · exact absurd e (by decide)
  · exact absurd e (by decide)
  · exact absurd e (by decide)
  · exact absurd e (by decide)
  · exact absurd e (by decide)
  · exact absurd e (by decide)
theorem bd1 {K : PySem.W.Frag} {fd : FuncData} (F : FF K d1 fd) (n : Nat) (ks : List Str) (sl : List Sl) (h : tb.bnd 1 n ks = some sl) : CB K fd fnP1 n ks sl := by
  have hm := mem_bnds h
  simp only [bnds, List.mem_cons, List.mem_nil_iff, or_false, Prod.mk.injEq] at hm
  rcases hm with ⟨⟨e, rfl, rfl⟩, rfl⟩ | ⟨⟨e, rfl, rfl⟩, rfl⟩ | ⟨⟨e, rfl, rfl⟩, rfl⟩ | ⟨⟨e, rfl, rfl⟩, rfl⟩ | ⟨⟨e, rfl, rfl⟩, rfl⟩ | ⟨⟨e, rfl, rfl⟩, rfl⟩ | ⟨⟨e, rfl, rfl⟩, rfl⟩ | ⟨⟨e, rfl, rfl⟩, rfl⟩ | ⟨⟨e, rfl, rfl⟩, rfl⟩ | ⟨⟨e, rfl, rfl⟩, rfl⟩
  · exact absurd e (by decide)
  · exact absurd e (by decide)
  · exact cb_of F rfl fun _ _ _ _ _ _ us ws h1 h2 => match us, ws, h1, h2 with | [a0], [], _, _ => ⟨[a0], rfl, (.pos rfl .nil)⟩
  · exact absurd e (by decide)
  · exact absurd e (by decide)
  · exact absurd e (by decide)
  · exact absurd e (by decide)
  · exact absurd e (by decide)
  · exact absurd e (by decide)
  · exact absurd e (by decide)
theorem bd2 {K : PySem.W.Frag} {fd : FuncData} (F : FF K d2 fd) (n : Nat) (ks : List Str) (sl : List Sl) (h : tb.bnd 2 n ks = some sl) : CB K fd fnP2 n ks sl := by
  have hm := mem_bnds h
  simp only [bnds, List.mem_cons, List.mem_nil_iff, or_false, Prod.mk.injEq] at hm
  rcases hm with ⟨⟨e, rfl, rfl⟩, rfl⟩ | ⟨⟨e, rfl, rfl⟩, rfl⟩ | ⟨⟨e, rfl, rfl⟩, rfl⟩ | ⟨⟨e, rfl, rfl⟩, rfl⟩ | ⟨⟨e, rfl, rfl⟩, rfl⟩ | ⟨⟨e, rfl, rfl⟩, rfl⟩ | ⟨⟨e, rfl, rfl⟩, rfl⟩ | ⟨⟨e, rfl, rfl⟩, rfl⟩ | ⟨⟨e, rfl, rfl⟩, rfl⟩ | ⟨⟨e, rfl, rfl⟩, rfl⟩
  · exact absurd e (by decide)
  · exact absurd e (by decide)
  · exact absurd e (by decide)
  · exact cb_of F rfl fun _ _ _ _ _ _ us ws h1 h2 => match us, ws, h1, h2 with | [a0, a1], [], _, _ => ⟨[a0, a1], rfl, (.pos rfl (.pos rfl .nil))⟩
  · exact absurd e (by decide)
  · exact absurd e (by decide)
  · exact absurd e (by decide)
  · exact absurd e (by decide)
  · exact absurd e (by decide)
  · exact absurd e (by decide)
theorem bd3 {K : PySem.W.Frag} {fd : FuncData} (F : FF K d3 fd) (n : Nat) (ks : List Str) (sl : List Sl) (h : tb.bnd 3 n ks = some sl) : CB K fd fnP3 n ks sl := by
  have hm := mem_bnds h
  simp only [bnds, List.mem_cons, List.mem_nil_iff, or_false, Prod.mk.injEq] at hm
  rcases hm with ⟨⟨e, rfl, rfl⟩, rfl⟩ | ⟨⟨e, rfl, rfl⟩, rfl⟩ | ⟨⟨e, rfl, rfl⟩, rfl⟩ | ⟨⟨e, rfl, rfl⟩, rfl⟩ | ⟨⟨e, rfl, rfl⟩, rfl⟩ | ⟨⟨e, rfl, rfl⟩, rfl⟩ | ⟨⟨e, rfl, rfl⟩, rfl⟩ | ⟨⟨e, rfl, rfl⟩, rfl⟩ | ⟨⟨e, rfl, rfl⟩, rfl⟩ | ⟨⟨e, rfl, rfl⟩, rfl⟩
  · exact absurd e (by decide)
  · exact absurd e (by decide)
  · exact absurd e (by decide)
  · exact absurd e (by decide)
  · exact cb_of F rfl fun _ _ _ _ _ _ us ws h1 h2 => match us, ws, h1, h2 with | [a0, a1], [], _, _ => ⟨[a0, a1], rfl, (.pos rfl (.pos rfl .nil))⟩
  · exact absurd e (by decide)
  · exact absurd e (by decide)
  · exact absurd e (by decide)
  · exact absurd e (by decide)
  · exact absurd e (by decide)
theorem bd4 {K : PySem.W.Frag} {fd : FuncData} (F : FF K d4 fd) (n : Nat) (ks : List Str) (sl : List Sl) (h : tb.bnd 4 n ks = some sl) : CB K fd fnP4 n ks sl := by
  have hm := mem_bnds h
  simp only [bnds, List.mem_cons, List.mem_nil_iff, or_false, Prod.mk.injEq] at hm
  rcases hm with ⟨⟨e, rfl, rfl⟩, rfl⟩ | ⟨⟨e, rfl, rfl⟩, rfl⟩ | ⟨⟨e, rfl, rfl⟩, rfl⟩ | ⟨⟨e, rfl, rfl⟩, rfl⟩ | ⟨⟨e, rfl, rfl⟩, rfl⟩ | ⟨⟨e, rfl, rfl⟩, rfl⟩ | ⟨⟨e, rfl, rfl⟩, rfl⟩ | ⟨⟨e, rfl, rfl⟩, rfl⟩ | ⟨⟨e, rfl, rfl⟩, rfl⟩ | ⟨⟨e, rfl, rfl⟩, rfl⟩
  · exact absurd e (by decide)
  · exact absurd e (by decide)
  · exact absurd e (by decide)
  · exact absurd e (by decide)
  · exact absurd e (by decide)
  · exact cb_of F rfl fun _ _ _ _ _ _ us ws h1 h2 => match us, ws, h1, h2 with | [], [], _, _ => ⟨[], rfl, .nil⟩
  · exact absurd e (by decide)
  · exact absurd e (by decide)
  · exact absurd e (by decide)
  · exact absurd e (by decide)
theorem bd5 {K : PySem.W.Frag} {fd : FuncData} (F : FF K d5 fd) (n : Nat) (ks : List Str) (sl : List Sl) (h : tb.bnd 5 n ks = some sl) : CB K fd fnP5 n ks sl := by
  have hm := mem_bnds h
  simp only [bnds, List.mem_cons, List.mem_nil_iff, or_false, Prod.mk.injEq] at hm
  rcases hm with ⟨⟨e, rfl, rfl⟩, rfl⟩ | ⟨⟨e, rfl, rfl⟩, rfl⟩ | ⟨⟨e, rfl, rfl⟩, rfl⟩ | ⟨⟨e, rfl, rfl⟩, rfl⟩ | ⟨⟨e, rfl, rfl⟩, rfl⟩ | ⟨⟨e, rfl, rfl⟩, rfl⟩ | ⟨⟨e, rfl, rfl⟩, rfl⟩ | ⟨⟨e, rfl, rfl⟩, rfl⟩ | ⟨⟨e, rfl, rfl⟩, rfl⟩ | ⟨⟨e, rfl, rfl⟩, rfl⟩
  · exact absurd e (by decide)
  · exact absurd e (by decide)
  · exact absurd e (by decide)
  · exact absurd e (by decide)
  · exact absurd e (by decide)
  · exact absurd e (by decide)
  · exact cb_of F rfl fun _ _ _ _ _ _ us ws h1 h2 => match us, ws, h1, h2 with | [a0], [], _, _ => ⟨[a0], rfl, (.pos rfl .nil)⟩
  · exact absurd e (by decide)
  · exact absurd e (by decide)
  · exact absurd e (by decide)
theorem bd6 {K : PySem.W.Frag} {fd : FuncData} (F : FF K d6 fd) (n : Nat) (ks : List Str) (sl : List Sl) (h : tb.bnd 6 n ks = some sl) : CB K fd fnP6 n ks sl := by
  have hm := mem_bnds h
  simp only [bnds, List.mem_cons, List.mem_nil_iff, or_false, Prod.mk.injEq] at hm
  rcases hm with ⟨⟨e, rfl, rfl⟩, rfl⟩ | ⟨⟨e, rfl, rfl⟩, rfl⟩ | ⟨⟨e, rfl, rfl⟩, rfl⟩ | ⟨⟨e, rfl, rfl⟩, rfl⟩ | ⟨⟨e, rfl, rfl⟩, rfl⟩ | ⟨⟨e, rfl, rfl⟩, rfl⟩ | ⟨⟨e, rfl, rfl⟩, rfl⟩ | ⟨⟨e, rfl, rfl⟩, rfl⟩ | ⟨⟨e, rfl, rfl⟩, rfl⟩ | ⟨⟨e, rfl, rfl⟩, rfl⟩
  · exact absurd e (by decide)
  · exact absurd e (by decide)
  · exact absurd e (by decide)
  · exact absurd e (by decide)
  · exact absurd e (by decide)
  · exact absurd e (by decide)
  · exact absurd e (by decide)
  · exact cb_of F rfl fun _ _ _ _ _ _ us ws h1 h2 => match us, ws, h1, h2 with | [a0], [], _, _ => ⟨[a0], rfl, (.pos rfl .nil)⟩
  · exact absurd e (by decide)
  · exact absurd e (by decide)
theorem bd7 {K : PySem.W.Frag} {fd : FuncData} (F : FF K d7 fd) (n : Nat) (ks : List Str) (sl : List Sl) (h : tb.bnd 7 n ks = some sl) : CB K fd fnP7 n ks sl := by
  have hm := mem_bnds h
  simp only [bnds, List.mem_cons, List.mem_nil_iff, or_false, Prod.mk.injEq] at hm
  rcases hm with ⟨⟨e, rfl, rfl⟩, rfl⟩ | ⟨⟨e, rfl, rfl⟩, rfl⟩ | ⟨⟨e, rfl, rfl⟩, rfl⟩ | ⟨⟨e, rfl, rfl⟩, rfl⟩ | ⟨⟨e, rfl, rfl⟩, rfl⟩ | ⟨⟨e, rfl, rfl⟩, rfl⟩ | ⟨⟨e, rfl, rfl⟩, rfl⟩ | ⟨⟨e, rfl, rfl⟩, rfl⟩ | ⟨⟨e, rfl, rfl⟩, rfl⟩ | ⟨⟨e, rfl, rfl⟩, rfl⟩
  · exact absurd e (by decide)
  · exact absurd e (by decide)
  · exact absurd e (by decide)
  · exact absurd e (by decide)
  · exact absurd e (by decide)
  · exact absurd e (by decide)
  · exact absurd e (by decide)
  · exact absurd e (by decide)
  · exact cb_of F rfl fun _ _ _ _ _ _ us ws h1 h2 => match us, ws, h1, h2 with | [a0, a1], [], _, _ => ⟨[a0, a1], rfl, (.pos rfl (.pos rfl .nil))⟩
  · exact absurd e (by decide)
theorem bd8 {K : PySem.W.Frag} {fd : FuncData} (F : FF K d8 fd) (n : Nat) (ks : List Str) (sl : List Sl) (h : tb.bnd 8 n ks = some sl) : CB K fd fnP8 n ks sl := by
  have hm := mem_bnds h
  simp only [bnds, List.mem_cons, List.mem_nil_iff, or_false, Prod.mk.injEq] at hm
  rcases hm with ⟨⟨e, rfl, rfl⟩, rfl⟩ | ⟨⟨e, rfl, rfl⟩, rfl⟩ | ⟨⟨e, rfl, rfl⟩, rfl⟩ | ⟨⟨e, rfl, rfl⟩, rfl⟩ | ⟨⟨e, rfl, rfl⟩, rfl⟩ | ⟨⟨e, rfl, rfl⟩, rfl⟩ | ⟨⟨e, rfl, rfl⟩, rfl⟩ | ⟨⟨e, rfl, rfl⟩, rfl⟩ | ⟨⟨e, rfl, rfl⟩, rfl⟩ | ⟨⟨e, rfl, rfl⟩, rfl⟩
  · exact absurd e (by decide)
  · exact absurd e (by decide)
  · exact absurd e (by decide)
  · exact absurd e (by decide)
  · exact absurd e (by decide)
  · exact absurd e (by decide)
  · exact absurd e (by decide)
  · exact absurd e (by decide)
  · exact absurd e (by decide)
  · exact cb_of F rfl fun _ _ _ _ _ _ us ws h1 h2 => match us, ws, h1, h2 with | [a0], [], _, _ => ⟨[a0], rfl, (.pos rfl .nil)⟩
theorem ws {K : PySem.W.Frag} {h : Heap} {mg : Str → Option Value} (X : K.In h) (G : h.Ns mainGlobals mg) (c : SaysE ck fa fn K) : Ws (wd K) tb tab mg := by
  obtain ⟨ck1, cs⟩ := c.both
  refine ⟨?_, ?_, ?_, ?_, ?_, ?_, ?_, ?_, ?_, ?_, ?_, ?_⟩
  · intro f fn' hf
    match f, hf with
    | 0, hf =>
      obtain ⟨fd, F⟩ := cs.def_ 0 (d := d0) rfl
      cases hf
      exact ⟨fd, fnP0, fnW_of (W := wd K) F sc0 c0 rfl (bd0 F) fun _ _ h => (by cases h)⟩
    | 1, hf =>
      obtain ⟨fd, F⟩ := cs.def_ 1 (d := d1) rfl
      cases hf
      exact ⟨fd, fnP1, fnW_of (W := wd K) F sc1 c1 rfl (bd1 F) fun _ _ h => (by cases h)⟩
    | 2, hf =>
      obtain ⟨fd, F⟩ := cs.def_ 2 (d := d2) rfl
      cases hf
      exact ⟨fd, fnP2, fnW_of (W := wd K) F sc2 c2 rfl (bd2 F) fun _ _ h => (by cases h)⟩
    | 3, hf =>
      obtain ⟨fd, F⟩ := cs.def_ 3 (d := d3) rfl
      cases hf
      exact ⟨fd, fnP3, fnW_of (W := wd K) F sc3 c3 rfl (bd3 F) fun _ _ h => (by cases h)⟩
    | 4, hf =>
      obtain ⟨fd, F⟩ := cs.def_ 4 (d := d4) rfl
      cases hf
      exact ⟨fd, fnP4, fnW_of (W := wd K) F sc4 c4 rfl (bd4 F) fun _ _ h => (by cases h)⟩
    | 5, hf =>
      obtain ⟨fd, F⟩ := cs.def_ 5 (d := d5) rfl
      cases hf
      exact ⟨fd, fnP5, fnW_of (W := wd K) F sc5 c5 rfl (bd5 F) fun _ _ h => (by cases h)⟩
    | 6, hf =>
      obtain ⟨fd, F⟩ := cs.def_ 6 (d := d6) rfl
      cases hf
      exact ⟨fd, fnP6, fnW_of (W := wd K) F sc6 c6 rfl (bd6 F) fun _ _ h => (by cases h)⟩
    | 7, hf =>
      obtain ⟨fd, F⟩ := cs.def_ 7 (d := d7) rfl
      cases hf
      exact ⟨fd, fnP7, fnW_of (W := wd K) F sc7 c7 rfl (bd7 F) fun _ _ h => (by cases h)⟩
    | 8, hf =>
      obtain ⟨fd, F⟩ := cs.def_ 8 (d := d8) rfl
      cases hf
      exact ⟨fd, fnP8, fnW_of (W := wd K) F sc8 c8 rfl (bd8 F) fun _ _ h => (by cases h)⟩
    | n + 9, hf => cases hf
  · intro f n ks sl hb
    have hm := mem_bnds hb
    simp only [bnds, List.mem_cons, List.mem_nil_iff, or_false, Prod.mk.injEq] at hm
    rcases hm with ⟨⟨rfl, _⟩, _⟩ | ⟨⟨rfl, _⟩, _⟩ | ⟨⟨rfl, _⟩, _⟩ | ⟨⟨rfl, _⟩, _⟩ | ⟨⟨rfl, _⟩, _⟩ | ⟨⟨rfl, _⟩, _⟩ | ⟨⟨rfl, _⟩, _⟩ | ⟨⟨rfl, _⟩, _⟩ | ⟨⟨rfl, _⟩, _⟩ | ⟨⟨rfl, _⟩, _⟩ <;> exact ⟨_, rfl⟩
  · intro c m f h
    cases h
  · intro f fn' hf
    match f, hf with
    | 0, hf =>
      obtain ⟨fd, F⟩ := cs.def_ 0 (d := d0) rfl
      exact F.kp
    | 1, hf =>
      obtain ⟨fd, F⟩ := cs.def_ 1 (d := d1) rfl
      exact F.kp
    | 2, hf =>
      obtain ⟨fd, F⟩ := cs.def_ 2 (d := d2) rfl
      exact F.kp
    | 3, hf =>
      obtain ⟨fd, F⟩ := cs.def_ 3 (d := d3) rfl
      exact F.kp
    | 4, hf =>
      obtain ⟨fd, F⟩ := cs.def_ 4 (d := d4) rfl
      exact F.kp
    | 5, hf =>
      obtain ⟨fd, F⟩ := cs.def_ 5 (d := d5) rfl
      exact F.kp
    | 6, hf =>
      obtain ⟨fd, F⟩ := cs.def_ 6 (d := d6) rfl
      exact F.kp
    | 7, hf =>
      obtain ⟨fd, F⟩ := cs.def_ 7 (d := d7) rfl
      exact F.kp
    | 8, hf =>
      obtain ⟨fd, F⟩ := cs.def_ 8 (d := d8) rfl
      exact F.kp
    | n + 9, hf => cases hf
  · intro c m f h
    cases h
  · intro c m f h
    cases h
  · intro x d h
    have h' : gl x = some (.dat d) := h
    unfold gl at h'
    split at h'
    · rename_i d' q
      cases h'
      exact glB_ok (W := wd K) X G (List.all_eq_true.mp ck1 _ (lookup_mem q))
    · obtain ⟨i, _, e⟩ := Option.map_eq_some_iff.mp h'
      cases e
  · intro x c h
    have h' : gl x = some (.cls c) := h
    unfold gl at h'
    split at h'
    · cases h'
    · obtain ⟨i, _, e⟩ := Option.map_eq_some_iff.mp h'
      cases e
  · intro x f h
    have h' : gl x = some (.fn f) := h
    unfold gl at h'
    split at h'
    · cases h'
    · obtain ⟨i, e1, e⟩ := Option.map_eq_some_iff.mp h'
      cases e
      have hi := ixOf_ok e1
      match f, hi with
      | 0, hi =>
        obtain rfl : "is_word" = x := Option.some.inj hi
        exact He.glo_ok X G (cs.fact 0 (f := .glo "is_word") rfl)
      | 1, hi =>
        obtain rfl : "_law_begin" = x := Option.some.inj hi
        exact He.glo_ok X G (cs.fact 1 (f := .glo "_law_begin") rfl)
      | 2, hi =>
        obtain rfl : "_law_next" = x := Option.some.inj hi
        exact He.glo_ok X G (cs.fact 2 (f := .glo "_law_next") rfl)
      | 3, hi =>
        obtain rfl : "_law_pick" = x := Option.some.inj hi
        exact He.glo_ok X G (cs.fact 3 (f := .glo "_law_pick") rfl)
      | 4, hi =>
        obtain rfl : "_law_reserved" = x := Option.some.inj hi
        exact He.glo_ok X G (cs.fact 4 (f := .glo "_law_reserved") rfl)
      | 5, hi =>
        obtain rfl : "_law_is_word" = x := Option.some.inj hi
        exact He.glo_ok X G (cs.fact 5 (f := .glo "_law_is_word") rfl)
      | 6, hi =>
        obtain rfl : "_law_drawn" = x := Option.some.inj hi
        exact He.glo_ok X G (cs.fact 6 (f := .glo "_law_drawn") rfl)
      | 7, hi =>
        obtain rfl : "_law_bent" = x := Option.some.inj hi
        exact He.glo_ok X G (cs.fact 7 (f := .glo "_law_bent") rfl)
      | 8, hi =>
        obtain rfl : "law" = x := Option.some.inj hi
        exact He.glo_ok X G (cs.fact 8 (f := .glo "law") rfl)
      | n + 9, hi => cases hi
  · intro x h
    have h' : x ∈ frees := by simpa [tb] using h
    simp only [frees, List.mem_cons, List.mem_nil_iff, or_false] at h'
    rcases h' with rfl | rfl | rfl | rfl | rfl | rfl | rfl
    · exact He.free_ok X G (cs.fact 9 (f := .free "isinstance") rfl)
    · exact He.free_ok X G (cs.fact 10 (f := .free "str") rfl)
    · exact He.free_ok X G (cs.fact 11 (f := .free "len") rfl)
    · exact He.free_ok X G (cs.fact 12 (f := .free "all") rfl)
    · exact He.free_ok X G (cs.fact 13 (f := .free "range") rfl)
    · exact He.free_ok X G (cs.fact 14 (f := .free "repr") rfl)
    · exact He.free_ok X G (cs.fact 15 (f := .free "tuple") rfl)
  · intro c f h
    cases h
  · exact ⟨fun _ _ _ h => (by cases h), fun _ _ _ h => (by cases h), fun _ _ _ h => (by cases h)⟩
abbrev R : PySem.W.OpenRow := PySem.W.OpenLaw.row PySem.Challenge.rw_duedeeds_k02_words_and_numbers
abbrev hk : PySem.W.Hook := hookE 6 ck fa fn
def ob (s : PySem.W.SharedT) : He.AlD := obsE 6 ck fa fn (HandSHeadRun.getT s)
theorem ob_eq (s : PySem.W.SharedT) : ob s = hk.obs s.abs := obsE_eq (HandSHeadRun.getT_eq s)
def loose : List Str := ["LETTERS", "RESERVED", "LONGEST", "MAX_DAYS", "MAX_TIMES", "MAX_PARTS", "MAX_LEVELS", "is_word", "_law_begin", "_law_next", "_law_pick", "_law_reserved", "_law_is_word", "_law_drawn", "_law_bent"]
theorem run (w : World) : HandSHeadRun.RunEq R (PySem.W.view R.prog [17]) hk ob 400 loose w := by
  intro os
  kernel_rfl
theorem plain (ns : List Int) (h : ns.length ≤ 63) : ∃ sto, calT tb 1000000 100 tab 12 8 [.scr (ns.map Dat.int)] [] = .ok (.val (.bl true)) sto := spec8 ns h 4
theorem facts {P : Program} {w : World} {K : PySem.W.Frag} {h : Heap} {mg : Str → Option Value} {f : Addr} (X : K.In h) (G : h.Ns mainGlobals mg) (hfa : mg ("law" : Str) = some (.ref f)) (c : SaysE ck fa fn K) :
    ∃ fd : FuncData, (∀ (s : Shared) (v : Value), BindsTo s fd ⟨[v], []⟩ [("_law_script", v)]) ∧ ∀ base : Heap, FnG P w K mg base 12 f fd ["_law_script"] (spF (wd K) 1 (calT tb 1000000 100 tab 12 8)) := by
  obtain ⟨fd, F⟩ := c.both.2.def_ 8 (d := d8) rfl
  have e := hfa.symm.trans (He.glo_ok X G (c.both.2.fact 8 (f := .glo "law") rfl))
  cases e
  have b := FunD.bindsA (ps := ["_law_script"]) F fun _ _ _ _ _ _ us hl => match us, hl with | [_], _ => rfl
  refine ⟨fd, fun s v => b s [v] rfl, fun base => ?_⟩
  exact calG (W := wd K) (ws X G c) base 12 (f := 8) (fn := ⟨fnN8, fnP8.length, ir8⟩) (ps := fnP8) rfl (fnW_of (W := wd K) F sc8 c8 rfl (bd8 F) fun _ _ h => (by cases h))
end K02
open PySem PySem.W PySem.Calls PyProof.Rows
theorem PySem.Challenge.cw_duedeeds_k02_words_and_numbers_holds : PySem.Challenge.rw_duedeeds_k02_words_and_numbers.Holds := by
  w_on; o_law
  refine HandSHeadRun.head_any (r := OpenLaw.row PySem.Challenge.rw_duedeeds_k02_words_and_numbers) (q := view (OpenLaw.row PySem.Challenge.rw_duedeeds_k02_words_and_numbers).prog [17]) (H := K02.hk) (ob := K02.ob) (M := 400) (loose := K02.loose) (d := HandSHeadRun.topDef (OpenLaw.row PySem.Challenge.rw_duedeeds_k02_words_and_numbers).prog 17) (kwd := []) K02.ob_eq
    (by kernel_rfl) (fun s => by kernel_rfl) K02.run (by kernel_rfl) (by kernel_rfl) (by kernel_rfl) (by rfl) (by first | assumption | decide +kernel) (by decide +kernel) ⟨rfl, rfl, rfl, rfl, rfl, by decide +kernel⟩ ?hw ?hc
  case hw => w_witness2
  case hc =>
    refine En.walkG (l := PySem.Challenge.rw_duedeeds_k02_words_and_numbers) (n := 63) (k := 12) (x := "_law_script") rfl (by decide) (by kernel_rfl) ⟨rfl, by decide, by decide⟩ ?F
    intro w mg fa h Y G hmg0
    obtain ⟨K, KX, c⟩ := Y
    have hmg : mg ("law" : PySem.Str) = some (.ref fa) := by
      have e : (HandSHeadRun.topDef (OpenLaw.row PySem.Challenge.rw_duedeeds_k02_words_and_numbers).prog 17).name = ("law" : PySem.Str) := by kernel_rfl
      rw [← e]
      exact hmg0
    obtain ⟨fd, hb, hF⟩ := K02.facts (P := (PySem.Challenge.rw_duedeeds_k02_words_and_numbers).prog) (w := w) KX G hmg c
    exact ⟨K, fd, _, KX, hb, fun H a ns hl only sq => En.law_sp (W := K02.wd K) only sq (K02.plain ns hl), fun base _ _ => hF base⟩
